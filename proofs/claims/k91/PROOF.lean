import PyProof.Rows.All
import Wide.All
import OpenK.AllK
import Wide.FinOn
import HandS.ForMost
import HandS.Wide
import HandS.Zip
import HandS.IsInst
import HandS.NoneIn
import KE.DataFind
import KE.KTupSum
import HandS.Deep
import HandS.Defaults
import HandS.HeadEnd
import HandS.EndBits
import HandS.SortRule
import HandS.Text
import HandS.Codes
import HandS.FStr
import PyProof.ReprRoads
import PyProof.ReprHeadsTuple
import PyProof.CallStr
import HandS.Iter
import HandS.Style
import HandS.More
import HandS.Head0
import HandS.Head1
import HandS.Head2
import HandS.HeadHook1
import HandS.HeadHook2
import HandS.ExcOwn
import HandS.TryOnly
import HandS.WordsExc
import HandS.ExcIs
import HandS.HeadHook4
import KE.IntTextLaws
import PySem.Challenge.RW_steermill_k91_tables_as_texts
set_option Elab.async false
set_option linter.all false
set_option maxRecDepth 100000
namespace VI
open PySem PySem.Spec PyProof.Rows L2
def SeerK (K : PySem.W.Frag) : Prop := ∀ h : Heap, K.In h → h.NoSeer
theorem look_app {K K2 : PySem.W.Frag} {a : Addr} {o : Obj} (e : K.lookup a = some o) : (K ++ K2).lookup a = some o := by
  induction K with
  | nil => cases e
  | cons p r ih =>
    obtain ⟨b, x⟩ := p
    rw [List.cons_append]
    by_cases hb : a == b
    · simp only [List.lookup, hb] at e ⊢
      exact e
    · have hb : (a == b) = false := by simpa using hb
      simp only [List.lookup, hb] at e ⊢
      exact ih e
theorem look_or {K K2 : PySem.W.Frag} {a : Addr} {o : Obj} (e : (K ++ K2).lookup a = some o) : K.lookup a = some o ∨ K2.lookup a = some o := by
  induction K with
  | nil => exact .inr e
  | cons p r ih =>
    obtain ⟨b, x⟩ := p
    rw [List.cons_append] at e
    by_cases hb : a == b
    · simp only [List.lookup, hb] at e ⊢
      exact .inl e
    · have hb : (a == b) = false := by simpa using hb
      simp only [List.lookup, hb] at e ⊢
      exact ih e
theorem look_mem {K : PySem.W.Frag} {a : Addr} {o : Obj} (e : K.lookup a = some o) : (a, o) ∈ K := by
  induction K with
  | nil => cases e
  | cons p r ih =>
    obtain ⟨b, x⟩ := p
    by_cases hb : a == b
    · simp only [List.lookup, hb] at e
      cases e
      rw [beq_iff_eq.mp hb]
      exact List.mem_cons_self ..
    · have hb : (a == b) = false := by simpa using hb
      simp only [List.lookup, hb] at e
      exact List.mem_cons_of_mem _ (ih e)
theorem look_of {K : PySem.W.Frag} {a : Addr} (e : ∃ o, (a, o) ∈ K) : ∃ o, K.lookup a = some o := by
  induction K with
  | nil => obtain ⟨o, e⟩ := e; cases e
  | cons p r ih =>
    obtain ⟨b, x⟩ := p
    by_cases hb : a == b
    · exact ⟨x, by simp only [List.lookup, hb]⟩
    · have hb' : (a == b) = false := by simpa using hb
      obtain ⟨o, e⟩ := e
      rcases List.mem_cons.mp e with e | e
      · cases e
        simp at hb
      · obtain ⟨o', e'⟩ := ih ⟨o, e⟩
        exact ⟨o', by simp only [List.lookup, hb']; exact e'⟩
theorem in_app {K K2 : PySem.W.Frag} {h : Heap} (hk : K.In h) (h2 : ∀ p ∈ K2, h.get? p.1 = some p.2) : (K ++ K2).In h := fun a o e => (look_or e).elim (hk a o) fun e => h2 _ (look_mem e)
theorem seer_more {K : PySem.W.Frag} {h : Heap} (hk : K.In h) (n : h.NoSeer) : ∃ K2 : PySem.W.Frag, (K ++ K2).In h ∧ SeerK (K ++ K2) := by
  obtain ⟨⟨mc, ⟨o1, e1, p1, g1, r1⟩, c1⟩, ⟨mm, ⟨o2, e2, p2, g2, r2⟩, c2⟩, ⟨mb, ⟨o3, e3, p3, g3, r3⟩, c3⟩, mg, bm, ob, ⟨o4, e4, p4, g4, r4⟩, c4, g5, c5⟩ := n
  refine ⟨[(cStatics, o1), (sysModules, o2), (builtinsNs, o3), (mainGlobals, o4), (bm, ob)], in_app hk fun p hp => ?_, fun h' hk' => ?_⟩
  · simp only [List.mem_cons, List.not_mem_nil, or_false] at hp
    rcases hp with rfl | rfl | rfl | rfl | rfl <;> assumption
  · have at_ : ∀ a o, (a, o) ∈ [(cStatics, o1), (sysModules, o2), (builtinsNs, o3), (mainGlobals, o4), (bm, ob)] → h.get? a = some o → h'.get? a = some o := fun a o hm hg => by
      obtain ⟨o', hl⟩ := look_of ⟨o, hm⟩
      have hl' : ∃ o'', (K ++ [(cStatics, o1), (sysModules, o2), (builtinsNs, o3), (mainGlobals, o4), (bm, ob)]).lookup a = some o'' := look_of ⟨o, List.mem_append_right _ hm⟩
      obtain ⟨o'', hl'⟩ := hl'
      have q : h.get? a = some o'' := (look_or hl').elim (hk a _) fun e => by
        have := look_mem e
        simp only [List.mem_cons, List.not_mem_nil, or_false] at this
        rcases this with z | z | z | z | z <;> cases z <;> assumption
      rw [hg] at q
      cases q
      exact hk' _ _ hl'
    exact ⟨⟨mc, ⟨o1, e1, p1, at_ _ _ (by simp) g1, r1⟩, c1⟩, ⟨mm, ⟨o2, e2, p2, at_ _ _ (by simp) g2, r2⟩, c2⟩, ⟨mb, ⟨o3, e3, p3, at_ _ _ (by simp) g3, r3⟩, c3⟩, mg, bm, ob, ⟨o4, e4, p4, at_ _ _ (by simp) g4, r4⟩, c4, at_ _ _ (by simp) g5, c5⟩
theorem keep_more {K K2 : PySem.W.Frag} {a : Addr} {oc : Value} {od : Option Addr} {fd : FuncData} {os : Array (Option Value)} (e : K.lookup a = some ⟨oc, od, .func fd, os⟩) : PySem.W.keepIn (K ++ K2) (.ref a) = true := by
  unfold PySem.W.keepIn
  simp only [look_app (K2 := K2) e]
theorem code_more {K K2 : PySem.W.Frag} {cd : Value} {q : Str} (e : PySem.W.codeIn K cd q = true) : PySem.W.codeIn (K ++ K2) cd q = true := by
  unfold PySem.W.codeIn at e ⊢
  split at e
  · split at e
    · rename_i c _ _ _ _ hc
      simp only [look_app (K2 := K2) hc]
      exact e
    · cases e
  · cases e
theorem fund_more {K K2 : PySem.W.Frag} {x qual : Str} {params : Arguments} {body : List Stmt} {scope : Scope} {f : Addr} {fd : FuncData} (F : FunD K x qual params body scope [] [] f fd) : FunD (K ++ K2) x qual params body scope [] [] f fd := by
  obtain ⟨⟨oc, od, dV, kV, doc, pm, an, cdv, ct, osl, e1, e2, e3, e4, e5⟩, _⟩ := F
  refine ⟨⟨oc, od, dV, kV, doc, pm, an, cdv, ct, osl, e1, look_app e2, code_more e3, ?_, .inl rfl⟩, keep_more e2⟩
  rcases e4 with ⟨_, z⟩ | ⟨z, _⟩
  · exact .inl ⟨rfl, z⟩
  · exact (z rfl).elim
def StkOk (st : List PySem.Env) : Prop := ∃ (env : PySem.Env) (l : List PySem.Env), st = env :: l ∧ env.scope.isGenerator = false ∧ env.scope.isCoroutine = false ∧ env.builtins = builtinsNs ∧ env.globals = mainGlobals
structure DivOk (X : Cx) : Prop where
  seer : SeerK X.K
  tree : X.prog.given.tree = none
  stk : StkOk X.stack
  deep : X.A.depth + Builtin.pylongFrames < recursionLimit
theorem op_fdivS {X : Cx} (d : DivOk X) : OpR X (binaryOp .FloorDiv) (rI (fun _ j => j ≠ 0) fun i j => .int (i.fdiv j)) := by
  intro pins s σ H x y v u Q I rx ry h
  obtain ⟨i, j, e1, e2, hc, q⟩ := h
  subst e1 e2
  obtain ⟨t, e1⟩ := rx
  obtain ⟨t', e2⟩ := ry
  subst e1 e2
  obtain ⟨env, l, k1, k2, k3, k4, k5⟩ := d.stk
  have hs : SeerAt (model X.prog X.w) X.A s.heap := SeerAt.of (d.seer _ I.kIn) d.tree (I.ok.frames.trans (congrArg some k1)) k2 k3 k4 k5
  exact floordiv_int hc ⟨.int (i.fdiv j), H, I.tok _, ⟨_, rfl⟩, q⟩ (.inr (PylongRoom.of I.nolimit d.deep hs))
theorem walk_ofS {l : PySem.W.OpenLaw} {n k : Nat} {q : Program} {loose : List Str} {XP : (Str → Option Value) → Heap → Prop} {YP : World → Heap → Prop} {d : DefRec} {CX : CXT} {x : Str} (hi : importsNone q = true)
    (hn : l.most = some n) (hn2 : n ≤ sizeLine) (hdf : d.params.defaults = []) (hr : Room k callerA)
    (F : ∀ (w : World) (mg : Str → Option Value) (fa : Addr) (h : Heap), YP w h → h.NoSeer → h.Ns mainGlobals mg → mg d.name = some (.ref fa) →
      ∃ (K : PySem.W.Frag) (fd : FuncData) (sp : Sp), K.In h ∧ (∀ (s : Shared) (u : Value), BindsTo s fd ⟨[u], []⟩ [(x, u)]) ∧ (∀ (H : Hp) (a : Addr) (ns : List Int), ns.length ≤ n → (∀ z ∈ ns, Builtin.Int.intBits z ≤ 1048576) → Only H → SqL K H a (ns.map V.int) → sp [.ref a] H (fun v _ => v = .bl true) fun _ _ _ => False) ∧
        ∀ base : Heap, K.In base → base.Ns mainGlobals mg → FnOk l.prog w K mg base CX k fa fd [x] sp)
    (hCX : ∀ (H : Hp) (s : Shared) (e : Value) (s' : Shared), CX [] H s (fun _ _ _ => False) e s' → False) : PySem.W.WalkO q loose XP YP l.row.toRowW d [] (fun f vs => PySem.call f vs) := by
  refine Att.attach_callB hn hdf fun w s0 s1 mg mb fa o pm cd doc a vs ns Gr Y ho hd hcd hmg hobj hints hlen hbits hgens => ?_
  obtain ⟨K, fd, sp, kx, hb, hsp, hF⟩ := F w mg fa _ Y (Gr.T.seer hi) Gr.T.g hmg
  exact law_call kx Gr.T.g Gr.T.b Gr.T.builtins Gr.T.nolimit hgens hobj hints (Nat.le_trans hlen hn2) hr hF hb (fun H hO hS => hsp H a ns hlen hbits hO hS) fun H e s' => hCX H s1 e s'
end VI
set_option Elab.async false
set_option linter.all false
set_option maxRecDepth 100000
set_option maxHeartbeats 4000000
namespace VI
open PySem PySem.Spec PyProof.Rows L2
abbrev IsZipR (h : Heap) (z TI TO : Addr) (f0 : Value) (b : Bool) : Prop :=
  h.get? z = some { cls := .type "zip", dict := none, data := .fields #[f0, .bool b, .bool false, .ref TI, .ref TO], slots := #[] }
def IsZipA (h : Heap) (z TI TO : Addr) : Prop := ∃ f0 b, (f0 = .none ∨ ∃ a : Nat, f0 = rawInt a) ∧ IsZipR h z TI TO f0 b
section
variable {prog : Program} {w : World} {A : Around} {E : Value → Shared → Prop} {s : Shared}
theorem wp_alive {a : Addr} {Q : Option Obj → Shared → Prop} (h : Q (s.heap.get? a) s) : wpAny (model prog w) A (loadIfAlive a) Q E s := fun _ _ _ => h
theorem zip_free {z TI TO : Addr} {Q : Bool → Shared → Prop} (hz : IsZipA s.heap z TI TO) (h1 : Q true s)
    (h2 : ∀ h', IsZipA h' z TI TO → Heap.SameBut z s.heap h' → Q false { s with heap := h' }) : wpAny (model prog w) A (Builtin.SmallTypes.ownedTupleIsFree (.ref z)) Q E s := by
  obtain ⟨f0, b, h0, hz⟩ := hz
  unfold Builtin.SmallTypes.ownedTupleIsFree
  rcases h0 with rfl | ⟨a, rfl⟩
  · exact wpAny_bind (wpAny_field hz rfl (x := .none) rfl (wpAny_pure h1))
  · refine wpAny_bind (wpAny_field hz rfl (x := rawInt a) rfl ?_)
    unfold rawInt
    simp only []
    refine wpAny_bind (wp_alive ?_)
    by_cases hn : (s.heap.get? (a : Int).toNat).isNone = true
    · rw [if_pos hn]
      exact wpAny_pure h1
    · rw [if_neg hn]
      refine wpAny_bind (wpAny_field hz rfl (x := .bool b) rfl ?_)
      cases b
      · rw [if_pos (by rfl)]
        refine wpAny_bind (wpAny_setField_rec hz (by simp) fun h' hz' hs' => wpAny_pure ?_)
        exact h2 h' ⟨rawInt a, true, .inr ⟨a, rfl⟩, hz'⟩ hs'
      · rw [if_neg (by decide)]
        refine wpAny_pure ?_
        exact h2 s.heap ⟨rawInt a, true, .inr ⟨a, rfl⟩, hz⟩ ⟨rfl, fun _ _ => rfl⟩
theorem IsZipA.set {h h' : Heap} {z TI TO : Addr} (hz : IsZipA h z TI TO) (e : ∀ o, h.get? z = some o → h'.get? z = some o) : IsZipA h' z TI TO :=
  let ⟨f0, b, h0, q⟩ := hz
  ⟨f0, b, h0, e _ q⟩
theorem zipA_item {z TI TO i1 i2 l1 l2 : Addr} {k1 k2 : Nat} {xs ys : Array Value} {x y : Value} {Q : Value → Shared → Prop} (D : ZipApart z TI TO i1 i2 l1 l2)
    (hz : IsZipA s.heap z TI TO) (hTI : IsPair s.heap TI (.ref i1) (.ref i2)) (hTO : ∃ a b, IsPair s.heap TO a b)
    (h1 : s.heap.IsListIter i1 l1 k1) (h2 : s.heap.IsListIter i2 l2 k2) (hl1 : s.heap.IsList l1 xs) (hl2 : s.heap.IsList l2 ys) (hx : xs[k1]? = some x) (hy : ys[k2]? = some y)
    (hQ : ∀ h', IsZipA h' z TI TO → (∃ a b, IsPair h' TO a b) → h'.IsListIter i1 l1 (k1 + 1) → h'.IsListIter i2 l2 (k2 + 1) → IsPair h' s.heap.objs.size x y → h'.objs.size = s.heap.objs.size + 1 →
      (∀ c o, c ≠ z → c ≠ TO → c ≠ i1 → c ≠ i2 → s.heap.get? c = some o → h'.get? c = some o) → Q (.ref s.heap.objs.size) { s with heap := h' }) :
    wpAny (model prog w) A (Builtin.«zip.__next__» ⟨[.ref z], []⟩) (fun fin s' => ∃ v, fin = .done (.ret v) ∧ Q v s') E s := by
  obtain ⟨a, b, hTO⟩ := hTO
  show wpAny _ _ (field (.ref z) 2 >>= _) _ _ _
  have hzA := hz
  obtain ⟨f0, b0, h0, hz⟩ := hz
  refine wpAny_bind (wpAny_field hz rfl (x := .bool false) rfl ?_)
  show wpAny _ _ (field (.ref z) 3 >>= _) _ _ _
  refine wpAny_bind (wpAny_field hz rfl (x := .ref TI) rfl ?_)
  refine wpAny_bind (wpAny_seqItems hTI rfl ?_)
  show wpAny _ _ (Builtin.SmallTypes.ownedTupleIsFree (.ref z) >>= _) _ _ _
  refine wpAny_bind (zip_free hzA ?_ fun h₁ hz₁ hs₁ => ?_)
  · simp only [if_true]
    refine wpAny_bind (wpAny_rule ?_)
    refine wpAny_bind (wpAny_field hz rfl (x := .ref TO) rfl ?_)
    refine wpAny_bind (wpAny_setField_rec hz (by simp) fun h₁ hz₁ hs₁ => ?_)
    replace hz₁ : IsZipR h₁ z TI TO .ellipsis b0 := hz₁
    refine wpAny_bind ?_
    simp only [List.zipIdx_cons, List.zipIdx_nil, List.forIn_cons, List.forIn_nil]
    refine wpAny_bind (wpAny_bind (wpAny_onRaise ?_))
    show wpAny _ _ (Builtin.SmallTypes.nextOf (.ref i1) >>= _) _ _ _
    refine wpAny_bind (wpAny_nextOf_list_item (h1.extBut hs₁.extBut D.i1z) (hl1.extBut hs₁.extBut D.l1z) hx fun h₂ h1₂ hs₂ => wpAny_pure ?_)
    have hTO₂ : IsPair h₂ TO a b := hs₂.extBut _ _ D.TOi1 (hs₁.extBut _ _ D.TOz hTO)
    refine wpAny_bind (wpAny_seqItems hTO₂ rfl ?_)
    refine wpAny_bind (wpAny_updateSeq_pair hTO₂ fun h₃ hTO₃ hs₃ => ?_)
    replace hTO₃ : IsPair h₃ TO x b := hTO₃
    refine wpAny_bind (wpAny_letGo (wpAny_pure ?_))
    refine wpAny_bind (wpAny_bind (wpAny_onRaise ?_))
    show wpAny _ _ (Builtin.SmallTypes.nextOf (.ref i2) >>= _) _ _ _
    refine wpAny_bind (wpAny_nextOf_list_item (((h2.extBut hs₁.extBut D.i2z).extBut hs₂.extBut D.i12.symm).extBut hs₃.extBut D.TOi2.symm)
      (((hl2.extBut hs₁.extBut D.l2z).extBut hs₂.extBut D.l2i1).extBut hs₃.extBut D.l2TO) hy fun h₄ h2₄ hs₄ => wpAny_pure ?_)
    have hTO₄ : IsPair h₄ TO x b := hs₄.extBut _ _ D.TOi2 hTO₃
    refine wpAny_bind (wpAny_seqItems hTO₄ rfl ?_)
    refine wpAny_bind (wpAny_updateSeq_pair hTO₄ fun h₅ hTO₅ hs₅ => ?_)
    replace hTO₅ : IsPair h₅ TO x y := hTO₅
    refine wpAny_bind (wpAny_letGo (wpAny_pure (wpAny_pure ?_)))
    refine wpAny_bind (wpAny_seqItems hTO₅ rfl ?_)
    refine wpAny_bind (wpAny_newTuple ?_)
    have hsz : h₅.objs.size = s.heap.objs.size := by rw [hs₅.1, hs₄.1, hs₃.1, hs₂.1, hs₁.1]
    have hz₅ : IsZipR h₅ z TI TO .ellipsis b0 := hs₅.extBut _ _ D.TOz.symm (hs₄.extBut _ _ D.i2z.symm (hs₃.extBut _ _ D.TOz.symm (hs₂.extBut _ _ D.i1z.symm hz₁)))
    have hk₅ : ∀ c o, c ≠ z → c ≠ TO → c ≠ i1 → c ≠ i2 → s.heap.get? c = some o → h₅.get? c = some o := fun c o c1 c2 c3 c4 e =>
      hs₅.extBut _ _ c2 (hs₄.extBut _ _ c4 (hs₃.extBut _ _ c2 (hs₂.extBut _ _ c3 (hs₁.extBut _ _ c1 e))))
    have h1₅ : h₅.IsListIter i1 l1 (k1 + 1) := ((h1₂.extBut hs₃.extBut D.TOi1.symm).extBut hs₄.extBut D.i12).extBut hs₅.extBut D.TOi1.symm
    have h2₅ : h₅.IsListIter i2 l2 (k2 + 1) := h2₄.extBut hs₅.extBut D.TOi2.symm
    have hzlt : z < h₅.objs.size := Heap.lt_size hz₅
    show wpAny _ _ (Builtin.SmallTypes.ownedTupleHandOut (.ref z) (.ref h₅.objs.size) >>= _) _ _ _
    refine wpAny_bind ?_
    unfold Builtin.SmallTypes.ownedTupleHandOut
    have hz₆ : IsZipR (h₅.push { cls := .type "tuple", data := .seq #[x, y] }) z TI TO .ellipsis b0 := Heap.get?_push_of_some _ hz₅
    refine wpAny_bind (wpAny_setField_rec hz₆ (by simp) fun h₇ hz₇ hs₇ => ?_)
    replace hz₇ : IsZipR h₇ z TI TO (rawInt h₅.objs.size) b0 := hz₇
    refine wpAny_setField_rec hz₇ (by simp) fun h₈ hz₈ hs₈ => ?_
    replace hz₈ : IsZipR h₈ z TI TO (rawInt h₅.objs.size) false := hz₈
    have up : ∀ c o, c ≠ z → h₅.get? c = some o → h₈.get? c = some o := fun c o c1 e => hs₈.extBut _ _ c1 (hs₇.extBut _ _ c1 (Heap.get?_push_of_some _ e))
    have hT₈ : IsPair h₈ h₅.objs.size x y := hs₈.extBut _ _ (Nat.ne_of_gt hzlt) (hs₇.extBut _ _ (Nat.ne_of_gt hzlt) (Heap.get?_push_size _ rfl))
    have hz8 : h₈.objs.size = h₅.objs.size + 1 := by rw [hs₈.1, hs₇.1, Heap.size_push]
    rw [hsz] at hz₈ hT₈ hz8
    refine wpAny_pure ⟨_, rfl, ?_⟩
    show Q (.ref h₅.objs.size) _
    rw [hsz]
    exact hQ h₈ ⟨_, _, .inr ⟨_, rfl⟩, hz₈⟩ ⟨x, y, up _ _ D.TOz hTO₅⟩ (h1₅.at fun o e => up _ o D.i1z e) (h2₅.at fun o e => up _ o D.i2z e) hT₈ hz8 fun c o c1 c2 c3 c4 e => up c o c1 (hk₅ c o c1 c2 c3 c4 e)
  · simp only [Bool.false_eq_true, if_false]
    have hzs := hs₁
    have hTO₁ : IsPair h₁ TO a b := hs₁.extBut _ _ D.TOz hTO
    refine wpAny_bind ?_
    simp only [List.forIn_toArray, List.forIn_cons, List.forIn_nil]
    refine wpAny_bind (wpAny_bind (wpAny_holding ?_))
    show wpAny _ _ (Builtin.SmallTypes.nextOf (.ref i1) >>= _) _ _ _
    refine wpAny_bind (wpAny_nextOf_list_item (h1.extBut hs₁.extBut D.i1z) (hl1.extBut hs₁.extBut D.l1z) hx fun h₂ h1₂ hs₂ => wpAny_pure ?_)
    refine wpAny_pure ?_
    simp only []
    refine wpAny_bind (wpAny_bind (wpAny_holding ?_))
    show wpAny _ _ (Builtin.SmallTypes.nextOf (.ref i2) >>= _) _ _ _
    refine wpAny_bind (wpAny_nextOf_list_item ((h2.extBut hs₁.extBut D.i2z).extBut hs₂.extBut D.i12.symm) ((hl2.extBut hs₁.extBut D.l2z).extBut hs₂.extBut D.l2i1) hy fun h₃ h2₃ hs₃ => wpAny_pure ?_)
    refine wpAny_pure ?_
    simp only []
    refine wpAny_pure ?_
    simp only []
    show wpAny _ _ (newTuple [x, y] >>= _) _ _ _
    refine wpAny_bind (wpAny_newTuple ?_)
    have hsz : h₃.objs.size = s.heap.objs.size := by rw [hs₃.1, hs₂.1, hs₁.1]
    have up : ∀ c o, c ≠ z → c ≠ i1 → c ≠ i2 → s.heap.get? c = some o → (h₃.push { cls := .type "tuple", data := .seq #[x, y] }).get? c = some o := fun c o c1 c3 c4 e =>
      Heap.get?_push_of_some _ (hs₃.extBut _ _ c4 (hs₂.extBut _ _ c3 (hs₁.extBut _ _ c1 e)))
    refine wpAny_pure ⟨_, rfl, ?_⟩
    show Q (.ref h₃.objs.size) _
    rw [hsz]
    refine hQ _ (hz₁.set fun o e => Heap.get?_push_of_some _ (hs₃.extBut _ _ D.i2z.symm (hs₂.extBut _ _ D.i1z.symm e))) ⟨a, b, up _ _ D.TOz D.TOi1 D.TOi2 hTO⟩ ?_ ?_ ?_ ?_ fun c o c1 _ c3 c4 e => up c o c1 c3 c4 e
    · exact (h1₂.extBut hs₃.extBut D.i12).at fun o e => Heap.get?_push_of_some _ e
    · exact h2₃.at fun o e => Heap.get?_push_of_some _ e
    · rw [← hsz]; exact Heap.get?_push_size _ rfl
    · rw [Heap.size_push, hsz]
theorem zipA_end {z TI TO i1 i2 l1 l2 : Addr} {k1 k2 : Nat} {xs ys : Array Value} {Q : Fin → Shared → Prop} (hh : A.handled = none) (D : ZipApart z TI TO i1 i2 l1 l2)
    (hz : IsZipA s.heap z TI TO) (hTI : IsPair s.heap TI (.ref i1) (.ref i2)) (hTO : ∃ a b, IsPair s.heap TO a b)
    (h1 : s.heap.IsListIter i1 l1 k1) (h2 : s.heap.IsListIter i2 l2 k2) (hl1 : s.heap.IsList l1 xs) (hl2 : s.heap.IsList l2 ys) (hend : xs[k1]? = none ∨ ys[k2]? = none)
    (hE : ∀ h' e, (∀ c o, c ≠ z → c ≠ TO → c ≠ i1 → c ≠ i2 → s.heap.get? c = some o → h'.get? c = some o) → (∃ o, h'.get? e = some o ∧ o.cls = .type "StopIteration") → E (.ref e) { s with heap := h' }) :
    wpAny (model prog w) A (Builtin.«zip.__next__» ⟨[.ref z], []⟩) Q E s := by
  obtain ⟨a, b, hTO⟩ := hTO
  show wpAny _ _ (field (.ref z) 2 >>= _) _ _ _
  have hzA := hz
  obtain ⟨f0, b0, h0, hz⟩ := hz
  refine wpAny_bind (wpAny_field hz rfl (x := .bool false) rfl ?_)
  show wpAny _ _ (field (.ref z) 3 >>= _) _ _ _
  refine wpAny_bind (wpAny_field hz rfl (x := .ref TI) rfl ?_)
  refine wpAny_bind (wpAny_seqItems hTI rfl ?_)
  show wpAny _ _ (Builtin.SmallTypes.ownedTupleIsFree (.ref z) >>= _) _ _ _
  refine wpAny_bind (zip_free hzA ?_ fun h₁ hz₁ hs₁ => ?_)
  · simp only [if_true]
    refine wpAny_bind (wpAny_rule ?_)
    refine wpAny_bind (wpAny_field hz rfl (x := .ref TO) rfl ?_)
    refine wpAny_bind (wpAny_setField_rec hz (by simp) fun h₁ hz₁ hs₁ => ?_)
    replace hz₁ : IsZipR h₁ z TI TO .ellipsis b0 := hz₁
    refine wpAny_bind ?_
    simp only [List.zipIdx_cons, List.zipIdx_nil, List.forIn_cons, List.forIn_nil]
    refine wpAny_bind (wpAny_bind (wpAny_onRaise ?_))
    show wpAny _ _ (Builtin.SmallTypes.nextOf (.ref i1) >>= _) _ _ _
    cases hx : xs[k1]? with
    | none =>
      refine wpAny_bind (wpAny_nextOf_list_end hh (h1.extBut hs₁.extBut D.i1z) (hl1.extBut hs₁.extBut D.l1z) hx fun h₂ e hs₂ he => ?_)
      obtain ⟨oe, hoe, hce⟩ := he
      have hz₂ : IsZipR h₂ z TI TO .ellipsis b0 := hs₂ _ _ D.i1z.symm hz₁
      have hez : e ≠ z := fun x => by subst x; rw [hz₂] at hoe; cases hoe; simp at hce
      refine wpAny_setField_rec hz₂ (by simp) fun h₃ _ hs₃ => hE h₃ e (fun c o c1 _ c3 _ x => hs₃.extBut _ _ c1 (hs₂ _ _ c3 (hs₁.extBut _ _ c1 x))) ⟨oe, hs₃.extBut _ _ hez hoe, hce⟩
    | some x =>
      have hy : ys[k2]? = none := by rcases hend with h | h; rw [hx] at h; cases h; exact h
      refine wpAny_bind (wpAny_nextOf_list_item (h1.extBut hs₁.extBut D.i1z) (hl1.extBut hs₁.extBut D.l1z) hx fun h₂ h1₂ hs₂ => wpAny_pure ?_)
      have hTO₂ : IsPair h₂ TO a b := hs₂.extBut _ _ D.TOi1 (hs₁.extBut _ _ D.TOz hTO)
      refine wpAny_bind (wpAny_seqItems hTO₂ rfl ?_)
      refine wpAny_bind (wpAny_updateSeq_pair hTO₂ fun h₃ hTO₃ hs₃ => ?_)
      refine wpAny_bind (wpAny_letGo (wpAny_pure ?_))
      refine wpAny_bind (wpAny_bind (wpAny_onRaise ?_))
      show wpAny _ _ (Builtin.SmallTypes.nextOf (.ref i2) >>= _) _ _ _
      refine wpAny_bind (wpAny_nextOf_list_end hh (((h2.extBut hs₁.extBut D.i2z).extBut hs₂.extBut D.i12.symm).extBut hs₃.extBut D.TOi2.symm)
        (((hl2.extBut hs₁.extBut D.l2z).extBut hs₂.extBut D.l2i1).extBut hs₃.extBut D.l2TO) hy fun h₄ e hs₄ he => ?_)
      obtain ⟨oe, hoe, hce⟩ := he
      have hz₄ : IsZipR h₄ z TI TO .ellipsis b0 := hs₄ _ _ D.i2z.symm (hs₃.extBut _ _ D.TOz.symm (hs₂.extBut _ _ D.i1z.symm hz₁))
      have hez : e ≠ z := fun x => by subst x; rw [hz₄] at hoe; cases hoe; simp at hce
      refine wpAny_setField_rec hz₄ (by simp) fun h₅ _ hs₅ => hE h₅ e (fun c o c1 c2 c3 c4 x => hs₅.extBut _ _ c1 (hs₄ _ _ c4 (hs₃.extBut _ _ c2 (hs₂.extBut _ _ c3 (hs₁.extBut _ _ c1 x))))) ⟨oe, hs₅.extBut _ _ hez hoe, hce⟩
  · simp only [Bool.false_eq_true, if_false]
    refine wpAny_bind ?_
    simp only [List.forIn_toArray, List.forIn_cons, List.forIn_nil]
    refine wpAny_bind (wpAny_bind (wpAny_holding ?_))
    show wpAny _ _ (Builtin.SmallTypes.nextOf (.ref i1) >>= _) _ _ _
    cases hx : xs[k1]? with
    | none =>
      refine wpAny_bind (wpAny_nextOf_list_end hh (h1.extBut hs₁.extBut D.i1z) (hl1.extBut hs₁.extBut D.l1z) hx fun h₂ e hs₂ he => ?_)
      exact hE h₂ e (fun c o c1 _ c3 _ x => hs₂ _ _ c3 (hs₁.extBut _ _ c1 x)) he
    | some x =>
      have hy : ys[k2]? = none := by rcases hend with h | h; rw [hx] at h; cases h; exact h
      refine wpAny_bind (wpAny_nextOf_list_item (h1.extBut hs₁.extBut D.i1z) (hl1.extBut hs₁.extBut D.l1z) hx fun h₂ h1₂ hs₂ => wpAny_pure ?_)
      refine wpAny_pure ?_
      simp only []
      refine wpAny_bind (wpAny_bind (wpAny_holding ?_))
      show wpAny _ _ (Builtin.SmallTypes.nextOf (.ref i2) >>= _) _ _ _
      refine wpAny_bind (wpAny_nextOf_list_end hh ((h2.extBut hs₁.extBut D.i2z).extBut hs₂.extBut D.i12.symm) ((hl2.extBut hs₁.extBut D.l2z).extBut hs₂.extBut D.l2i1) hy fun h₄ e hs₄ he => ?_)
      exact hE h₄ e (fun c o c1 c2 c3 c4 x => hs₄ _ _ c4 (hs₂.extBut _ _ c3 (hs₁.extBut _ _ c1 x))) he
theorem nextOf_zipA {z TI TO i1 i2 l1 l2 : Addr} {k1 k2 : Nat} {xs ys : Array Value} {x y : Value} {Q : Value → Shared → Prop} (D : ZipApart z TI TO i1 i2 l1 l2)
    (hz : IsZipA s.heap z TI TO) (hTI : IsPair s.heap TI (.ref i1) (.ref i2)) (hTO : ∃ a b, IsPair s.heap TO a b)
    (h1 : s.heap.IsListIter i1 l1 k1) (h2 : s.heap.IsListIter i2 l2 k2) (hl1 : s.heap.IsList l1 xs) (hl2 : s.heap.IsList l2 ys) (hx : xs[k1]? = some x) (hy : ys[k2]? = some y)
    (hQ : ∀ h', IsZipA h' z TI TO → (∃ a b, IsPair h' TO a b) → h'.IsListIter i1 l1 (k1 + 1) → h'.IsListIter i2 l2 (k2 + 1) → IsPair h' s.heap.objs.size x y → h'.objs.size = s.heap.objs.size + 1 →
      (∀ c o, c ≠ z → c ≠ TO → c ≠ i1 → c ≠ i2 → s.heap.get? c = some o → h'.get? c = some o) → Q (.ref s.heap.objs.size) { s with heap := h' }) :
    wpAny (model prog w) A (Builtin.SmallTypes.nextOf (.ref z)) Q E s := by
  have hT : s.TypeIs (.ref z) "zip" := by obtain ⟨_, _, _, e⟩ := hz; exact ⟨_, e, rfl⟩
  unfold Builtin.SmallTypes.nextOf
  refine wpAny_bind (wpAny_callSpecial?_slot (name := Str.ofString "__next__") hT F.slot_zip_next
    (wpAny_call_entry F.slot_zip_next hT F.entry_zip_next
      (zipA_item D hz hTI hTO h1 h2 hl1 hl2 hx hy fun h' a1 a2 a3 a4 a5 a6 a7 => ?_) (F.args_zip_next_1 _)))
  exact wpAny_pure (hQ h' a1 a2 a3 a4 a5 a6 a7)
theorem nextOf_zipA_end {z TI TO i1 i2 l1 l2 : Addr} {k1 k2 : Nat} {xs ys : Array Value} {Q : Value → Shared → Prop} (hh : A.handled = none) (D : ZipApart z TI TO i1 i2 l1 l2)
    (hz : IsZipA s.heap z TI TO) (hTI : IsPair s.heap TI (.ref i1) (.ref i2)) (hTO : ∃ a b, IsPair s.heap TO a b)
    (h1 : s.heap.IsListIter i1 l1 k1) (h2 : s.heap.IsListIter i2 l2 k2) (hl1 : s.heap.IsList l1 xs) (hl2 : s.heap.IsList l2 ys) (hend : xs[k1]? = none ∨ ys[k2]? = none)
    (hE : ∀ h' e, (∀ c o, c ≠ z → c ≠ TO → c ≠ i1 → c ≠ i2 → s.heap.get? c = some o → h'.get? c = some o) → (∃ o, h'.get? e = some o ∧ o.cls = .type "StopIteration") → E (.ref e) { s with heap := h' }) :
    wpAny (model prog w) A (Builtin.SmallTypes.nextOf (.ref z)) Q E s := by
  have hT : s.TypeIs (.ref z) "zip" := by obtain ⟨_, _, _, e⟩ := hz; exact ⟨_, e, rfl⟩
  unfold Builtin.SmallTypes.nextOf
  exact wpAny_bind (wpAny_callSpecial?_slot (name := Str.ofString "__next__") hT F.slot_zip_next
    (wpAny_call_entry F.slot_zip_next hT F.entry_zip_next (zipA_end hh D hz hTI hTO h1 h2 hl1 hl2 hend hE) (F.args_zip_next_1 _)))
end
structure ZipSt (z TI TO i1 i2 l1 l2 : Addr) (k : Nat) (h : Heap) : Prop where
  z : IsZipA h z TI TO
  ti : IsPair h TI (.ref i1) (.ref i2)
  to : ∃ a b, IsPair h TO a b
  i1 : h.IsListIter i1 l1 k
  i2 : h.IsListIter i2 l2 k
theorem ZipSt.at {z TI TO i1 i2 l1 l2 : Addr} {k : Nat} {h h' : Heap} (S : ZipSt z TI TO i1 i2 l1 l2 k h) (e : ∀ b, (b = z ∨ b = TI ∨ b = TO ∨ b = i1 ∨ b = i2) → ∀ o, h.get? b = some o → h'.get? b = some o) : ZipSt z TI TO i1 i2 l1 l2 k h' :=
  ⟨S.z.set fun o q => e _ (.inl rfl) o q, e _ (.inr (.inl rfl)) _ S.ti, let ⟨a, b, q⟩ := S.to; ⟨a, b, e _ (.inr (.inr (.inl rfl))) _ q⟩, S.i1.at fun o q => e _ (.inr (.inr (.inr (.inl rfl)))) o q, S.i2.at fun o q => e _ (.inr (.inr (.inr (.inr rfl)))) o q⟩
theorem ZipSt.live {z TI TO i1 i2 l1 l2 : Addr} {k : Nat} {h : Heap} (S : ZipSt z TI TO i1 i2 l1 l2 k h) {b : Addr} (e : b = z ∨ b = TI ∨ b = TO ∨ b = i1 ∨ b = i2) : ∃ o, h.get? b = some o ∧ ∀ v, o.data ≠ .cell v := by
  obtain ⟨⟨f0, b0, _, hz⟩, hTI, ⟨x, y, hTO⟩, ⟨o1, e1, _, d1⟩, ⟨o2, e2, _, d2⟩⟩ := S
  rcases e with q | q | q | q | q
  · rw [q]; exact ⟨_, hz, fun v q => nomatch q⟩
  · rw [q]; exact ⟨_, hTI, fun v q => nomatch q⟩
  · rw [q]; exact ⟨_, hTO, fun v q => nomatch q⟩
  · rw [q]; exact ⟨o1, e1, fun v q => by rw [d1] at q; cases q⟩
  · rw [q]; exact ⟨o2, e2, fun v q => by rw [d2] at q; cases q⟩
section
variable {prog : Program} {w : World} {A : Around} {E : Value → Shared → Prop} {s : Shared}
theorem enz_item {e z TI TO i1 i2 l1 l2 : Addr} {i : Nat} {xs ys : Array Value} {x y old : Value} {Q : Value → Shared → Prop} (D : ZipApart z TI TO i1 i2 l1 l2)
    (ne : ¬ (e = z ∨ e = TI ∨ e = TO ∨ e = i1 ∨ e = i2)) (he : IsEnum s.heap e z i old) (S : ZipSt z TI TO i1 i2 l1 l2 i s.heap)
    (hl1 : s.heap.IsList l1 xs) (hl2 : s.heap.IsList l2 ys) (hx : xs[i]? = some x) (hy : ys[i]? = some y)
    (hQ : ∀ h₁ h', ZipSt z TI TO i1 i2 l1 l2 (i + 1) h₁ → IsPair h₁ s.heap.objs.size x y → h₁.objs.size = s.heap.objs.size + 1 →
      (∀ c o, c ≠ z → c ≠ TO → c ≠ i1 → c ≠ i2 → s.heap.get? c = some o → h₁.get? c = some o) →
      IsEnumOut h' e z ((i : Int) + 1) (.ref s.heap.objs.size) (s.heap.objs.size + 1) →
      h'.get? (s.heap.objs.size + 1) = some { cls := .type "tuple", data := .seq #[.int i s.toks, .ref s.heap.objs.size] } → h'.objs.size = s.heap.objs.size + 2 →
      (∀ b o, b ≠ e → h₁.get? b = some o → h'.get? b = some o) → Q (.ref (s.heap.objs.size + 1)) { s with heap := h', toks := s.toks + 1 }) :
    wpAny (model prog w) A (Builtin.«enumerate.__next__» ⟨[.ref e], []⟩) (fun fin s' => ∃ v, fin = .done (.ret v) ∧ Q v s') E s := by
  obtain ⟨hp, g, d, tk, os⟩ := s
  have hne : e ≠ z := fun q => ne (.inl q)
  have hel0 : e < hp.objs.size := Heap.lt_size he
  show wpAny _ _ (field (.ref e) 2 >>= _) _ _ _
  refine wpAny_bind (wpAny_field he rfl (x := .ref z) rfl ?_)
  refine wpAny_bind (nextOf_zipA D S.z S.ti S.to S.i1 S.i2 hl1 hl2 hx hy fun h₁ z1 to1 i11 i21 hP hs1 hk1 => ?_)
  replace hk1 : ∀ c o, c ≠ z → c ≠ TO → c ≠ i1 → c ≠ i2 → hp.get? c = some o → h₁.get? c = some o := hk1
  replace hs1 : h₁.objs.size = hp.objs.size + 1 := hs1
  replace hP : IsPair h₁ hp.objs.size x y := hP
  have S1 : ZipSt z TI TO i1 i2 l1 l2 (i + 1) h₁ := ⟨z1, hk1 _ _ D.TIz D.TITO D.TIi1 D.TIi2 S.ti, to1, i11, i21⟩
  have he₁ : IsEnum h₁ e z i old := hk1 _ _ hne (fun q => ne (.inr (.inr (.inl q)))) (fun q => ne (.inr (.inr (.inr (.inl q))))) (fun q => ne (.inr (.inr (.inr (.inr q))))) he
  show wpAny _ _ (field (.ref e) 3 >>= _) _ _ ⟨h₁, g, d, tk, os⟩
  refine wpAny_bind (wpAny_field he₁ rfl (x := rawInt i) rfl ?_)
  show wpAny _ _ (field (.ref e) 4 >>= _) _ _ ⟨h₁, g, d, tk, os⟩
  refine wpAny_bind (wpAny_field he₁ rfl (x := .none) rfl ?_)
  show wpAny _ _ (mkInt i >>= _) _ _ ⟨h₁, g, d, tk, os⟩
  refine wpAny_bind (wpAny_mkInt ?_)
  show wpAny _ _ (setField (.ref e) 3 (rawInt ((i : Int) + 1)) >>= _) _ _ ⟨h₁, g, d, tk + 1, os⟩
  refine wpAny_bind (wpAny_setField_rec he₁ (by simp) fun h₂ he₂ hs₂ => ?_)
  replace hs₂ : Heap.SameBut e h₁ h₂ := hs₂
  replace he₂ : IsEnum h₂ e z ((i : Int) + 1) old := he₂
  show wpAny _ _ (setField (.ref e) 4 .none >>= _) _ _ ⟨h₂, g, d, tk + 1, os⟩
  refine wpAny_bind (wpAny_setField_rec he₂ (by simp) fun h₃ he₃ hs₃ => ?_)
  replace hs₃ : Heap.SameBut e h₂ h₃ := hs₃
  replace he₃ : IsEnum h₃ e z ((i : Int) + 1) old := he₃
  show wpAny _ _ (newTuple [.int i tk, .ref hp.objs.size] >>= _) _ _ ⟨h₃, g, d, tk + 1, os⟩
  refine wpAny_bind (wpAny_newTuple ?_)
  have he₄ : IsEnum (h₃.push { cls := .type "tuple", data := .seq #[.int i tk, .ref hp.objs.size] }) e z ((i : Int) + 1) old := Heap.get?_push_of_some _ he₃
  generalize hh₄ : h₃.push { cls := .type "tuple", data := .seq #[.int i tk, .ref hp.objs.size] } = h₄ at he₄
  have hsz : h₃.objs.size = hp.objs.size + 1 := by rw [hs₃.1, hs₂.1, hs1]
  have hel : e < hp.objs.size + 1 := Nat.lt_succ_of_lt hel0
  have ht₄ : h₄.get? (hp.objs.size + 1) = some { cls := .type "tuple", data := .seq #[.int i tk, .ref hp.objs.size] } := by rw [← hh₄, ← hsz]; exact Heap.get?_push_size _ rfl
  have hz₄ : h₄.objs.size = hp.objs.size + 2 := by rw [← hh₄, Heap.size_push, hsz]
  have hk₄ : ∀ b o, b ≠ e → h₁.get? b = some o → h₄.get? b = some o := fun b o hbe hb => by
    rw [← hh₄]; exact Heap.get?_push_of_some _ (hs₃.extBut b o hbe (hs₂.extBut b o hbe hb))
  show wpAny _ _ (Builtin.SmallTypes.ownedTupleIsFree (.ref e) >>= _) _ _ ⟨h₄, g, d, tk + 1, os⟩
  rw [hsz]
  clear hh₄ he₃ hs₃ he₂ hs₂ he₁ hsz h₃ h₂
  refine wpAny_bind ?_
  · unfold Builtin.SmallTypes.ownedTupleIsFree
    refine wpAny_bind (wpAny_field he₄ rfl (x := .none) rfl (wpAny_pure ?_))
    simp only [if_true]
    refine wpAny_bind (wpAny_rule ?_)
    refine wpAny_bind (wpAny_field he₄ rfl (x := old) rfl ?_)
    refine wpAny_bind (wpAny_setField_rec he₄ (by simp) fun h₅ he₅ hs₅ => ?_)
    replace hs₅ : Heap.SameBut e h₄ h₅ := hs₅
    replace he₅ : IsEnum h₅ e z ((i : Int) + 1) (.ref hp.objs.size) := he₅
    show wpAny _ _ (Builtin.SmallTypes.ownedTupleHandOut (.ref e) (.ref (hp.objs.size + 1)) >>= _) _ _ ⟨h₅, g, d, tk + 1, os⟩
    refine wpAny_bind ?_
    · unfold Builtin.SmallTypes.ownedTupleHandOut
      refine wpAny_bind (wpAny_setField_rec he₅ (by simp) fun h₆ he₆ hs₆ => ?_)
      replace hs₆ : Heap.SameBut e h₅ h₆ := hs₆
      replace he₆ : IsEnumOut h₆ e z ((i : Int) + 1) (.ref hp.objs.size) (hp.objs.size + 1) := he₆
      refine wpAny_setField_rec he₆ (by simp) fun h₇ he₇ hs₇ => ?_
      replace hs₇ : Heap.SameBut e h₆ h₇ := hs₇
      replace he₇ : IsEnumOut h₇ e z ((i : Int) + 1) (.ref hp.objs.size) (hp.objs.size + 1) := he₇
      refine wpAny_bind (wpAny_letGo (wpAny_pure ⟨_, rfl, hQ h₁ h₇ S1 hP hs1 hk1 he₇ ?_ ?_ ?_⟩))
      · exact hs₇.extBut _ _ (Nat.ne_of_gt hel) (hs₆.extBut _ _ (Nat.ne_of_gt hel) (hs₅.extBut _ _ (Nat.ne_of_gt hel) ht₄))
      · rw [hs₇.1, hs₆.1, hs₅.1, hz₄]
      · exact fun b o hbe hb => hs₇.extBut b o hbe (hs₆.extBut b o hbe (hs₅.extBut b o hbe (hk₄ b o hbe hb)))
theorem pyNext_enz {e z TI TO i1 i2 l1 l2 : Addr} {i : Nat} {xs ys : Array Value} {x y old : Value} {Q : Option Value → Shared → Prop} (D : ZipApart z TI TO i1 i2 l1 l2)
    (ne : ¬ (e = z ∨ e = TI ∨ e = TO ∨ e = i1 ∨ e = i2)) (he : IsEnum s.heap e z i old) (S : ZipSt z TI TO i1 i2 l1 l2 i s.heap)
    (hl1 : s.heap.IsList l1 xs) (hl2 : s.heap.IsList l2 ys) (hx : xs[i]? = some x) (hy : ys[i]? = some y)
    (hQ : ∀ h₁ h', ZipSt z TI TO i1 i2 l1 l2 (i + 1) h₁ → IsPair h₁ s.heap.objs.size x y → h₁.objs.size = s.heap.objs.size + 1 →
      (∀ c o, c ≠ z → c ≠ TO → c ≠ i1 → c ≠ i2 → s.heap.get? c = some o → h₁.get? c = some o) →
      IsEnumOut h' e z ((i : Int) + 1) (.ref s.heap.objs.size) (s.heap.objs.size + 1) →
      h'.get? (s.heap.objs.size + 1) = some { cls := .type "tuple", data := .seq #[.int i s.toks, .ref s.heap.objs.size] } → h'.objs.size = s.heap.objs.size + 2 →
      (∀ b o, b ≠ e → h₁.get? b = some o → h'.get? b = some o) → Q (some (.ref (s.heap.objs.size + 1))) { s with heap := h', toks := s.toks + 1 }) :
    wpAny (model prog w) A (pyNext (.ref e)) Q E s := by
  have hT : s.TypeIs (.ref e) "enumerate" := ⟨_, he, rfl⟩
  unfold pyNext
  exact wpAny_bind (wpAny_attempt (wpAny_callSpecial?_slot (name := Str.ofString "__next__") hT F.slot_enumerate_next
    (wpAny_call_entry F.slot_enumerate_next hT F.entry_enumerate_next
      (enz_item D ne he S hl1 hl2 hx hy fun h₁ h' a b c d e f g k => wpAny_pure (hQ h₁ h' a b c d e f g k)) (F.args_enumerate_next_1 _))))
theorem pyNext_enz_end {e z TI TO i1 i2 l1 l2 : Addr} {i : Nat} {xs ys : Array Value} {old : Value} {Q : Option Value → Shared → Prop} (hh : A.handled = none) (D : ZipApart z TI TO i1 i2 l1 l2)
    (he : IsEnum s.heap e z i old) (S : ZipSt z TI TO i1 i2 l1 l2 i s.heap)
    (hl1 : s.heap.IsList l1 xs) (hl2 : s.heap.IsList l2 ys) (hend : xs[i]? = none ∨ ys[i]? = none)
    (hQ : ∀ h', (∀ c o, c ≠ z → c ≠ TO → c ≠ i1 → c ≠ i2 → s.heap.get? c = some o → h'.get? c = some o) → Q none { s with heap := h' }) : wpAny (model prog w) A (pyNext (.ref e)) Q E s := by
  have hT : s.TypeIs (.ref e) "enumerate" := ⟨_, he, rfl⟩
  unfold pyNext
  refine wpAny_bind (wpAny_attempt (wpAny_callSpecial?_slot (name := Str.ofString "__next__") hT F.slot_enumerate_next
    (wpAny_call_entry F.slot_enumerate_next hT F.entry_enumerate_next ?_ (F.args_enumerate_next_1 _))))
  show wpAny _ _ (field (.ref e) 2 >>= _) _ _ _
  refine wpAny_bind (wpAny_field he rfl (x := .ref z) rfl ?_)
  refine wpAny_bind (nextOf_zipA_end hh D S.z S.ti S.to S.i1 S.i2 hl1 hl2 hend fun h' x he' hx' => ?_)
  obtain ⟨o, ho, hc⟩ := hx'
  refine wpAny_bind (wpAny_isInstance (T := "StopIteration") (b := true) ⟨o, ho, hc⟩ isSubtype_stop ?_)
  exact wpAny_pure (hQ _ he')
end
open AutoSeq1 (wpAny_loadPart') in
theorem meets_enumerate_newZ (z TI TO : Addr) :
    Meets (Builtin.«enumerate.__new__» ⟨[.type "enumerate", .ref z], []⟩) (fun _ R s => IsZip s.heap z TI TO .none ∧
      R (.ok (.ret (.ref s.heap.objs.size)))
        { s with heap := s.heap.push { cls := .type "enumerate", data := .fields #[.none, .bool false, .ref z, rawInt 0, .none, .none] } }) :=
  .of_wp fun prog w A R s h => by
    obtain ⟨hp, g, d, tk, os⟩ := s; obtain ⟨hl, h⟩ := h
    have hsub := sub_enumerate
    have hL : IsZip (Shared.heap ⟨hp, g, d, tk, os⟩) z TI TO .none := hl
    wp_walk using wpAny_loadPart' hl
    refine wpAny_stack_any fun st => wpAny_pure ?_
    split
    · rename_i c _ _ _ _ _
      cases (c == Value.type "enumerate")
      · wp_walk using wpAny_loadPart' hl, wpAny_pyIter_zip hL
        exact ⟨_, rfl, h⟩
      · wp_walk using wpAny_loadPart' hl, wpAny_pyIter_zip hL
        exact ⟨_, rfl, h⟩
    · wp_walk using wpAny_loadPart' hl, wpAny_pyIter_zip hL
      exact ⟨_, rfl, h⟩
section
variable {prog : Program} {w : World} {A : Around} {E : Value → Shared → Prop} {s : Shared}
theorem call_enumerate_zip {z TI TO : Addr} {Q : Value → Shared → Prop} (hL : IsZip s.heap z TI TO .none)
    (h : ∀ h', IsEnum h' s.heap.objs.size z 0 .none → (∀ b o, s.heap.get? b = some o → h'.get? b = some o) → Q (.ref s.heap.objs.size) { s with heap := h' }) :
    wpAny (model prog w) A (call (.type "enumerate") [.ref z]) Q E s := by
  refine callType_new F.called_enumerate (by decide) (F.typeCall_enumerate_1 _) (F.newCall_enumerate_1 _) (fun obj => F.args_object_init_2 obj _) F.entry_enumerate_new
    (meets_enumerate_newZ z TI TO) ⟨hL, ?_⟩
  show _ ∧ _
  have g : IsEnum (s.heap.push { cls := .type "enumerate", data := .fields #[.none, .bool false, .ref z, rawInt 0, .none, .none] }) s.heap.objs.size z 0 .none := Heap.get?_push_size _ rfl
  exact ⟨⟨_, g, rfl⟩, h _ g fun b o e => Heap.get?_push_of_some _ e⟩
end
def Itez (K : PySem.W.Frag) (a b : Addr) : It :=
  ⟨fun i H => ∃ (xs ys : List V) (x y : V), SqL K H a xs ∧ SqL K H b ys ∧ xs[i]? = some x ∧ ys[i]? = some y,
    fun i H v H' => ∃ P T x y, v = .ref T ∧ H P = none ∧ H T = none ∧ P ≠ T ∧ H' = upd (upd H P (.tup [x, y])) T (.tup [.int (i : Nat), .ref P]) ∧ (∀ xs, SqL K H a xs → xs[i]? = some x) ∧ ∀ ys, SqL K H b ys → ys[i]? = some y,
    fun i H => ∃ xs ys : List V, SqL K H a xs ∧ SqL K H b ys ∧ (xs.length ≤ i ∨ ys.length ≤ i)⟩
theorem turn_enz {P : Program} {w : World} {K : PySem.W.Frag} {elts : List Expr} {kk : Nat} {tpos : Pos} {a b e z TI TO i1 i2 : Addr} (D : ZipApart z TI TO i1 i2 a b) (ne : ¬ (e = z ∨ e = TI ∨ e = TO ∨ e = i1 ∨ e = i2)) :
    Turn P w K (.Tuple elts kk tpos) (Itez K a b) [e, z, TI, TO, i1, i2] e (fun i h => (∃ old, IsEnum h e z ((i : Nat) : Int) old) ∧ ZipSt z TI TO i1 i2 a b i h) where
  mem := by simp
  obj := fun i h st c hc => by
    obtain ⟨⟨old, he⟩, S⟩ := st
    rcases List.mem_cons.mp hc with q | q
    · rw [q]; exact ⟨_, he, fun v q => nomatch q⟩
    · exact S.live (by simpa using q)
  keep := fun i h h' st k => by
    obtain ⟨⟨old, he⟩, S⟩ := st
    exact ⟨⟨old, k e (by simp) _ he⟩, S.at fun c hc o q => k c (by simp; exact .inr hc) o q⟩
  item := by
    intro X hP hw hK hc i pins s σ H E I hf st hg
    subst hP hw hK
    obtain ⟨⟨old, he⟩, S⟩ := st
    obtain ⟨xs, ys, x, y, hqx, hqy, hx, hy⟩ := hg
    obtain ⟨its, rv, p, _⟩ := I.list hqx
    obtain ⟨its2, rv2, p2, _⟩ := I.list hqy
    obtain ⟨u, hu, ru⟩ := rv.get hx
    obtain ⟨u2, hu2, ru2⟩ := rv2.get hy
    have hel : e < s.heap.objs.size := Heap.lt_size he
    have lt : ∀ c ∈ [e, z, TI, TO, i1, i2], c < s.heap.objs.size := fun c hc => by
      rcases List.mem_cons.mp hc with q | q
      · rw [q]; exact hel
      · obtain ⟨o, ho, _⟩ := S.live (b := c) (by simpa using q)
        exact Heap.lt_size ho
    refine pyNext_enz D ne he S p.isList p2.isList (x := u) (y := u2) (by simpa using hu) (by simpa using hu2) fun h₁ h' S1 hT1 hsz1 hk1 ho hT hsz hk => ?_
    have new1 : ObjOk X.prog X.w (upd H s.heap.objs.size (.tup [x, y])) h₁ s.heap.objs.size (.tup [x, y]) :=
      ⟨by show 2 ≤ sizeLine; decide, [u, u2], .cons ru (.cons ru2 .nil), ⟨_, hT1, rfl, _, rfl⟩⟩
    have I1 : Inv X pins σ (upd H s.heap.objs.size (.tup [x, y])) { s with heap := h₁ } :=
      I.turnedNew (t' := s.toks) (ch := [e, z, TI, TO, i1, i2]) (fun c o hb q => hk1 c o (fun q' => hb (by simp [q'])) (fun q' => hb (by simp [q'])) (fun q' => hb (by simp [q'])) (fun q' => hb (by simp [q'])) q) hf (Nat.le_refl _) new1
    refine ⟨_, rfl, wpAny_letOwnedTupleGo_enum (s := { s with heap := h', toks := s.toks + 1 }) ho fun h'' he' sb => ?_⟩
    have hT2 : h''.get? (s.heap.objs.size + 1) = some { cls := .type "tuple", data := .seq #[.int i s.toks, .ref s.heap.objs.size] } := (sb.2 _ (Nat.ne_of_gt (Nat.lt_succ_of_lt hel))).trans hT
    have new2 : ObjOk X.prog X.w (upd (upd H s.heap.objs.size (.tup [x, y])) (s.heap.objs.size + 1) (.tup [.int (i : Nat), .ref s.heap.objs.size])) h'' (s.heap.objs.size + 1) (.tup [.int (i : Nat), .ref s.heap.objs.size]) :=
      ⟨by show 2 ≤ sizeLine; decide, [.int i s.toks, .ref s.heap.objs.size], .cons ⟨_, rfl⟩ (.cons rfl .nil), ⟨_, hT2, rfl, _, rfl⟩⟩
    have hf1 : ∀ c ∈ [e], FpOk X pins (upd H s.heap.objs.size (.tup [x, y])) c := fun c hcm => by
      have hc' : c = e := by simpa using hcm
      obtain ⟨q0, q⟩ := hf c (by rw [hc']; simp)
      refine ⟨?_, q⟩
      rw [upd_ne (Nat.ne_of_lt (by rw [hc']; exact hel))]
      exact q0
    have I2 : Inv X pins σ (upd (upd H s.heap.objs.size (.tup [x, y])) (s.heap.objs.size + 1) (.tup [.int (i : Nat), .ref s.heap.objs.size])) { s with heap := h'', toks := s.toks + 1 } :=
      I1.turnedNew (t' := s.toks + 1) (ch := [e]) (fun c o hb q => (sb.2 c (fun q' => hb (by simp [q']))).trans (hk c o (fun q' => hb (by simp [q'])) q)) hf1 (by rw [← hsz1]; exact Nat.le_refl _) new2
    have fr : H (s.heap.objs.size + 1) = none := I.hok.fresh (Nat.le_succ _)
    refine ⟨.ref (s.heap.objs.size + 1), _, I2, rfl, ⟨s.heap.objs.size, s.heap.objs.size + 1, x, y, rfl, I.hok.fresh (Nat.le_refl _), fr, Nat.ne_of_lt (Nat.lt_succ_self _), rfl, fun l hl => by rw [I.list_inj hl hqx]; exact hx, fun l hl => by rw [I.list_inj hl hqy]; exact hy⟩, ⟨⟨.ref s.heap.objs.size, ?_⟩, ?_⟩, fun c hcm => ?_⟩
    · have e1 : ((i + 1 : Nat) : Int) = (i : Int) + 1 := by omega
      rw [e1]; exact he'
    · refine S1.at fun c hc o q => (sb.2 c ?_).trans (hk c o ?_ q)
      · exact fun q' => ne (q' ▸ hc)
      · exact fun q' => ne (q' ▸ hc)
    · have hlt := lt c hcm
      rw [upd_ne (Nat.ne_of_lt (Nat.lt_succ_of_lt hlt)), upd_ne (Nat.ne_of_lt hlt)]
      exact (hf c hcm).1
  done := by
    intro X hP hw hK hc i pins s σ H E I hf st hg
    subst hP hw hK
    obtain ⟨⟨old, he⟩, S⟩ := st
    obtain ⟨xs, ys, hqx, hqy, hend⟩ := hg
    obtain ⟨its, rv, p, _⟩ := I.list hqx
    obtain ⟨its2, rv2, p2, _⟩ := I.list hqy
    have l1 := rv.length
    have l2 := rv2.length
    have he' : its.toArray[i]? = none ∨ its2.toArray[i]? = none := by
      rcases hend with q | q
      · exact .inl (by simp; omega)
      · exact .inr (by simp; omega)
    exact pyNext_enz_end (I.ok.hd hc) D he S p.isList p2.isList he' fun h' hk => ⟨rfl, I.turnedL (t' := s.toks) (ch := [e, z, TI, TO, i1, i2]) (fun c o hb q =>
      hk c o (fun q' => hb (by simp [q'])) (fun q' => hb (by simp [q'])) (fun q' => hb (by simp [q'])) (fun q' => hb (by simp [q'])) q) hf⟩
  self := fun A i s Q E st h => let ⟨⟨_, he⟩, _⟩ := st; wpAny_pyIter_enum he h
def iEnz (K : PySem.W.Frag) (ta : TA) : TI := fun σ H R => ta σ H fun vs H1 => ∃ a b xs ys, vs = [.ref a, .ref b] ∧ SqL K H1 a xs ∧ SqL K H1 b ys ∧ R (Itez K a b) H1
theorem pi_enz {X : Cx} {e e2 : Expr} {ta : TA} {p pz pos posz tpos : Pos} {elts : List Expr} {kk : Nat} (hge : Gl X "enumerate") (hme : X.mg "enumerate" = none) (hg : Gl X "zip") (hm : X.mg "zip" = none) (ha : PA X [e, e2] ta)
    (hs : starEach [e, e2] X.env = (false, eval e X.env) :: starEach [e2] X.env := by rfl) (hpl : ∀ pos, (backTo pos (starEach [e2] X.env)).any (·.1) = false := by exact fun _ => rfl)
    (hz : starEach [.Call (.Name "zip" pz) [e, e2] [] posz] X.env = [(false, eval (.Call (.Name "zip" pz) [e, e2] [] posz) X.env)] := by rfl) :
    PI X (.Tuple elts kk tpos) (.Call (.Name "enumerate" p) [.Call (.Name "zip" pz) [e, e2] [] posz] [] pos) (iEnz X.K ta) := by
  refine ⟨fun pins s σ H R I h => ?_⟩
  refine Call_ (ld_blt I hge hme boot_enumerate (PyProof.Rows.callWith_type1 ?_ hz rfl))
  rw [hz]
  show wpAny _ _ (spliced ((false, eval (.Call (.Name "zip" pz) [e, e2] [] posz) X.env) :: backTo pos [])) _ _ s
  refine Calls.spliced_cons ?_
  refine Call_ (ld_blt I hg hm PyProof.Rows.boot_zip (PyProof.Rows.callWith_type1 (thn (ha.run posz pins s σ H _ I h) fun us s1 ⟨vs, H1, I1, r1, q1⟩ => ?_) hs (hpl posz)))
  obtain ⟨a, b, xs, ys, ex, hqx, hqy, q⟩ := q1
  subst ex
  cases r1 with
  | cons r rr =>
    cases rr with
    | cons r' rr =>
      cases rr
      cases r
      cases r'
      obtain ⟨its, rv, p1, _⟩ := I1.list hqx
      obtain ⟨its2, rv2, p2, _⟩ := I1.list hqy
      have la : a < s1.heap.objs.size := p1.lt
      have lb : b < s1.heap.objs.size := p2.lt
      refine call_zip_2 p1.isList p2.isList fun h' hz hTI hTO h1 h2 hsz hk => ?_
      refine Calls.spliced_nil ?_
      refine call_enumerate_zip hz fun h'' he hk' => wpAny_pyIter_enum he ?_
      have I2 : Inv X pins σ H1 { s1 with heap := h'' } := I1.kept (t' := s1.toks) fun c o e => hk' c o (hk c o e)
      have hsz' : h'.objs.size = s1.heap.objs.size + 5 := hsz
      refine ⟨h'.objs.size, [h'.objs.size, s1.heap.objs.size + 4, s1.heap.objs.size + 2, s1.heap.objs.size + 3, s1.heap.objs.size, s1.heap.objs.size + 1], _, _, H1, rfl, I2, turn_enz (PySem.W.ktu_apart s1.heap.objs.size a b la lb) ?_, ⟨⟨.none, he⟩, ⟨⟨.none, false, .inl rfl, hk' _ _ hz⟩, hk' _ _ hTI, ⟨_, _, hk' _ _ hTO⟩, h1.at fun o e => hk' _ o e, h2.at fun o e => hk' _ o e⟩⟩, fun c hcm => ?_, q⟩
      · rw [hsz']
        intro q
        have q : s1.heap.objs.size + 5 = s1.heap.objs.size + 4 ∨ s1.heap.objs.size + 5 = s1.heap.objs.size + 2 ∨ s1.heap.objs.size + 5 = s1.heap.objs.size + 3 ∨ s1.heap.objs.size + 5 = s1.heap.objs.size ∨ s1.heap.objs.size + 5 = s1.heap.objs.size + 1 := q
        omega
      · rw [hsz'] at hcm
        have e' : c = s1.heap.objs.size + 5 ∨ c = s1.heap.objs.size + 4 ∨ c = s1.heap.objs.size + 2 ∨ c = s1.heap.objs.size + 3 ∨ c = s1.heap.objs.size ∨ c = s1.heap.objs.size + 1 := by simpa using hcm
        have hle : s1.heap.objs.size ≤ c := by
          rcases e' with z | z | z | z | z | z
          · rw [z]; exact Nat.le_add_right _ _
          · rw [z]; exact Nat.le_add_right _ _
          · rw [z]; exact Nat.le_add_right _ _
          · rw [z]; exact Nat.le_add_right _ _
          · rw [z]; exact Nat.le_refl _
          · rw [z]; exact Nat.le_add_right _ _
        exact I1.fpOk hle (I1.hok.fresh hle)
end VI
set_option Elab.async false
set_option linter.all false
set_option maxRecDepth 100000
namespace VI
open PySem PySem.Spec PyProof.Rows L2

abbrev D := PyData
def lim : Nat := 1000000

inductive BI where
  | len | abs | int | max | list | tuple | sum | all | any | sorted | str | split | part | join | find | upper | fst
  deriving DecidableEq
inductive TY where
  | int | bool | tuple | list | str
  deriving DecidableEq
inductive XT where
  | nm (i : Nat)
  | tp (js : List Nat)
mutual
inductive XE where
  | var (i : Nat)
  | cst (c : D)
  | bin (op : Operator) (a b : XE)
  | neg (a : XE)
  | not (a : XE)
  | and (a b : XE)
  | or (a b : XE)
  | cmp (op : CmpOp) (a b : XE)
  | chn (op op' : CmpOp) (a b c : XE)
  | call (f : Str) (as : XEs)
  | bi (f : BI) (as : XEs)
  | isi (a : XE) (t : TY)
  | ix (a b : XE)
  | sl (a lo hi : XE)
  | lst (as : XEs)
  | tup (as : XEs)
  | lc (vs : List Nat) (tg : XT) (it : XI) (tt elt : XE)
inductive XEs where
  | nil
  | cons (a : XE) (as : XEs)
inductive XI where
  | seq (a : XE)
  | rng (as : XEs)
  | zip (a b : XE)
  | enu (a : XE)
  | enz (a b : XE)
end


inductive W where
  | non
  | bl (b : Bool)
  | int (i : Int)
  | str (x : Str)
  | tup (ws : List W)
  | ref (n : Nat)
abbrev AH := List (List W)
abbrev HEnv := List (Option W)
abbrev Fun := List W → AH → Option (W × AH)
abbrev Fns := Str → Option Fun
mutual
/-- what a value tells -/
inductive Den (A : AH) : W → D → Prop
  | non : Den A .non .none
  | bl (b : Bool) : Den A (.bl b) (.bool b)
  | int (i : Int) : Den A (.int i) (.int i)
  | str (x : Str) : Den A (.str x) (.str x)
  | lst {n : Nat} {ws : List W} {ds : List D} : A[n]? = some ws → DenL A ws ds → Den A (.ref n) (.list ds)
  | tup {ws : List W} {ds : List D} : DenL A ws ds → Den A (.tup ws) (.tuple ds)
inductive DenL (A : AH) : List W → List D → Prop
  | nil : DenL A [] []
  | cons {w : W} {ws : List W} {d : D} {ds : List D} : Den A w d → DenL A ws ds → DenL A (w :: ws) (d :: ds)
end
open Classical in
noncomputable def denL (A : AH) (ws : List W) : Option (List D) := if h : ∃ ds, DenL A ws ds then some h.choose else none
open Classical in
noncomputable def den (A : AH) (w : W) : Option D := if h : ∃ d, Den A w d then some h.choose else none

def mulOk (i j : Int) : Bool := decide (i.natAbs.log2 + j.natAbs.log2 < 100000000)
def divOk (j : Int) : Bool := decide (j ≠ 0)
def binI : Operator → Int → Int → Option Int
  | .Add, i, j => some (i + j)
  | .Sub, i, j => some (i - j)
  | .Mult, i, j => if mulOk i j then some (i * j) else none
  | .FloorDiv, i, j => if divOk j then some (i.fdiv j) else none
  | .Mod, i, j => if j = 0 then none else some (i.fmod j)
  | .Pow, i, j => if 0 ≤ j ∧ j ≤ 1000 ∧ i.natAbs < 2 ^ 64 then some (i ^ j.toNat) else none
  | .RShift, i, j => if 0 ≤ j then some (i / 2 ^ j.toNat) else none
  | _, _, _ => none
def newL (ws : List W) (A : AH) : Option (W × AH) := if ws.length ≤ lim then some (.ref A.length, A ++ [ws]) else none
def binW (op : Operator) (x y : W) (A : AH) : Option (W × AH) := match x, y with
  | .int i, .int j => (binI op i j).map fun k => (.int k, A)
  | .ref n, .ref m => match op with
    | .Add => match A[n]?, A[m]? with
      | some xs, some ys => newL (xs ++ ys) A
      | _, _ => none
    | _ => none
  | .str a, .str b => match op with
    | .Add => if a.length + b.length ≤ lim then some (.str (a ++ b), A) else none
    | _ => none
  | _, _ => none
def signOf (x : Str) : Option Nat := match x.cps.toList with
  | [c] => some c
  | _ => none
def strsW : List W → Option (List Str)
  | [] => some []
  | .str x :: r => (strsW r).map (x :: ·)
  | _ => none
def partsW : Str → List W → Option Str
  | acc, [] => some acc
  | acc, .str x :: r => if acc.length + x.length ≤ lim then partsW (acc ++ x) r else none
  | acc, .int i :: r => if i.natAbs.log2 < 1920 ∧ acc.length + (toString i : Str).length ≤ lim then partsW (acc ++ (toString i : Str)) r else none
  | _, _ => none
def intsW : List W → Option (List Int)
  | [] => some []
  | .int i :: r => (intsW r).map (i :: ·)
  | _ => none
def blsW : List W → Option (List Bool)
  | [] => some []
  | .bl b :: r => (blsW r).map (b :: ·)
  | _ => none
def strD : D → Bool
  | .str _ => true
  | _ => false
noncomputable def eqW (x y : W) (A : AH) : Option Bool := match den A x, den A y with
  | some d, some e => if (SeqAt.shaped d && SeqAt.shaped e) || (strD d && strD e) then some (PyData.eqv d e) else none
  | _, _ => none
noncomputable def cmpW : CmpOp → W → W → AH → Option Bool
  | .Eq, x, y, A => eqW x y A
  | .NotEq, x, y, A => (eqW x y A).map (!·)
  | .Lt, .int i, .int j, _ => some (decide (i < j))
  | .LtE, .int i, .int j, _ => some (decide (i ≤ j))
  | .Gt, .int i, .int j, _ => some (decide (j < i))
  | .GtE, .int i, .int j, _ => some (decide (j ≤ i))
  | .In, .int i, .ref n, A => match A[n]? with
    | some ws => (intsW ws).map fun ns => ns.any fun n => n == i
    | none => none
  | .NotIn, .int i, .ref n, A => match A[n]? with
    | some ws => (intsW ws).map fun ns => !ns.any fun n => n == i
    | none => none
  | .In, .str x, .str y, _ => (signOf x).map fun c => decide (c ∈ y.cps.toList)
  | .NotIn, .str x, .str y, _ => (signOf x).map fun c => !decide (c ∈ y.cps.toList)
  | .In, x, .ref n, A => match den A x, den A (.ref n) with
    | some d, some (.list ds) => if SeqAt.shaped d && SeqAt.shaped (.list ds) then some (ds.any fun z => PyData.eqv z d) else none
    | _, _ => none
  | .Is, x, .non, _ => some (match x with | .non => true | _ => false)
  | .IsNot, x, .non, _ => some (match x with | .non => false | _ => true)
  | _, _, _, _ => none
def ixW (x y : W) (A : AH) : Option W := match x, y with
  | .ref n, .int i => match A[n]? with
    | some ws => atI ws i
    | none => none
  | .tup ws, .int i => atI ws i
  | .str x, .int i => if x.length ≤ lim then (atI x.cps.toList i).map fun c => .str ⟨#[c]⟩ else none
  | _, _ => none
def cutD {α : Type} (xs : List α) (lo hi : Option Int) : List α := (xs.drop (HT.sIx xs.length 0 lo)).take (HT.sIx xs.length xs.length hi - HT.sIx xs.length 0 lo)
def isNoneE : XE → Bool
  | .cst .none => true
  | _ => false
def partW : Bool → W → Option (Option Int)
  | true, .non => some none
  | false, .int i => some (some i)
  | _, _ => none
def slW (x : W) (lo hi : Option Int) (A : AH) : Option (W × AH) := match x with
  | .ref n => match A[n]? with
    | some ws => newL (cutD ws lo hi) A
    | none => none
  | .tup ws => if HT.sIx ws.length 0 lo = 0 ∧ HT.sIx ws.length ws.length hi = ws.length then none else some (.tup (cutD ws lo hi), A)
  | .str x => if x.length ≤ lim then some (.str (Txt.slice x lo hi), A) else none
  | _ => none
def insI (x : Int) : List Int → List Int
  | [] => [x]
  | y :: r => if x ≤ y then x :: y :: r else y :: insI x r
def sortI : List Int → List Int
  | [] => []
  | x :: r => insI x (sortI r)
def insK {α : Type} (k : α → Int) (x : α) : List α → List α
  | [] => [x]
  | y :: r => if k x ≤ k y then x :: y :: r else y :: insK k x r
def sortK {α : Type} (k : α → Int) : List α → List α
  | [] => []
  | x :: r => insK k x (sortK k r)
def keyW0 : W → Int
  | .tup (.int i :: _) => i
  | _ => 0
def keysW : List W → Option (List Int)
  | [] => some []
  | .tup [.int i, _] :: r => (keysW r).map (i :: ·)
  | _ => none
def atL (w : W) (A : AH) : Option (List W) := match w with
  | .ref n => A[n]?
  | _ => none
def biW : BI → List W → AH → Option (W × AH)
  | .len, [.tup ws], A => some (.int ws.length, A)
  | .len, [.str x], A => if x.length ≤ lim then some (.int x.length, A) else none
  | .int, [.str x], A => if x.length ≤ 640 then (PySem.intText? x).map fun n => (.int n, A) else none
  | .str, [.int i], A => if i.natAbs.log2 < 1920 then some (.str (toString i), A) else none
  | .split, [.str a, .str b], A => if (b.length == 0) = false ∧ a.length + 2 ≤ lim then newL ((Txt.split a b).map .str) A else none
  | .part, [.str a, .str b], A => if (b.length == 0) = false ∧ a.length ≤ lim then some (.tup [.str (Txt.partition a b).1, .str (Txt.partition a b).2.1, .str (Txt.partition a b).2.2], A) else none
  | .join, [.str a, x], A => match atL x A with
    | some ws => match strsW ws with
      | some ys => if (ys.map (·.length)).sum + ys.length * a.length ≤ lim then some (.str (Txt.join a ys), A) else none
      | none => none
    | none => none
  | .find, [.str a, .str b], A => some (.int (Txt.find a b), A)
  | .upper, [.str a], A => if a.length ≤ lim then some (.str (Txt.upper a), A) else none
  | .fst, x :: y :: ws, A => (partsW Str.empty (x :: y :: ws)).map fun z => (.str z, A)
  | .len, [x], A => (atL x A).map fun ws => (.int ws.length, A)
  | .abs, [.int i], A => some (.int (if i < 0 then -i else i), A)
  | .int, [.int i], A => some (.int i, A)
  | .int, [.bl b], A => some (.int (if b then 1 else 0), A)
  | .max, [.int i, .int j], A => some (.int (if j > i then j else i), A)
  | .list, [.tup ws], A => newL ws A
  | .list, [x], A => match atL x A with
    | some ws => newL ws A
    | none => none
  | .tuple, [x], A => match atL x A with
    | some ws => if ws.length ≤ lim then some (.tup ws, A) else none
    | none => none
  | .sum, [.tup ws], A => (intsW ws).map fun ns => (.int ns.sum, A)
  | .sum, [x], A => match atL x A with
    | some ws => (intsW ws).map fun ns => (.int ns.sum, A)
    | none => none
  | .all, [x], A => match atL x A with
    | some ws => (blsW ws).map fun ns => (.bl (ns.all id), A)
    | none => none
  | .any, [x], A => match atL x A with
    | some ws => (blsW ws).map fun ns => (.bl (ns.any id), A)
    | none => none
  | .sorted, [x], A => match atL x A with
    | some ws => if ws.length < 64 then match intsW ws with
      | some ns => newL ((sortI ns).map .int) A
      | none => match keysW ws with
        | some ks => if ks.Nodup then newL (sortK keyW0 ws) A else none
        | none => none
      else none
    | none => none
  | _, _, _ => none
def isiW : W → TY → Bool
  | .non, _ => false
  | .bl _, .int => true
  | .bl _, .bool => true
  | .bl _, _ => false
  | .int _, .int => true
  | .int _, _ => false
  | .str _, .str => true
  | .str _, _ => false
  | .ref _, .list => true
  | .ref _, _ => false
  | .tup _, .tuple => true
  | .tup _, _ => false
def cstW : D → Option W
  | .none => some .non
  | .bool b => some (.bl b)
  | .int i => some (.int i)
  | .str x => some (.str x)
  | _ => none

def setAllW : HEnv → List Nat → List W → Option HEnv
  | ρ, [], [] => some ρ
  | ρ, i :: is, d :: ds => if i < ρ.length then setAllW (ρ.set i (some d)) is ds else none
  | _, _, _ => none
def setTW (ρ : HEnv) (t : XT) (w : W) (A : AH) : Option HEnv := match t with
  | .nm i => if i < ρ.length then some (ρ.set i (some w)) else none
  | .tp js => match w with
    | .tup ws => setAllW ρ js ws
    | .ref n => match A[n]? with
      | some ws => setAllW ρ js ws
      | none => none
    | _ => none
def wipeW (ρ : HEnv) : List Nat → HEnv
  | [] => ρ
  | v :: vs => (wipeW ρ vs).set v none
abbrev Gd := List (Nat × List W)
def gOk (g : Gd) (A : AH) : Prop := ∀ p ∈ g, A[p.1]? = some p.2
open Classical in
noncomputable def lcW (f : W → AH → Option (Option W × AH)) (g : Gd) : List W → AH → Option (List W × AH)
  | [], A => if gOk g A then some ([], A) else none
  | w :: ws, A => if gOk g A then match f w A with
      | some (none, A1) => lcW f g ws A1
      | some (some x, A1) => match lcW f g ws A1 with
        | some (r, A2) => some (x :: r, A2)
        | none => none
      | none => none else none
def rngW : List W → Option (List W)
  | [.int n] => if n ≤ 1000000 ∧ -1000000 ≤ n then some ((List.range n.toNat).map fun (k : Nat) => .int (k : Int)) else none
  | [.int a, .int b] => if a ≤ 1000000 ∧ -1000000 ≤ a ∧ b ≤ 1000000 ∧ -1000000 ≤ b then some ((List.range (b - a).toNat).map fun (k : Nat) => .int (a + (k : Int))) else none
  | [.int a, .int b, .int c] => if c = -1 then (if a ≤ 1000000 ∧ -1000000 ≤ a ∧ b ≤ 1000000 ∧ -1000000 ≤ b then some ((List.range (a - b).toNat).map fun (k : Nat) => .int (a - (k : Int))) else none)
    else if 0 < c ∧ c ≤ 1000000 ∧ a = 0 ∧ 0 ≤ b ∧ b ≤ 1000000 then some ((List.range ((b + c - 1) / c).toNat).map fun (k : Nat) => .int ((k : Int) * c)) else none
  | _ => none
def enuW : Nat → List W → List W
  | _, [] => []
  | i, d :: ds => .tup [.int (i : Int), d] :: enuW (i + 1) ds

mutual
noncomputable def evH (Φ : Fns) : XE → HEnv → AH → Option (W × AH)
  | .var i, ρ, A => match ρ[i]? with
    | some (some w) => some (w, A)
    | _ => none
  | .cst c, _, A => (cstW c).map fun w => (w, A)
  | .bin op a b, ρ, A => match evH Φ a ρ A with
    | some (x, A1) => match evH Φ b ρ A1 with
      | some (y, A2) => binW op x y A2
      | none => none
    | none => none
  | .neg a, ρ, A => match evH Φ a ρ A with
    | some (.int i, A1) => some (.int (-i), A1)
    | _ => none
  | .not a, ρ, A => match evH Φ a ρ A with
    | some (.bl b, A1) => some (.bl (!b), A1)
    | _ => none
  | .and a b, ρ, A => match evH Φ a ρ A with
    | some (.bl true, A1) => match evH Φ b ρ A1 with
      | some (.bl t, A2) => some (.bl t, A2)
      | _ => none
    | some (.bl false, A1) => some (.bl false, A1)
    | _ => none
  | .or a b, ρ, A => match evH Φ a ρ A with
    | some (.bl false, A1) => match evH Φ b ρ A1 with
      | some (.bl t, A2) => some (.bl t, A2)
      | _ => none
    | some (.bl true, A1) => some (.bl true, A1)
    | _ => none
  | .cmp op a b, ρ, A => match evH Φ a ρ A with
    | some (x, A1) => match evH Φ b ρ A1 with
      | some (y, A2) => (cmpW op x y A2).map fun t => (.bl t, A2)
      | none => none
    | none => none
  | .chn op op' a b c, ρ, A => match evH Φ a ρ A with
    | some (x, A1) => match evH Φ b ρ A1 with
      | some (y, A2) => match cmpW op x y A2 with
        | some true => match evH Φ c ρ A2 with
          | some (z, A3) => (cmpW op' y z A3).map fun t => (.bl t, A3)
          | none => none
        | some false => some (.bl false, A2)
        | none => none
      | none => none
    | none => none
  | .call f as, ρ, A => match Φ f, evsH Φ as ρ A with
    | some φ, some (ws, A1) => φ ws A1
    | _, _ => none
  | .bi f as, ρ, A => match evsH Φ as ρ A with
    | some (ws, A1) => biW f ws A1
    | none => none
  | .isi a t, ρ, A => match evH Φ a ρ A with
    | some (w, A1) => some (.bl (isiW w t), A1)
    | none => none
  | .ix a b, ρ, A => match evH Φ a ρ A with
    | some (x, A1) => match evH Φ b ρ A1 with
      | some (y, A2) => (ixW x y A2).map fun w => (w, A2)
      | none => none
    | none => none
  | .sl a lo hi, ρ, A => match evH Φ a ρ A with
    | some (x, A1) => match evH Φ lo ρ A1 with
      | some (l, A2) => match evH Φ hi ρ A2 with
        | some (h, A3) => match partW (isNoneE lo) l, partW (isNoneE hi) h with
          | some l', some h' => slW x l' h' A3
          | _, _ => none
        | none => none
      | none => none
    | none => none
  | .lst as, ρ, A => match evsH Φ as ρ A with
    | some (ws, A1) => newL ws A1
    | none => none
  | .tup as, ρ, A => match evsH Φ as ρ A with
    | some (ws, A1) => if ws.length ≤ lim then some (.tup ws, A1) else none
    | none => none
  | .lc vs tg it tt elt, ρ, A => match eviH Φ it ρ A with
    | some (ws, g, A1) => if ws.length ≤ lim then match lcW (fun w A => match setTW (wipeW ρ vs) tg w A with
        | some ρ1 => match evH Φ tt ρ1 A with
          | some (.bl true, A3) => match evH Φ elt ρ1 A3 with
            | some (x, A4) => some (some x, A4)
            | none => none
          | some (.bl false, A3) => some (none, A3)
          | _ => none
        | none => none) g ws A1 with
      | some (r, A2) => newL r A2
      | none => none else none
    | none => none
noncomputable def evsH (Φ : Fns) : XEs → HEnv → AH → Option (List W × AH)
  | .nil, _, A => some ([], A)
  | .cons a as, ρ, A => match evH Φ a ρ A with
    | some (w, A1) => match evsH Φ as ρ A1 with
      | some (ws, A2) => some (w :: ws, A2)
      | none => none
    | none => none
/-- what is walked, and which lists have to stay the while -/
noncomputable def eviH (Φ : Fns) : XI → HEnv → AH → Option (List W × Gd × AH)
  | .seq a, ρ, A => match evH Φ a ρ A with
    | some (.ref n, A1) => match A1[n]? with
      | some ws => some (ws, [(n, ws)], A1)
      | none => none
    | some (.tup ws, A1) => some (ws, [], A1)
    | some (.str x, A1) => if x.length ≤ lim then some (x.cps.toList.map fun c => .str ⟨#[c]⟩, [], A1) else none
    | _ => none
  | .rng as, ρ, A => match evsH Φ as ρ A with
    | some (ws, A1) => (rngW ws).map fun r => (r, [], A1)
    | none => none
  | .zip a b, ρ, A => match evH Φ a ρ A with
    | some (.ref n, A1) => match evH Φ b ρ A1 with
      | some (.ref m, A2) => match A2[n]?, A2[m]? with
        | some xs, some ys => some (List.zipWith (fun x y => .tup [x, y]) xs ys, [(n, xs), (m, ys)], A2)
        | _, _ => none
      | _ => none
    | _ => none
  | .enu a, ρ, A => match evH Φ a ρ A with
    | some (.ref n, A1) => match A1[n]? with
      | some ws => some (enuW 0 ws, [(n, ws)], A1)
      | none => none
    | _ => none
  | .enz a b, ρ, A => match evH Φ a ρ A with
    | some (.ref n, A1) => match evH Φ b ρ A1 with
      | some (.ref m, A2) => match A2[n]?, A2[m]? with
        | some xs, some ys => some (enuW 0 (List.zipWith (fun x y => .tup [x, y]) xs ys), [(n, xs), (m, ys)], A2)
        | _, _ => none
      | _ => none
    | _ => none
end

mutual
inductive XS where
  | asg (tg : XT) (e : XE)
  | par (js : List Nat) (as : XEs)
  | setx (a k e : XE)
  | swp (a1 k1 a2 k2 e1 e2 : XE)
  | aug (i : Nat) (op : Operator) (e : XE)
  | app (a e : XE)
  | ins (a k e : XE)
  | pop (i : Nat) (a k : XE)
  | rem (a e : XE)
  | exp (e : XE)
  | strs (i : Nat) (a : XE)
  | ret (e : XE)
  | ife (c : XE) (a b : XSs)
  | whl (c : XE) (b : XSs)
  | for (tg : XT) (it : XI) (b : XSs)
  | cont
  | brk
  | pass
  | stop
inductive XSs where
  | nil
  | cons (s : XS) (ss : XSs)
end
inductive OutH where
  | nx (ρ : HEnv) (A : AH)
  | rt (w : W) (A : AH)
  | bk (ρ : HEnv) (A : AH)
  | ct (ρ : HEnv) (A : AH)
open Classical in
noncomputable def forH (f : W → HEnv → AH → Option OutH) (g : Gd) : List W → HEnv → AH → Option OutH
  | [], ρ, A => if gOk g A then some (.nx ρ A) else none
  | d :: ds, ρ, A => if gOk g A then match f d ρ A with
    | some (.nx ρ' A') => forH f g ds ρ' A'
    | some (.ct ρ' A') => forH f g ds ρ' A'
    | some (.bk ρ' A') => some (.nx ρ' A')
    | some (.rt x A') => some (.rt x A')
    | none => none else none
def whlH (t : HEnv → AH → Option (W × AH)) (f : HEnv → AH → Option OutH) (ρ : HEnv) (A : AH) : Option OutH :=
  match t ρ A with
  | some (.bl true, A1) => match f ρ A1 with
    | some (.nx ρ' A') => whlH t f ρ' A'
    | some (.ct ρ' A') => whlH t f ρ' A'
    | some (.bk ρ' A') => some (.nx ρ' A')
    | some (.rt x A') => some (.rt x A')
    | none => none
  | some (.bl false, A1) => some (.nx ρ A1)
  | _ => none
partial_fixpoint
def plD (d : D) : List D → Option Nat
  | [] => none
  | x :: xs => if PyData.eqv x d then some 0 else (plD d xs).map (· + 1)
def putW (x : W) (f : List W → Option (List W)) (A : AH) : Option AH := match x with
  | .ref n => match A[n]? with
    | some ws => (f ws).map fun ws' => A.set n ws'
    | none => none
  | _ => none
def setN (k v : W) (ws : List W) : Option (List W) := match k with
  | .int j => (ixN ws.length j).map fun m => ws.set m v
  | _ => none
def appN (v : W) (ws : List W) : Option (List W) := if ws.length < lim then some (ws ++ [v]) else none
def insN (k v : W) (ws : List W) : Option (List W) := match k with
  | .int j => if ws.length < lim ∧ 0 ≤ j ∧ j < 1000000 then some (ws.take j.toNat ++ [v] ++ ws.drop j.toNat) else none
  | _ => none
noncomputable def remN (A : AH) (v : W) (ws : List W) : Option (List W) := match denL A ws, den A v with
  | some ds, some d => if SeqAt.shaped (.list ds) && SeqAt.shaped d then (plD d ds).map fun j => ws.eraseIdx j else none
  | _, _ => none

mutual
noncomputable def exH (Φ : Fns) : XS → HEnv → AH → Option OutH
  | .asg t e, ρ, A => match evH Φ e ρ A with
    | some (w, A1) => (setTW ρ t w A1).map fun ρ' => .nx ρ' A1
    | none => none
  | .par js as, ρ, A => match evsH Φ as ρ A with
    | some (ws, A1) => if ws.length ≤ lim then (setAllW ρ js ws).map fun ρ' => .nx ρ' A1 else none
    | none => none
  | .setx a k e, ρ, A => match evH Φ e ρ A with
    | some (v, A1) => match evH Φ a ρ A1 with
      | some (x, A2) => match evH Φ k ρ A2 with
        | some (j, A3) => (putW x (setN j v) A3).map fun A4 => .nx ρ A4
        | none => none
      | none => none
    | none => none
  | .swp a1 k1 a2 k2 e1 e2, ρ, A => match evH Φ e1 ρ A with
    | some (v1, A1) => match evH Φ e2 ρ A1 with
      | some (v2, A2) => match evH Φ a1 ρ A2 with
        | some (x1, A3) => match evH Φ k1 ρ A3 with
          | some (j1, A4) => match putW x1 (setN j1 v1) A4 with
            | some A5 => match evH Φ a2 ρ A5 with
              | some (x2, A6) => match evH Φ k2 ρ A6 with
                | some (j2, A7) => (putW x2 (setN j2 v2) A7).map fun A8 => .nx ρ A8
                | none => none
              | none => none
            | none => none
          | none => none
        | none => none
      | none => none
    | none => none
  | .aug i op e, ρ, A => match ρ[i]? with
    | some (some (.int a)) => match evH Φ e ρ A with
      | some (.int b, A1) => match op with
        | .Add => some (.nx (ρ.set i (some (.int (a + b)))) A1)
        | .Sub => some (.nx (ρ.set i (some (.int (a - b)))) A1)
        | _ => none
      | _ => none
    | _ => none
  | .app a e, ρ, A => match evH Φ a ρ A with
    | some (x, A1) => match evH Φ e ρ A1 with
      | some (v, A2) => (putW x (appN v) A2).map fun A3 => .nx ρ A3
      | none => none
    | none => none
  | .ins a k e, ρ, A => match evH Φ a ρ A with
    | some (x, A1) => match evH Φ k ρ A1 with
      | some (j, A2) => match evH Φ e ρ A2 with
        | some (v, A3) => (putW x (insN j v) A3).map fun A4 => .nx ρ A4
        | none => none
      | none => none
    | none => none
  | .pop i a k, ρ, A => match evH Φ a ρ A with
    | some (.ref n, A1) => match evH Φ k ρ A1 with
      | some (.int m, A2) => match A2[n]? with
        | some ws => if 0 ≤ m ∧ ws.length ≤ lim ∧ i < ρ.length then match ws[m.toNat]? with
          | some w => some (.nx (ρ.set i (some w)) (A2.set n (ws.eraseIdx m.toNat)))
          | none => none else none
        | none => none
      | _ => none
    | _ => none
  | .rem a e, ρ, A => match evH Φ a ρ A with
    | some (x, A1) => match evH Φ e ρ A1 with
      | some (v, A2) => (putW x (remN A2 v) A2).map fun A3 => .nx ρ A3
      | none => none
    | none => none
  | .exp e, ρ, A => match evH Φ e ρ A with
    | some (_, A1) => some (.nx ρ A1)
    | none => none
  | .strs i a, ρ, A => match evH Φ a ρ A with
    | some (.int n, A1) => if i < ρ.length ∧ n.natAbs.log2 < 1920 then some (.nx (ρ.set i (some (.str (toString n)))) A1) else none
    | some (.tup [.int p, .int q], A1) => if i < ρ.length ∧ p.natAbs.log2 < 1000 ∧ q.natAbs.log2 < 1000 then some (.nx (ρ.set i none) A1) else none
    | _ => none
  | .ret e, ρ, A => match evH Φ e ρ A with
    | some (w, A1) => some (.rt w A1)
    | none => none
  | .ife c a b, ρ, A => match evH Φ c ρ A with
    | some (.bl true, A1) => exsH Φ a ρ A1
    | some (.bl false, A1) => exsH Φ b ρ A1
    | _ => none
  | .whl c b, ρ, A => whlH (evH Φ c) (exsH Φ b) ρ A
  | .for tg it b, ρ, A => match eviH Φ it ρ A with
    | some (ws, g, A1) => forH (fun w ρ A => match setTW ρ tg w A with
        | some ρ1 => exsH Φ b ρ1 A
        | none => none) g ws ρ A1
    | none => none
  | .cont, ρ, A => some (.ct ρ A)
  | .brk, ρ, A => some (.bk ρ A)
  | .pass, ρ, A => some (.nx ρ A)
  | .stop, _, _ => none
noncomputable def exsH (Φ : Fns) : XSs → HEnv → AH → Option OutH
  | .nil, ρ, A => some (.nx ρ A)
  | .cons s ss, ρ, A => match exH Φ s ρ A with
    | some (.nx ρ' A') => exsH Φ ss ρ' A'
    | o => o
end
def startW (n : Nat) (ws : List W) : HEnv := ws.map some ++ List.replicate (n - ws.length) none
noncomputable def runH (Φ : Fns) (n ar : Nat) (b : XSs) : Fun := fun ws A => if ws.length = ar then match exsH Φ b (startW n ws) A with
    | some (.rt w A') => some (w, A')
    | some (.nx _ A') => some (.non, A')
    | _ => none else none

structure Co where
  N : List Str
  sc : Scope
  fn : Str → Bool
  gc : List (Str × D)
def visB (sc : Scope) (x : Str) : Bool := match sc.names.lookup x with
  | some .local => true
  | some .cell => true
  | some .free => true
  | _ => false
def locB (c : Co) (x : Str) : Bool := match c.sc.names.lookup x with
  | some .local => true
  | some .cell => c.fn x
  | _ => false
def glB (sc : Scope) (x : Str) : Bool := match sc.names.lookup x with
  | some .globalImplicit => true
  | _ => false
def ixS (x : Str) : List Str → Option Nat
  | [] => none
  | y :: r => if x = y then some 0 else (ixS x r).map (· + 1)
def biOf (x : Str) : Option BI :=
  if x = "len" then some .len else if x = "abs" then some .abs else if x = "int" then some .int else if x = "max" then some .max
  else if x = "list" then some .list else if x = "tuple" then some .tuple else if x = "sum" then some .sum else if x = "all" then some .all
  else if x = "any" then some .any else if x = "sorted" then some .sorted else if x = "str" then some .str else none
def mtOf (x : Str) : Option BI := if x = "split" then some .split else if x = "partition" then some .part else if x = "join" then some .join else if x = "find" then some .find else none
def recvT : Expr → Bool
  | .Name .. => true
  | .Subscript .. => true
  | .Constant (.str _) _ _ => true
  | _ => false
def tyOf (x : Str) : Option TY :=
  if x = "int" then some .int else if x = "bool" then some .bool else if x = "tuple" then some .tuple else if x = "list" then some .list else if x = "str" then some .str else none
def plainE : Expr → Bool
  | .BoolOp .. | .BinOp .. | .UnaryOp .. | .Compare .. | .Call .. | .Constant .. | .Subscript .. | .Name .. | .List .. | .Tuple .. | .ListComp .. | .JoinedStr .. => true
  | _ => false
def trNs (c : Co) : List Expr → Option (List Nat)
  | [] => some []
  | .Name x _ :: r => if locB c x then match ixS x c.N, trNs c r with
    | some i, some is => some (i :: is)
    | _, _ => none else none
  | _ => none
def trTg (c : Co) : Expr → Option XT
  | .Name x _ => if locB c x then (ixS x c.N).map .nm else none
  | .Tuple es _ _ => (trNs c es).map .tp
  | _ => none
def tgIn : XT → List Nat → Bool
  | .nm i, vs => vs.contains i
  | .tp js, vs => js.all fun i => vs.contains i
def relSc (scope sc : Scope) : Scope := relS scope sc
def ownOf (N : List Str) (scope : Scope) : List (Str × Nat) := scope.names.filterMap fun (n, k) => if k == .local || k == .cell then (ixS n N).map fun i => (n, i) else none
def sepOps (op : CmpOp) : Bool := op == .Eq || op == .NotEq || op == .Lt || op == .LtE || op == .Gt || op == .GtE || op == .In || op == .NotIn || op == .Is || op == .IsNot
mutual
def trE : Nat → Co → Expr → Option XE
  | 0, _, _ => none
  | n + 1, c, e => match e with
    | .Name x _ => if visB c.sc x ∧ (x == ("__debug__" : Str)) = false ∧ (x == ("__classdict__" : Str)) = false then (ixS x c.N).map .var else if glB c.sc x ∧ (x == ("__debug__" : Str)) = false then (c.gc.lookup x).map .cst else none
    | .Constant (.int i) _ _ => some (.cst (.int i))
    | .Constant (.bool b) _ _ => some (.cst (.bool b))
    | .Constant .none _ _ => some (.cst .none)
    | .Constant (.str x) _ _ => some (.cst (.str x))
    | .BinOp a op b _ => match trE n c a, trE n c b with
      | some a', some b' => some (.bin op a' b')
      | _, _ => none
    | .UnaryOp .USub a _ => (trE n c a).map .neg
    | .UnaryOp .Not a _ => (trE n c a).map .not
    | .BoolOp .And [a] _ => if plainE a then trE n c a else none
    | .BoolOp .Or [a] _ => if plainE a then trE n c a else none
    | .BoolOp .And (a :: b :: r) p => match trE n c a, trE n c (.BoolOp .And (b :: r) p) with
      | some a', some b' => some (.and a' b')
      | _, _ => none
    | .BoolOp .Or (a :: b :: r) p => match trE n c a, trE n c (.BoolOp .Or (b :: r) p) with
      | some a', some b' => some (.or a' b')
      | _, _ => none
    | .Compare a [op] [b] _ => if plainE b ∧ sepOps op then match trE n c a, trE n c b with
      | some a', some b' => some (.cmp op a' b')
      | _, _ => none else none
    | .Compare a [op, op'] [b, d] _ => if plainE b ∧ plainE d ∧ sepOps op ∧ sepOps op' then match trE n c a, trE n c b, trE n c d with
      | some a', some b', some d' => some (.chn op op' a' b' d')
      | _, _, _ => none else none
    | .Call (.Name f _) as [] _ =>
      if glB c.sc f ∧ (f == ("__debug__" : Str)) = false ∧ f ≠ "__name__" then
        if f = "isinstance" then match as with
          | [a, .Name t _] => if plainE a ∧ glB c.sc t then match trE n c a, tyOf t with
            | some a', some t' => some (.isi a' t')
            | _, _ => none else none
          | _ => none
        else match biOf f with
          | some b => match as with
            | [] => none
            | _ => (trEs n c as).map (.bi b)
          | none => match as with
            | [] => none
            | _ => (trEs n c as).map (.call f)
      else none
    | .Call (.Attribute l m ap) [e] [] cp =>
      if recvT l ∧ plainE e ∧ (ap.endLine == cp.line) = true then match mtOf m, trE n c l, trE n c e with
        | some b, some l', some e' => some (.bi b (.cons l' (.cons e' .nil)))
        | _, _, _ => none else none
    | .Call (.Attribute l m ap) [] [] cp =>
      if m = "upper" ∧ recvT l ∧ (ap.endLine == cp.line) = true then (trE n c l).map fun l' => .bi .upper (.cons l' .nil) else none
    | .JoinedStr (a :: b :: r) _ => (trFs n c (a :: b :: r)).map (.bi .fst)
    | .Subscript a (.Slice lo hi none _) _ =>
      match trE n c a, (match lo with | none => some (XE.cst .none) | some l => (trE n c l).filter fun l' => !isNoneE l' : Option XE), (match hi with | none => some (XE.cst .none) | some h => (trE n c h).filter fun l' => !isNoneE l' : Option XE) with
      | some a', some l', some h' => some (.sl a' l' h')
      | _, _, _ => none
    | .Subscript a b _ => if plainE b then match trE n c a, trE n c b with
      | some a', some b' => some (.ix a' b')
      | _, _ => none else none
    | .List as _ => (trEs n c as).map .lst
    | .Tuple as _ _ => (trEs n c as).map .tup
    | .ListComp elt [⟨tg, iter, ifs, 0⟩] scope _ =>
      let own := ownOf c.N scope
      let c' : Co := ⟨c.N, relSc scope c.sc, fun x => scope.names.lookup x == some .cell, c.gc⟩
      if blkC c.N c.sc scope own then
        match trI n c iter tg, trTg c' tg, (match ifs with | [] => some (XE.cst (.bool true)) | [t] => if plainE t then trE n c' t else none | _ => none : Option XE), trE n c' elt with
        | some it, some tg', some t', some e' => if tgIn tg' (own.map (·.2)) then some (.lc (own.map (·.2)) tg' it t' e') else none
        | _, _, _, _ => none
      else none
    | _ => none
def trEs : Nat → Co → List Expr → Option XEs
  | 0, _, _ => none
  | _ + 1, _, [] => some .nil
  | n + 1, c, a :: as => if plainE a then match trE n c a, trEs n c as with
    | some a', some as' => some (.cons a' as')
    | _, _ => none else none
/-- the parts of an f-string -/
def trFs : Nat → Co → List Expr → Option XEs
  | 0, _, _ => none
  | _ + 1, _, [] => some .nil
  | n + 1, c, e :: r => match e with
    | .FormattedValue v k none _ => if k = -1 then match trE n c v, trFs n c r with
      | some v', some r' => some (.cons v' r')
      | _, _ => none else none
    | .Constant (.str x) _ _ => (trFs n c r).map (.cons (.cst (.str x)))
    | _ => none
/-- what is walked; tg the target -/
def trI : Nat → Co → Expr → Expr → Option XI
  | 0, _, _, _ => none
  | n + 1, c, e, tg => match e with
    | .Call (.Name f _) as [] _ =>
      if glB c.sc f ∧ f = "range" then (trEs n c as).map .rng
      else if glB c.sc f ∧ f = "zip" then
        match as, tg with
        | [a, b], .Tuple _ _ _ => if plainE a ∧ plainE b then match trE n c a, trE n c b with
          | some a', some b' => some (.zip a' b')
          | _, _ => none else none
        | _, _ => none
      else if glB c.sc f ∧ f = "enumerate" then
        match as, tg with
        | [a], .Tuple _ _ _ => match a with
          | .Call (.Name z _) [x, y] [] _ => if glB c.sc z ∧ z = "zip" then (if plainE x ∧ plainE y then match trE n c x, trE n c y with
              | some x', some y' => some (.enz x' y')
              | _, _ => none else none) else if plainE a then (trE n c a).map .enu else none
          | _ => if plainE a then (trE n c a).map .enu else none
        | _, _ => none
      else (trE n c e).map .seq
    | e => if plainE e then (trE n c e).map .seq else none
end
def recvB : Expr → Bool
  | .Name .. => true
  | .Subscript .. => true
  | _ => false
def trA (n : Nat) (c : Co) : List Expr → Expr → Option XS
    | [.Name x _], .Call (.Attribute l m ap) [k] [] cp =>
      if m = "pop" then (if (ap.endLine == cp.line) = true ∧ locB c x ∧ recvB l ∧ plainE k then match ixS x c.N, trE n c l, trE n c k with
        | some i, some j, some k' => some (.pop i j k')
        | _, _, _ => none
      else none) else if locB c x then match ixS x c.N, trE n c (.Call (.Attribute l m ap) [k] [] cp) with
        | some i, some e' => some (.asg (.nm i) e')
        | _, _ => none else none
    | [.Name x _], .Call (.Name f pf) [a] [] cp =>
      if f = "str" then (if glB c.sc f ∧ plainE a ∧ locB c x then match ixS x c.N, trE n c a with
        | some i, some a' => some (.strs i a')
        | _, _ => none
      else none) else if locB c x then match ixS x c.N, trE n c (.Call (.Name f pf) [a] [] cp) with
        | some i, some e' => some (.asg (.nm i) e')
        | _, _ => none else none
    | [.Name x _], e => if plainE e ∧ locB c x then match ixS x c.N, trE n c e with
      | some i, some e' => some (.asg (.nm i) e')
      | _, _ => none else none
    | [.Tuple ts _ _], .Tuple es _ _ =>
      match trNs c ts with
      | some js => if (es.all (constantsAlone 8)) = false ∨ es.all (foldedForSure 8) then (trEs n c es).map (.par js) else none
      | none => match ts, es with
        | [.Subscript l k1 _, .Subscript l2 k2 _], [e1, e2] =>
          if plainE k1 ∧ plainE k2 ∧ plainE e1 ∧ plainE e2 then match trE n c l, trE n c l2, trE n c k1, trE n c k2, trE n c e1, trE n c e2 with
            | some a1, some a2, some k1', some k2', some e1', some e2' => some (.swp a1 k1' a2 k2' e1' e2')
            | _, _, _, _, _, _ => none
          else none
        | _, _ => none
    | [.Tuple ts a b], e => if plainE e then match trNs c ts, trE n c e with
      | some js, some e' => some (.asg (.tp js) e')
      | _, _ => none else none
    | [.Subscript l k _], e => if plainE k ∧ plainE e then match trE n c l, trE n c k, trE n c e with
      | some i, some k', some e' => some (.setx i k' e')
      | _, _, _ => none else none
    | _, _ => none
mutual
def trS : Nat → Co → Stmt → Option XS
  | 0, _, _ => none
  | n + 1, c, s => match s with
    | .Return (some e) _ => if plainE e then (trE n c e).map .ret else none
    | .If t a b _ => if plainE t then match trE n c t, trSs n c a, trSs n c b with
      | some t', some a', some b' => some (.ife t' a' b')
      | _, _, _ => none else none
    | .While t b [] _ => if plainE t then match trE n c t, trSs n c b with
      | some t', some b' => some (.whl t' b')
      | _, _ => none else none
    | .For tg it b [] _ => if plainE it then match trI n c it tg, trTg c tg, trSs n c b with
      | some it', some tg', some b' => some (.for tg' it' b')
      | _, _, _ => none else none
    | .Continue _ => some .cont
    | .Break _ => some .brk
    | .Pass _ => some .pass
    | .AugAssign (.Name x _) op e _ => if plainE e ∧ locB c x then match ixS x c.N, trE n c e with
      | some i, some e' => if op = .Add ∨ op = .Sub then some (.aug i op e') else none
      | _, _ => none else none
    | .Assign ts e _ => trA n c ts e
    | .Expr (.Call (.Attribute l m ap) as [] cp) _ =>
      if (ap.endLine == cp.line) = false then none else if m = "append" then match as with
        | [e] => if recvB l ∧ plainE e then match trE n c l, trE n c e with
          | some i, some e' => some (.app i e')
          | _, _ => none else none
        | _ => none
      else if m = "insert" then match as with
        | [k, e] => if recvB l ∧ plainE k ∧ plainE e then match trE n c l, trE n c k, trE n c e with
          | some i, some k', some e' => some (.ins i k' e')
          | _, _, _ => none else none
        | _ => none
      else if m = "remove" then match as with
        | [e] => if recvB l ∧ plainE e then match trE n c l, trE n c e with
          | some i, some e' => some (.rem i e')
          | _, _ => none else none
        | _ => none
      else none
    | .Expr (.Call (.Name f p) as [] cp) _ => (trE n c (.Call (.Name f p) as [] cp)).map .exp
    | .Raise .. => some .stop
    | _ => none
def trSs : Nat → Co → List Stmt → Option XSs
  | 0, _, _ => none
  | _ + 1, _, [] => some .nil
  | n + 1, c, s :: ss => match trS n c s, trSs n c ss with
    | some s', some ss' => some (.cons s' ss')
    | _, _ => none
end
end VI
set_option Elab.async false
set_option linter.all false
set_option maxRecDepth 100000
set_option maxHeartbeats 1000000
namespace VI
open PySem PySem.Spec PyProof.Rows L2

mutual
inductive Rv (m : List Addr) (H : Hp) : V → W → Prop
  | non : Rv m H .non .non
  | bl (b : Bool) : Rv m H (.bl b) (.bl b)
  | int (i : Int) : Rv m H (.int i) (.int i)
  | str (x : Str) : Rv m H (.str x) (.str x)
  | tup {a : Addr} {vs : List V} {ws : List W} : H a = some (.tup vs) → vs.length ≤ lim → RvL m H vs ws → Rv m H (.ref a) (.tup ws)
  | ref {a : Addr} {n : Nat} : m[n]? = some a → Rv m H (.ref a) (.ref n)
inductive RvL (m : List Addr) (H : Hp) : List V → List W → Prop
  | nil : RvL m H [] []
  | cons {v : V} {vs : List V} {w : W} {ws : List W} : Rv m H v w → RvL m H vs ws → RvL m H (v :: vs) (w :: ws)
end
structure HR (m : List Addr) (A : AH) (H : Hp) : Prop where
  len : m.length = A.length
  nd : ∀ (i j : Nat) (a : Addr), m[i]? = some a → m[j]? = some a → i = j
  cell : ∀ (n : Nat) (a : Addr) (ws : List W), m[n]? = some a → A[n]? = some ws → ∃ vs, H a = some (.lst vs) ∧ vs.length ≤ lim ∧ RvL m H vs ws
structure Ex (m : List Addr) (H : Hp) (m' : List Addr) (H' : Hp) : Prop where
  pre : ∀ (n : Nat) (a : Addr), m[n]? = some a → m'[n]? = some a
  new : ∀ (n : Nat) (a : Addr), m'[n]? = some a → m.length ≤ n → H a = none
  keep : ∀ (a : Addr) (o : HO), (∀ n : Nat, m[n]? ≠ some a) → H a = some o → H' a = some o
  al : ∀ (n : Nat) (a : Addr), m'[n]? = some a → H' a ≠ none
section
variable {m m' m1 m2 : List Addr} {H H' H1 H2 : Hp} {A A' A1 : AH}
theorem HR.al (h : HR m A H) (n : Nat) (a : Addr) (e : m[n]? = some a) : H a ≠ none := by
  have hl : n < A.length := by rw [← h.len]; exact (List.getElem?_eq_some_iff.mp e).1
  obtain ⟨vs, q, _⟩ := h.cell n a _ e (List.getElem?_eq_getElem hl)
  rw [q]
  exact fun z => nomatch z
theorem HR.lst (h : HR m A H) {n : Nat} {a : Addr} (e : m[n]? = some a) : ∃ ws vs, A[n]? = some ws ∧ H a = some (.lst vs) ∧ vs.length ≤ lim ∧ RvL m H vs ws := by
  have hl : n < A.length := by rw [← h.len]; exact (List.getElem?_eq_some_iff.mp e).1
  exact ⟨_, h.cell n a _ e (List.getElem?_eq_getElem hl) |>.choose, List.getElem?_eq_getElem hl, (h.cell n a _ e (List.getElem?_eq_getElem hl)).choose_spec⟩
theorem HR.at_ (h : HR m A H) {n : Nat} {ws : List W} (e : A[n]? = some ws) : ∃ a vs, m[n]? = some a ∧ H a = some (.lst vs) ∧ vs.length ≤ lim ∧ RvL m H vs ws := by
  have hl : n < m.length := by rw [h.len]; exact (List.getElem?_eq_some_iff.mp e).1
  obtain ⟨vs, q⟩ := h.cell n _ ws (List.getElem?_eq_getElem hl) e
  exact ⟨_, vs, List.getElem?_eq_getElem hl, q⟩
theorem HR.no (h : HR m A H) {a : Addr} (e : H a = none) (n : Nat) : m[n]? ≠ some a := fun z => h.al n a z e
theorem HR.noT (h : HR m A H) {a : Addr} {vs : List V} (e : H a = some (.tup vs)) (n : Nat) : m[n]? ≠ some a := fun z => by
  obtain ⟨_, _, _, q, _⟩ := h.lst z
  rw [e] at q
  cases q
theorem HR.refl (h : HR m A H) : Ex m H m H := ⟨fun _ _ e => e, fun n a e l => by have := (List.getElem?_eq_some_iff.mp e).1; omega, fun _ _ _ e => e, h.al⟩
theorem Ex.le (e : Ex m H m' H') : m.length ≤ m'.length := by
  apply Nat.le_of_not_lt
  intro h
  have := e.pre m'.length _ (List.getElem?_eq_getElem h)
  have := (List.getElem?_eq_some_iff.mp this).1
  omega
theorem Ex.trans (e : Ex m H m1 H1) (f : Ex m1 H1 m2 H2) : Ex m H m2 H2 := by
  have hn : ∀ (n : Nat) (a : Addr), m2[n]? = some a → m.length ≤ n → H a = none := fun n a q l => by
    by_cases hl : n < m1.length
    · have q1 := f.pre n _ (List.getElem?_eq_getElem hl)
      rw [q] at q1
      exact e.new n a (by rw [List.getElem?_eq_getElem hl]; exact q1.symm) l
    · have h1 := f.new n a q (by omega)
      cases h : H a with
      | none => rfl
      | some o =>
        by_cases hm : ∃ k : Nat, m[k]? = some a
        · obtain ⟨k, hk⟩ := hm
          exact (e.al k a (e.pre k a hk) h1).elim
        · have := e.keep a o (fun (k : Nat) z => hm ⟨k, z⟩) h
          rw [h1] at this
          cases this
  refine ⟨fun n a q => f.pre n a (e.pre n a q), hn, fun a o q h => f.keep a o (fun n z => ?_) (e.keep a o q h), f.al⟩
  by_cases hl : m.length ≤ n
  · rw [e.new n a z hl] at h
    cases h
  · have q1 := e.pre n _ (List.getElem?_eq_getElem (Nat.lt_of_not_le hl))
    rw [z] at q1
    exact q n (by rw [List.getElem?_eq_getElem (Nat.lt_of_not_le hl)]; exact q1.symm)
mutual
theorem Rv.ex (h : HR m A H) (e : Ex m H m' H') : ∀ {v : V} {w : W}, Rv m H v w → Rv m' H' v w
  | _, _, .non => .non
  | _, _, .bl b => .bl b
  | _, _, .int i => .int i
  | _, _, .str x => .str x
  | _, _, .tup q l r => .tup (e.keep _ _ (h.noT q) q) l (RvL.ex h e r)
  | _, _, .ref q => .ref (e.pre _ _ q)
theorem RvL.ex (h : HR m A H) (e : Ex m H m' H') : ∀ {vs : List V} {ws : List W}, RvL m H vs ws → RvL m' H' vs ws
  | _, _, .nil => .nil
  | _, _, .cons q r => .cons (Rv.ex h e q) (RvL.ex h e r)
end
theorem RvL.len : ∀ {vs : List V} {ds : List W}, RvL m H vs ds → vs.length = ds.length
  | _, _, .nil => rfl
  | _, _, .cons _ r => by simp [RvL.len r]
theorem RvL.get : ∀ {vs : List V} {ds : List W} {i : Nat} {d : W}, RvL m H vs ds → ds[i]? = some d → ∃ v, vs[i]? = some v ∧ Rv m H v d
  | _, _, 0, _, .cons h _, e => by simp at e; subst e; exact ⟨_, rfl, h⟩
  | _, _, i + 1, _, .cons _ r, e => by
    obtain ⟨v, h1, h2⟩ := RvL.get (i := i) r (by simpa using e)
    exact ⟨v, by simpa using h1, h2⟩
theorem RvL.app : ∀ {vs ws : List V} {ds es : List W}, RvL m H vs ds → RvL m H ws es → RvL m H (vs ++ ws) (ds ++ es)
  | _, _, _, _, .nil, s => s
  | _, _, _, _, .cons h r, s => .cons h (RvL.app r s)
theorem RvL.take : ∀ {vs : List V} {ds : List W} (n : Nat), RvL m H vs ds → RvL m H (vs.take n) (ds.take n)
  | _, _, 0, _ => by simp; exact .nil
  | _, _, _ + 1, .nil => .nil
  | _, _, n + 1, .cons h r => .cons h (RvL.take n r)
theorem RvL.drop : ∀ {vs : List V} {ds : List W} (n : Nat), RvL m H vs ds → RvL m H (vs.drop n) (ds.drop n)
  | _, _, 0, r => r
  | _, _, _ + 1, .nil => .nil
  | _, _, n + 1, .cons _ r => RvL.drop n r
theorem RvL.set : ∀ {vs : List V} {ds : List W} {v : V} {d : W} (n : Nat), RvL m H vs ds → Rv m H v d → RvL m H (vs.set n v) (ds.set n d)
  | _, _, _, _, 0, .nil, _ => .nil
  | _, _, _, _, 0, .cons _ r, h => .cons h r
  | _, _, _, _, _ + 1, .nil, _ => .nil
  | _, _, _, _, n + 1, .cons g r, h => .cons g (RvL.set n r h)
theorem RvL.erase : ∀ {vs : List V} {ds : List W} (n : Nat), RvL m H vs ds → RvL m H (vs.eraseIdx n) (ds.eraseIdx n)
  | _, _, _, .nil => by simp; exact .nil
  | _, _, 0, .cons _ r => r
  | _, _, n + 1, .cons h r => .cons h (RvL.erase n r)
theorem RvL.ints : ∀ {vs : List V} {ds : List W} {ns : List Int}, RvL m H vs ds → intsW ds = some ns → vs = ns.map V.int
  | _, _, _, .nil, e => by simp [intsW] at e; subst e; rfl
  | _, _, _, .cons (.int i) r, e => by
    simp only [intsW, Option.map_eq_some_iff] at e
    obtain ⟨ns, e1, rfl⟩ := e
    simp [RvL.ints r e1]
  | _, _, _, .cons .non _, e => by simp [intsW] at e
  | _, _, _, .cons (.bl _) _, e => by simp [intsW] at e
  | _, _, _, .cons (.str _) _, e => by simp [intsW] at e
  | _, _, _, .cons (.ref _) _, e => by simp [intsW] at e
  | _, _, _, .cons (.tup _ _ _) _, e => by simp [intsW] at e
theorem RvL.bls : ∀ {vs : List V} {ds : List W} {ns : List Bool}, RvL m H vs ds → blsW ds = some ns → vs = ns.map V.bl
  | _, _, _, .nil, e => by simp [blsW] at e; subst e; rfl
  | _, _, _, .cons (.bl i) r, e => by
    simp only [blsW, Option.map_eq_some_iff] at e
    obtain ⟨ns, e1, rfl⟩ := e
    simp [RvL.bls r e1]
  | _, _, _, .cons .non _, e => by simp [blsW] at e
  | _, _, _, .cons (.int _) _, e => by simp [blsW] at e
  | _, _, _, .cons (.str _) _, e => by simp [blsW] at e
  | _, _, _, .cons (.ref _) _, e => by simp [blsW] at e
  | _, _, _, .cons (.tup _ _ _) _, e => by simp [blsW] at e
theorem rvL_ints : ∀ {ns : List Int}, RvL m H (ns.map V.int) (ns.map W.int)
  | [] => .nil
  | i :: r => .cons (.int i) rvL_ints
mutual
theorem Rv.dp {K : PySem.W.Frag} (h : HR m A H) : ∀ {w : W} {d : D}, Den A w d → ∀ {v : V}, Rv m H v w → Dp K H v d
  | _, _, .non, _, .non => .non
  | _, _, .bl b, _, .bl _ => .bl b
  | _, _, .int i, _, .int _ => .int i
  | _, _, .str x, _, .str _ => .str x
  | _, _, .lst q r, _, .ref e => by
    obtain ⟨vs, h1, _, h3⟩ := h.cell _ _ _ e q
    exact .lst (SqL.of h1) (RvL.dp h r h3)
  | _, _, .tup r, _, .tup h1 _ h3 => .tup (SqT.of h1) (RvL.dp h r h3)
theorem RvL.dp {K : PySem.W.Frag} (h : HR m A H) : ∀ {ws : List W} {ds : List D}, DenL A ws ds → ∀ {vs : List V}, RvL m H vs ws → DpAll K H vs ds
  | _, _, .nil, _, .nil => .nil
  | _, _, .cons q r, _, .cons e f => .cons (Rv.dp h q e) (RvL.dp h r f)
end
theorem Rv.theInt {v : V} {i : Int} (h : Rv m H v (.int i)) : v = .int i := by cases h; rfl
theorem Rv.theBl {v : V} {i : Bool} (h : Rv m H v (.bl i)) : v = .bl i := by cases h; rfl
theorem Rv.theNon {v : V} (h : Rv m H v .non) : v = .non := by cases h; rfl
theorem Rv.theStr {v : V} {x : Str} (h : Rv m H v (.str x)) : v = .str x := by cases h; rfl
end
mutual
theorem Den.one {A : AH} : ∀ {w : W} {d : D}, Den A w d → ∀ {d'}, Den A w d' → d = d'
  | _, _, .non, _, .non => rfl
  | _, _, .bl b, _, .bl _ => rfl
  | _, _, .int i, _, .int _ => rfl
  | _, _, .str x, _, .str _ => rfl
  | _, _, .lst q r, _, .lst q' r' => by rw [q] at q'; cases q'; rw [DenL.one r r']
  | _, _, .tup r, _, .tup r' => by rw [DenL.one r r']
theorem DenL.one {A : AH} : ∀ {ws : List W} {ds : List D}, DenL A ws ds → ∀ {ds'}, DenL A ws ds' → ds = ds'
  | _, _, .nil, _, .nil => rfl
  | _, _, .cons q r, _, .cons q' r' => by rw [Den.one q q', DenL.one r r']
end
theorem den_eq {A : AH} {w : W} {d : D} (h : Den A w d) : den A w = some d := by
  unfold den
  have hx : ∃ d, Den A w d := ⟨d, h⟩
  rw [dif_pos hx, hx.choose_spec.one h]
theorem denL_eq {A : AH} {w : List W} {d : List D} (h : DenL A w d) : denL A w = some d := by
  unfold denL
  have hx : ∃ d, DenL A w d := ⟨d, h⟩
  rw [dif_pos hx, hx.choose_spec.one h]
theorem den_some {A : AH} {w : W} {d : D} (h : den A w = some d) : Den A w d := by
  unfold den at h
  split at h
  · rename_i hx
    cases h
    exact hx.choose_spec
  · cases h
theorem denL_some {A : AH} {w : List W} {d : List D} (h : denL A w = some d) : DenL A w d := by
  unfold denL at h
  split at h
  · rename_i hx
    cases h
    exact hx.choose_spec
  · cases h
def Kn (m : List Addr) (H : Hp) (A' : AH) (w : W) (Q : VK) : Prop := ∀ v m' H', Ex m H m' H' → HR m' A' H' → Rv m' H' v w → Q v H'
section
variable {m m' m1 m2 : List Addr} {H H' H1 H2 : Hp} {A A' A1 : AH} {w : W} {Q : VK}
theorem Kn.flat (k : Kn m H A w Q) (h : HR m A H) {v : V} (r : Rv m H v w) : Q v H := k v m H h.refl h r
theorem Kn.on (k : Kn m H A' w Q) (e : Ex m H m1 H1) : Kn m1 H1 A' w Q := fun v m' H' e1 h r => k v m' H' (e.trans e1) h r
theorem limOk {n : Nat} (h : n ≤ lim) : n ≤ sizeLine := Nat.le_trans h (by decide)
theorem limLt {n : Nat} (h : n ≤ lim) : n < sizeLine := Nat.lt_of_le_of_lt h (by decide)
theorem new_cell {p : Addr} {vs : List V} {ws : List W} (h : HR m A H) (np : H p = none) (l : vs.length ≤ lim) (r : RvL m H vs ws) : Ex m H (m ++ [p]) (upd H p (.lst vs)) ∧ HR (m ++ [p]) (A ++ [ws]) (upd H p (.lst vs)) := by
  have hp : ∀ a o, H a = some o → upd H p (.lst vs) a = some o := fun a o e => by rw [upd_ne (fun z => by rw [z, np] at e; cases e)]; exact e
  have at_ : ∀ (n : Nat) (a : Addr), (m ++ [p])[n]? = some a → (n < m.length ∧ m[n]? = some a) ∨ (n = m.length ∧ a = p) := fun n a e => by
    by_cases hn : n < m.length
    · rw [List.getElem?_append_left hn] at e
      exact .inl ⟨hn, e⟩
    · rw [List.getElem?_append_right (by omega)] at e
      cases hk : n - m.length with
      | zero => rw [hk] at e; simp at e; exact .inr ⟨by omega, e.symm⟩
      | succ k => rw [hk] at e; simp at e
  have ex : Ex m H (m ++ [p]) (upd H p (.lst vs)) := by
    refine ⟨fun n a e => by rw [List.getElem?_append_left (List.getElem?_eq_some_iff.mp e).1]; exact e, fun n a e l => ?_, fun a o _ e => hp a o e, fun n a e => ?_⟩
    · rcases at_ n a e with ⟨q, _⟩ | ⟨_, rfl⟩
      · omega
      · exact np
    · rcases at_ n a e with ⟨_, q⟩ | ⟨_, rfl⟩
      · intro z
        by_cases hz : a = p
        · subst hz; exact h.no np n q
        · rw [upd_ne hz] at z
          exact h.al n a q z
      · rw [upd_same]; exact fun z => nomatch z
  refine ⟨ex, by rw [List.length_append, List.length_append, h.len]; rfl, fun i j a e f => ?_, fun n a us e f => ?_⟩
  · rcases at_ i a e with ⟨q, e1⟩ | ⟨q, e1⟩ <;> rcases at_ j a f with ⟨q', f1⟩ | ⟨q', f1⟩
    · exact h.nd i j a e1 f1
    · subst f1; exact (h.no np i e1).elim
    · subst e1; exact (h.no np j f1).elim
    · omega
  · rcases at_ n a e with ⟨q, e1⟩ | ⟨q, e1⟩
    · rw [List.getElem?_append_left (by rw [← h.len]; exact q)] at f
      obtain ⟨us', g1, g2, g3⟩ := h.cell n a us e1 f
      exact ⟨us', hp _ _ g1, g2, g3.ex h ex⟩
    · subst q e1
      rw [h.len, List.getElem?_append_right (Nat.le_refl _)] at f
      simp at f
      subst f
      exact ⟨vs, upd_same, l, r.ex h ex⟩
theorem Kn.new {vs : List V} {ws : List W} (h : HR m A H) (e : newL ws A = some (w, A')) (k : Kn m H A' w Q) (r : RvL m H vs ws) : vs.length ≤ lim ∧ ∀ p, H p = none → Q (.ref p) (upd H p (.lst vs)) := by
  unfold newL at e
  split at e
  · rename_i l
    cases e
    rw [← r.len] at l
    refine ⟨l, fun p np => ?_⟩
    obtain ⟨e1, h1⟩ := new_cell h np l r
    exact k _ _ _ e1 h1 (.ref (by rw [← h.len]; simp))
  · cases e
theorem Ex.other {p : Addr} {o : HO} (h : HR m A H) (np : H p = none) : Ex m H m (upd H p o) ∧ HR m A (upd H p o) := by
  have hp : ∀ a u, H a = some u → upd H p o a = some u := fun a u e => by rw [upd_ne (fun z => by rw [z, np] at e; cases e)]; exact e
  have ex : Ex m H m (upd H p o) := by
    refine ⟨fun _ _ e => e, fun n a e l => by have := (List.getElem?_eq_some_iff.mp e).1; omega, fun a u _ e => hp a u e, fun n a e z => ?_⟩
    by_cases hz : a = p
    · subst hz; exact h.no np n e
    · rw [upd_ne hz] at z
      exact h.al n a e z
  refine ⟨ex, h.len, h.nd, fun n a us e f => ?_⟩
  obtain ⟨us', g1, g2, g3⟩ := h.cell n a us e f
  exact ⟨us', hp _ _ g1, g2, g3.ex h ex⟩
theorem Kn.tup {vs : List V} {ws : List W} (h : HR m A H) (k : Kn m H A (.tup ws) Q) (l : vs.length ≤ lim) (r : RvL m H vs ws) (p : Addr) (np : H p = none) : Q (.ref p) (upd H p (.tup vs)) := by
  obtain ⟨e1, h1⟩ := Ex.other (o := .tup vs) h np
  exact k _ _ _ e1 h1 (.tup upd_same l (r.ex h e1))
theorem put_cell {n : Nat} {a : Addr} {vs : List V} {ws : List W} (h : HR m A H) (e : m[n]? = some a) (l : vs.length ≤ lim) (r : RvL m H vs ws) : Ex m H m (upd H a (.lst vs)) ∧ HR m (A.set n ws) (upd H a (.lst vs)) := by
  have ex : Ex m H m (upd H a (.lst vs)) := by
    refine ⟨fun _ _ e => e, fun n a e l => by have := (List.getElem?_eq_some_iff.mp e).1; omega, fun b u nb q => ?_, fun k b q z => ?_⟩
    · rw [upd_ne (fun z => nb n (by rw [z]; exact e))]
      exact q
    · by_cases hz : b = a
      · subst hz; rw [upd_same] at z; cases z
      · rw [upd_ne hz] at z
        exact h.al k b q z
  refine ⟨ex, by rw [List.length_set]; exact h.len, h.nd, fun k b us q f => ?_⟩
  by_cases hk : k = n
  · subst hk
    rw [e] at q
    cases q
    have hl : k < A.length := by rw [← h.len]; exact (List.getElem?_eq_some_iff.mp e).1
    rw [List.getElem?_set_self hl] at f
    cases f
    exact ⟨vs, upd_same, l, r.ex h ex⟩
  · rw [List.getElem?_set_ne (Ne.symm hk)] at f
    obtain ⟨us', g1, g2, g3⟩ := h.cell k b us q f
    exact ⟨us', by rw [upd_ne (fun z => hk (h.nd k n a (by rw [← z]; exact q) e))]; exact g1, g2, g3.ex h ex⟩
end

structure RE (m : List Addr) (A : AH) (ρ : HEnv) (σ : L2.St) (H : Hp) : Prop where
  hr : HR m A H
  len : σ.length = ρ.length
  get : ∀ (i : Nat) (w : W), ρ[i]? = some (some w) → ∃ v, σ[i]? = some (some v) ∧ Rv m H v w
theorem RE.ex {m m' : List Addr} {A A' : AH} {ρ : HEnv} {σ : L2.St} {H H' : Hp} (re : RE m A ρ σ H) (e : Ex m H m' H') (h : HR m' A' H') : RE m' A' ρ σ H' :=
  ⟨h, re.len, fun i w q => let ⟨v, a, b⟩ := re.get i w q; ⟨v, a, b.ex re.hr e⟩⟩

def tV (Φ : Fns) (e : XE) : TE := fun σ H Q => ∃ m A ρ w A', RE m A ρ σ H ∧ evH Φ e ρ A = some (w, A') ∧ Kn m H A' w Q
def tVT (Φ : Fns) (e : XE) : TT := fun σ H Q => ∃ m A ρ b A', RE m A ρ σ H ∧ evH Φ e ρ A = some (.bl b, A') ∧ ∀ m' H', Ex m H m' H' → HR m' A' H' → Q b H'
def tVA (Φ : Fns) (as : XEs) : TA := fun σ H Q => ∃ m A ρ ws A', RE m A ρ σ H ∧ evsH Φ as ρ A = some (ws, A') ∧ ∀ vs m' H', Ex m H m' H' → HR m' A' H' → RvL m' H' vs ws → Q vs H'
theorem _root_.L2.PE.imp {X : Cx} {e : Expr} {t t' : TE} (h : PE X e t) (k : ∀ σ H Q, t' σ H Q → t σ H Q) : PE X e t' := ⟨fun pins s σ H Q I q => h.run pins s σ H Q I (k σ H Q q)⟩
theorem _root_.L2.PT.imp {X : Cx} {e : Expr} {t t' : TT} (h : PT X e t) (k : ∀ σ H Q, t' σ H Q → t σ H Q) : PT X e t' := ⟨fun pins s σ H Q I q => h.run pins s σ H Q I (k σ H Q q)⟩
theorem _root_.L2.PA.imp {X : Cx} {e : List Expr} {t t' : TA} (h : PA X e t) (k : ∀ σ H Q, t' σ H Q → t σ H Q) : PA X e t' := ⟨fun pos pins s σ H Q I q => h.run pos pins s σ H Q I (k σ H Q q)⟩
theorem _root_.L2.PE.no {X : Cx} {e : Expr} {t' : TE} (k : ∀ σ H Q, t' σ H Q → False) : PE X e t' := ⟨fun pins s σ H Q I q => (k σ H Q q).elim⟩
section
variable {X : Cx} {Φ : Fns} {a b c : Expr} {a' b' c' : XE} {pos : Pos}
theorem s_var {i : Nat} {x : Str} (hN : X.N[i]? = some x) (hv : Vis X.env.scope x) (hd : (x == ("__debug__" : Str)) = false) (hcd : (x == ("__classdict__" : Str)) = false) : PE X (.Name x pos) (tV Φ (.var i)) := by
  refine (pe_var hN hv hd hcd).imp fun σ H Q ⟨m, A, ρ, w, A', re, e, k⟩ => ?_
  rw [evH] at e
  split at e
  · rename_i w' h
    cases e
    obtain ⟨v, e1, r1⟩ := re.get _ _ h
    exact ⟨v, e1, k.flat re.hr r1⟩
  · cases e
theorem s_cst {v : V} {d : D} {e : Expr} {w : W} (h : PE X e (tC v)) (hd : cstW d = some w) (r : ∀ m H, Rv m H v w) : PE X e (tV Φ (.cst d)) := by
  refine h.imp fun σ H Q ⟨m, A, ρ, w', A', re, e, k⟩ => ?_
  rw [evH, hd] at e
  cases e
  exact k.flat re.hr (r _ _)
theorem two {r : R2} {op2 : W → W → AH → Option (W × AH)} {e' : XE} (he : ∀ ρ A, evH Φ e' ρ A = match evH Φ a' ρ A with
    | some (x, A1) => match evH Φ b' ρ A1 with
      | some (y, A2) => op2 x y A2
      | none => none
    | none => none)
    (hr : ∀ (m : List Addr) (A A' : AH) (H : Hp) (v w : V) (x y z : W) (Q : VK), HR m A H → Rv m H v x → Rv m H w y → op2 x y A = some (z, A') → Kn m H A' z Q → r v w H Q) :
    ∀ σ H Q, tV Φ e' σ H Q → tOp r (tV Φ a') (tV Φ b') σ H Q := by
  intro σ H Q ⟨m, A, ρ, w, A', re, e, k⟩
  rw [he] at e
  split at e
  · rename_i x A1 h1
    split at e
    · rename_i y A2 h2
      refine ⟨m, A, ρ, x, A1, re, h1, fun v m1 H1 e1 g1 r1 => ⟨m1, A1, ρ, y, A2, re.ex e1 g1, h2, fun w m2 H2 e2 g2 r2 => ?_⟩⟩
      exact hr _ _ _ _ _ _ _ _ _ _ g2 (r1.ex g1 e2) r2 e (k.on (e1.trans e2))
    · cases e
  · cases e
theorem mulOk_of {i j : Int} (h : mulOk i j = true) : IntMulOk i j := by
  have b : ∀ x : Int, Builtin.Int.intBits x ≤ x.natAbs.log2 + 1 := fun x => by
    unfold Builtin.Int.intBits
    split <;> omega
  have h1 := b i
  have h2 := b j
  have h3 : i.natAbs.log2 + j.natAbs.log2 < 100000000 := of_decide_eq_true h
  have e : bitsLine = 134217728 := by decide
  unfold IntMulOk
  intro z
  rw [Bool.and_eq_true] at z
  have z2 := z.2
  unfold Builtin.Int.intTooBig at z2
  have z3 := of_decide_eq_true z2
  rw [e] at z3
  omega
theorem op_mulG : OpR X (binaryOp .Mult) (rI (fun i j => mulOk i j = true) fun i j => .int (i * j)) := opI fun _ _ _ _ _ _ _ hc q => mul_int q (mulOk_of hc)
theorem binW_int {op : Operator} {x y z : W} {A A' : AH} (h : binW op x y A = some (z, A')) (n : op ≠ .Add) : ∃ i j k, x = .int i ∧ y = .int j ∧ z = .int k ∧ A' = A ∧ binI op i j = some k := by
  unfold binW at h
  split at h
  · rw [Option.map_eq_some_iff] at h
    obtain ⟨k, h1, h2⟩ := h
    cases h2
    exact ⟨_, _, _, rfl, rfl, rfl, rfl, h1⟩
  · split at h
    · exact (n rfl).elim
    · cases h
  · split at h
    · exact (n rfl).elim
    · cases h
  · cases h
theorem s_bin {op : Operator} (hd : DivOk X) (ha : PE X a (tV Φ a')) (hb : PE X b (tV Φ b')) : PE X (.BinOp a op b pos) (tV Φ (.bin op a' b')) := by
  have he : ∀ ρ A, evH Φ (.bin op a' b') ρ A = match evH Φ a' ρ A with
      | some (x, A1) => match evH Φ b' ρ A1 with
        | some (y, A2) => binW op x y A2
        | none => none
      | none => none := fun ρ A => by rw [evH]; try rfl
  cases op with
  | Add =>
    refine (pe_op ((op_add.or op_cat).or op_add_str) ha hb).imp (two he fun m A A' H v w x y z Q g r1 r2 e k => ?_)
    unfold binW at e
    split at e
    · simp only [binI, Option.map_some, Option.some.injEq, Prod.mk.injEq] at e
      obtain ⟨rfl, rfl⟩ := e
      exact .inl (.inl ⟨_, _, r1.theInt, r2.theInt, k.flat g (.int _)⟩)
    · dsimp only at e
      split at e
      · rename_i xs ys h1 h2
        cases r1 with
        | ref e1 =>
        cases r2 with
        | ref e2 =>
        obtain ⟨vs, q1, q2, q3⟩ := g.cell _ _ _ e1 h1
        obtain ⟨us, p1, p2, p3⟩ := g.cell _ _ _ e2 h2
        obtain ⟨l, kk⟩ := k.new g e (q3.app p3)
        rw [List.length_append] at l
        exact .inl (.inr ⟨_, _, vs, us, rfl, rfl, q1, p1, limOk l, kk⟩)
      · cases e
    · dsimp only at e
      split at e
      · rename_i hl
        cases e
        exact .inr ⟨_, _, r1.theStr, r2.theStr, limOk hl, k.flat g (.str _)⟩
      · cases e
    · cases e
  | Sub =>
    refine (pe_op op_sub ha hb).imp (two he fun m A A' H v w x y z Q g r1 r2 e k => ?_)
    obtain ⟨i, j, n, rfl, rfl, rfl, rfl, e0⟩ := binW_int e (by decide)
    cases e0
    exact ⟨_, _, r1.theInt, r2.theInt, k.flat g (.int _)⟩
  | Mult =>
    refine (pe_op op_mulG ha hb).imp (two he fun m A A' H v w x y z Q g r1 r2 e k => ?_)
    obtain ⟨i, j, n, rfl, rfl, rfl, rfl, e0⟩ := binW_int e (by decide)
    simp only [binI] at e0
    split at e0 <;> cases e0
    exact ⟨_, _, r1.theInt, r2.theInt, ‹_›, k.flat g (.int _)⟩
  | FloorDiv =>
    refine (pe_op (op_fdivS hd) ha hb).imp (two he fun m A A' H v w x y z Q g r1 r2 e k => ?_)
    obtain ⟨i, j, n, rfl, rfl, rfl, rfl, e0⟩ := binW_int e (by decide)
    simp only [binI] at e0
    split at e0 <;> cases e0
    rename_i hz
    exact ⟨_, _, r1.theInt, r2.theInt, of_decide_eq_true hz, k.flat g (.int _)⟩
  | Mod =>
    refine (pe_op op_modN ha hb).imp (two he fun m A A' H v w x y z Q g r1 r2 e k => ?_)
    obtain ⟨i, j, n, rfl, rfl, rfl, rfl, e0⟩ := binW_int e (by decide)
    simp only [binI] at e0
    split at e0 <;> cases e0
    exact ⟨_, _, r1.theInt, r2.theInt, ‹_›, k.flat g (.int _)⟩
  | Pow =>
    refine (pe_op op_pow ha hb).imp (two he fun m A A' H v w x y z Q g r1 r2 e k => ?_)
    obtain ⟨i, j, n, rfl, rfl, rfl, rfl, e0⟩ := binW_int e (by decide)
    simp only [binI] at e0
    split at e0 <;> cases e0
    rename_i hl
    exact ⟨_, _, r1.theInt, r2.theInt, ⟨hl.1, by have := hl.2.1; omega, hl.2.2⟩, k.flat g (.int _)⟩
  | RShift =>
    refine (pe_op op_shr ha hb).imp (two he fun m A A' H v w x y z Q g r1 r2 e k => ?_)
    obtain ⟨i, j, n, rfl, rfl, rfl, rfl, e0⟩ := binW_int e (by decide)
    simp only [binI] at e0
    split at e0 <;> cases e0
    exact ⟨_, _, r1.theInt, r2.theInt, ‹_›, k.flat g (.int _)⟩
  | _ =>
    refine .no fun σ H Q ⟨m, A, ρ, w, A', re, e, k⟩ => ?_
    rw [he] at e
    split at e
    · split at e
      · obtain ⟨i, j, n, rfl, rfl, rfl, rfl, e0⟩ := binW_int e (by decide)
        simp [binI] at e0
      · cases e
    · cases e
end
end VI
set_option Elab.async false
set_option linter.all false
set_option maxRecDepth 100000
set_option maxHeartbeats 1000000
namespace VI
open PySem PySem.Spec PyProof.Rows L2

theorem star_plain {e : Expr} (h : plainE e = true) (es : List Expr) (env : PySem.Env) : starEach (e :: es) env = (false, eval e env) :: starEach es env := by
  cases e <;> first | rfl | cases h
theorem star_any {pos : Pos} {env : PySem.Env} : ∀ {es : List Expr}, (∀ e ∈ es, plainE e = true) → (backTo pos (starEach es env)).any (·.1) = false
  | [], _ => rfl
  | e :: es, h => by
    rw [star_plain (h e List.mem_cons_self)]
    have ih := star_any (pos := pos) (env := env) fun e' he => h e' (List.mem_cons_of_mem _ he)
    show (false || (backTo pos (starEach es env)).any (·.1)) = false
    rw [ih]
    rfl
theorem marks_plain {e : Expr} (h : plainE e = true) (op : CmpOp) : behindInMarks op e = false := by
  cases e <;> first | rfl | cases h
theorem folded_plain {e : Expr} (h : plainE e = true) (env : PySem.Env) : ∀ x, foldedSetIterable e env x = pure x := by
  intro x
  cases e <;> first | rfl | cases h
theorem ix_plain {e : Expr} (h : plainE e = true) : PlainIx e := by
  cases e <;> first | (intro _ _; rfl) | cases h
def isTestE : Expr → Bool
  | .BoolOp .. => true
  | .UnaryOp .Not _ _ => true
  | .Compare .. => true
  | _ => false
theorem true_plain {e : Expr} (h : plainE e = true) (n : isTestE e = false) (env : PySem.Env) : ∀ whole, isTrue e env whole = (do let v ← whole; standAt e.pos; holding [v] (truthy v)) := by
  intro whole
  cases e with
  | UnaryOp op a p => cases op <;> first | rfl | cases n
  | BoolOp => cases n
  | Compare => cases n
  | _ => first | rfl | cases h

section
variable {X : Cx} {Φ : Fns} {a b c : Expr} {a' b' c' : XE} {pos : Pos}
theorem s_neg (ha : PE X a (tV Φ a')) : PE X (.UnaryOp .USub a pos) (tV Φ (.neg a')) := by
  refine (pe_un un_neg ha).imp fun σ H Q ⟨m, A, ρ, w, A', re, e, k⟩ => ?_
  rw [evH] at e
  split at e
  · rename_i i A1 h
    cases e
    exact ⟨m, A, ρ, _, _, re, h, fun v m1 H1 e1 g1 r1 => ⟨_, r1.theInt, (k.on e1).flat g1 (.int _)⟩⟩
  · cases e
theorem s_not (ha : PE X a (tV Φ a')) : PE X (.UnaryOp .Not a pos) (tV Φ (.not a')) := by
  refine (pe_not ha).imp fun σ H Q ⟨m, A, ρ, w, A', re, e, k⟩ => ?_
  rw [evH] at e
  split at e
  · rename_i i A1 h
    cases e
    exact ⟨m, A, ρ, _, _, re, h, fun v m1 H1 e1 g1 r1 => ⟨_, r1.theBl, (k.on e1).flat g1 (.bl _)⟩⟩
  · cases e
theorem t_of (ha : PE X a (tV Φ a')) (h : plainE a = true) (n : isTestE a = false) : PT X a (tVT Φ a') := by
  refine (pt_val ha (true_plain h n X.env)).imp fun σ H Q ⟨m, A, ρ, b, A', re, e, k⟩ => ?_
  exact ⟨m, A, ρ, _, _, re, e, fun v m1 H1 e1 g1 r1 => ⟨_, r1.theBl, k _ _ e1 g1⟩⟩
theorem s_notT (ha : PT X a (tVT Φ a')) : PT X (.UnaryOp .Not a pos) (tVT Φ (.not a')) := by
  refine (pt_not ha).imp fun σ H Q ⟨m, A, ρ, b, A', re, e, k⟩ => ?_
  rw [evH] at e
  split at e
  · rename_i i A1 h
    cases e
    exact ⟨m, A, ρ, _, _, re, h, k⟩
  · cases e
theorem ev_and {ρ : HEnv} {A A' : AH} {d : W} (e : evH Φ (.and a' b') ρ A = some (d, A')) : (∃ A1 t, evH Φ a' ρ A = some (.bl true, A1) ∧ evH Φ b' ρ A1 = some (.bl t, A') ∧ d = .bl t) ∨ (evH Φ a' ρ A = some (.bl false, A') ∧ d = .bl false) := by
  rw [evH] at e
  split at e
  · rename_i A1 h1
    split at e
    · rename_i t A2 h2
      cases e
      exact .inl ⟨A1, t, h1, h2, rfl⟩
    · cases e
  · rename_i A1 h1
    cases e
    exact .inr ⟨h1, rfl⟩
  · cases e
theorem ev_or {ρ : HEnv} {A A' : AH} {d : W} (e : evH Φ (.or a' b') ρ A = some (d, A')) : (∃ A1 t, evH Φ a' ρ A = some (.bl false, A1) ∧ evH Φ b' ρ A1 = some (.bl t, A') ∧ d = .bl t) ∨ (evH Φ a' ρ A = some (.bl true, A') ∧ d = .bl true) := by
  rw [evH] at e
  split at e
  · rename_i A1 h1
    split at e
    · rename_i t A2 h2
      cases e
      exact .inl ⟨A1, t, h1, h2, rfl⟩
    · cases e
  · rename_i A1 h1
    cases e
    exact .inr ⟨h1, rfl⟩
  · cases e
theorem s_and {rest : List Expr} (ha : PE X a (tV Φ a')) (hb : PE X (.BoolOp .And (b :: rest) pos) (tV Φ b')) : PE X (.BoolOp .And (a :: b :: rest) pos) (tV Φ (.and a' b')) := by
  refine (pe_and ha hb).imp fun σ H Q ⟨m, A, ρ, w, A', re, e, k⟩ => ?_
  rcases ev_and e with ⟨A1, t, h1, h2, rfl⟩ | ⟨h1, rfl⟩
  · refine ⟨m, A, ρ, _, _, re, h1, fun v m1 H1 e1 g1 r1 => ⟨true, r1.theBl, ?_⟩⟩
    rw [if_pos rfl]
    exact ⟨m1, A1, ρ, _, _, re.ex e1 g1, h2, k.on e1⟩
  · refine ⟨m, A, ρ, _, _, re, h1, fun v m1 H1 e1 g1 r1 => ⟨false, r1.theBl, ?_⟩⟩
    rw [if_neg Bool.false_ne_true]
    exact (k.on e1).flat g1 (.bl _)
theorem s_or {rest : List Expr} (ha : PE X a (tV Φ a')) (hb : PE X (.BoolOp .Or (b :: rest) pos) (tV Φ b')) : PE X (.BoolOp .Or (a :: b :: rest) pos) (tV Φ (.or a' b')) := by
  refine (pe_or ha hb).imp fun σ H Q ⟨m, A, ρ, w, A', re, e, k⟩ => ?_
  rcases ev_or e with ⟨A1, t, h1, h2, rfl⟩ | ⟨h1, rfl⟩
  · refine ⟨m, A, ρ, _, _, re, h1, fun v m1 H1 e1 g1 r1 => ⟨false, r1.theBl, ?_⟩⟩
    rw [if_neg Bool.false_ne_true]
    exact ⟨m1, A1, ρ, _, _, re.ex e1 g1, h2, k.on e1⟩
  · refine ⟨m, A, ρ, _, _, re, h1, fun v m1 H1 e1 g1 r1 => ⟨true, r1.theBl, ?_⟩⟩
    rw [if_pos rfl]
    exact (k.on e1).flat g1 (.bl _)
theorem s_andW {rest : List Expr} (ha : PT X a (tVT Φ a')) (hb : PW X (.BoolOp .And (b :: rest) pos) (tVT Φ b')) : PW X (.BoolOp .And (a :: b :: rest) pos) (tVT Φ (.and a' b')) := by
  refine ⟨fun wh pins s σ H Q I h => (pw_and ha hb).run wh pins s σ H Q I ?_⟩
  obtain ⟨m, A, ρ, d, A', re, e, k⟩ := h
  rcases ev_and e with ⟨A1, t, h1, h2, e3⟩ | ⟨h1, e3⟩
  · cases e3
    refine ⟨m, A, ρ, _, _, re, h1, fun m1 H1 e1 g1 => ?_⟩
    exact iteT (⟨m1, A1, ρ, _, _, re.ex e1 g1, h2, fun m' H' e2 g2 => k m' H' (e1.trans e2) g2⟩)
  · cases e3
    refine ⟨m, A, ρ, _, _, re, h1, fun m1 H1 e1 g1 => ?_⟩
    exact iteF (k m1 H1 e1 g1)
theorem s_orW {rest : List Expr} (ha : PT X a (tVT Φ a')) (hb : PW X (.BoolOp .Or (b :: rest) pos) (tVT Φ b')) : PW X (.BoolOp .Or (a :: b :: rest) pos) (tVT Φ (.or a' b')) := by
  refine ⟨fun wh pins s σ H Q I h => (pw_or ha hb).run wh pins s σ H Q I ?_⟩
  obtain ⟨m, A, ρ, d, A', re, e, k⟩ := h
  rcases ev_or e with ⟨A1, t, h1, h2, e3⟩ | ⟨h1, e3⟩
  · cases e3
    refine ⟨m, A, ρ, _, _, re, h1, fun m1 H1 e1 g1 => ?_⟩
    exact iteF (⟨m1, A1, ρ, _, _, re.ex e1 g1, h2, fun m' H' e2 g2 => k m' H' (e1.trans e2) g2⟩)
  · cases e3
    refine ⟨m, A, ρ, _, _, re, h1, fun m1 H1 e1 g1 => ?_⟩
    exact iteT (k m1 H1 e1 g1)

theorem any_ints (i : Int) (ns : List Int) : inV (V.int i) (ns.map V.int) = ns.any fun n => n == i := by
  unfold inV
  rw [List.any_map]
  rfl
theorem all_flat (ns : List Int) : (ns.map V.int).all flatV = true := by
  rw [List.all_map]
  exact List.all_eq_true.mpr fun _ _ => rfl
theorem eqW_some {x y : W} {A : AH} {t : Bool} (h : eqW x y A = some t) : ∃ d e, Den A x d ∧ Den A y e ∧ ((SeqAt.shaped d = true ∧ SeqAt.shaped e = true) ∨ (strD d = true ∧ strD e = true)) ∧ t = PyData.eqv d e := by
  unfold eqW at h
  split at h
  · rename_i d e h1 h2
    split at h
    · rename_i h3
      rw [Bool.or_eq_true, Bool.and_eq_true, Bool.and_eq_true] at h3
      cases h
      exact ⟨d, e, den_some h1, den_some h2, h3, rfl⟩
    · cases h
  · cases h
theorem sign_of {x : Str} {c : Nat} (h : signOf x = some c) : V.str x = .str ⟨#[c]⟩ := by
  unfold signOf at h
  split at h
  · rename_i c' e
    cases h
    obtain ⟨⟨l⟩⟩ := x
    simp only at e
    rw [e]
  · cases h
theorem strD_den {x : W} {A : AH} {d : D} {m : List Addr} {H : Hp} {v : V} (h : strD d = true) (q : Den A x d) (r : Rv m H v x) : ∃ a, v = .str a ∧ d = .str a := by
  cases d <;> try cases h
  cases q
  cases r
  exact ⟨_, rfl, rfl⟩
theorem eqv_strs {a b : Str} : decide (V.str a = V.str b) = PyData.eqv (.str a) (.str b) := by
  simp only [PyData.eqv]
  rw [Bool.eq_iff_iff]
  simp
theorem cmp_r (hu : X.A.units + 65 < cLine) (op : CmpOp) : ∃ r : R2, OpR X (compareOp op) r ∧ ∀ (m : List Addr) (A : AH) (H : Hp) (v w : V) (x y : W) (k : Bool) (Q : VK), HR m A H → Rv m H v x → Rv m H w y → cmpW op x y A = some k → Q (.bl k) H → r v w H Q := by
  cases op with
  | Eq =>
    refine ⟨_, (op_eqD (by omega)).or op_eq, fun m A H v w x y k Q g r1 r2 e q => ?_⟩
    obtain ⟨d, d', h1, h2, h3, rfl⟩ := eqW_some (show eqW x y A = some k from e)
    rcases h3 with ⟨h3, h4⟩ | ⟨h3, h4⟩
    · exact .inl ⟨d, d', r1.dp g h1, r2.dp g h2, h3, h4, q⟩
    · obtain ⟨a, rfl, rfl⟩ := strD_den h3 h1 r1
      obtain ⟨b, rfl, rfl⟩ := strD_den h4 h2 r2
      exact .inr ⟨rfl, by rw [eqv_strs]; exact q⟩
  | NotEq =>
    refine ⟨_, (op_neD (by omega)).or op_ne, fun m A H v w x y k Q g r1 r2 e q => ?_⟩
    obtain ⟨t, e1, rfl⟩ := Option.map_eq_some_iff.mp (show (eqW x y A).map (!·) = some k from e)
    obtain ⟨d, d', h1, h2, h3, rfl⟩ := eqW_some e1
    rcases h3 with ⟨h3, h4⟩ | ⟨h3, h4⟩
    · exact .inl ⟨d, d', r1.dp g h1, r2.dp g h2, h3, h4, q⟩
    · obtain ⟨a, rfl, rfl⟩ := strD_den h3 h1 r1
      obtain ⟨b, rfl, rfl⟩ := strD_den h4 h2 r2
      exact .inr ⟨rfl, by rw [eqv_strs]; exact q⟩
  | Lt =>
    refine ⟨_, op_lt, fun m A H v w x y k Q g r1 r2 e q => ?_⟩
    cases x <;> cases y <;> simp only [cmpW] at e <;> cases e
    exact ⟨_, _, r1.theInt, r2.theInt, q⟩
  | LtE =>
    refine ⟨_, op_le, fun m A H v w x y k Q g r1 r2 e q => ?_⟩
    cases x <;> cases y <;> simp only [cmpW] at e <;> cases e
    exact ⟨_, _, r1.theInt, r2.theInt, q⟩
  | Gt =>
    refine ⟨_, op_gt, fun m A H v w x y k Q g r1 r2 e q => ?_⟩
    cases x <;> cases y <;> simp only [cmpW] at e <;> cases e
    exact ⟨_, _, r1.theInt, r2.theInt, q⟩
  | GtE =>
    refine ⟨_, op_ge, fun m A H v w x y k Q g r1 r2 e q => ?_⟩
    cases x <;> cases y <;> simp only [cmpW] at e <;> cases e
    exact ⟨_, _, r1.theInt, r2.theInt, q⟩
  | In =>
    refine ⟨_, (op_in_seq.or op_in_sign).or (op_inD hu), fun m A H v w x y k Q g r1 r2 e q => ?_⟩
    unfold cmpW at e
    split at e <;> (first | contradiction | skip)
    · split at e
      · rename_i ws hw
        rw [Option.map_eq_some_iff] at e
        obtain ⟨ns, e1, rfl⟩ := e
        cases r2 with
        | ref e2 =>
        obtain ⟨vs, q1, q2, q3⟩ := g.cell _ _ _ e2 hw
        rw [q3.ints e1] at q1
        rw [r1.theInt]
        exact .inl (.inl ⟨_, _, rfl, .inl (SqL.of q1), rfl, all_flat ns, by rw [if_neg Bool.false_ne_true, any_ints]; exact q⟩)
      · cases e
    · rename_i x y _
      obtain ⟨c, e1, rfl⟩ := Option.map_eq_some_iff.mp e
      exact .inl (.inr ⟨c, y, by rw [r1.theStr, sign_of e1], r2.theStr, q⟩)
    · split at e
      · rename_i d ds h1 h2
        split at e
        · rename_i h3
          rw [Bool.and_eq_true] at h3
          cases e
          exact .inr ⟨d, ds, r1.dp g (den_some h1), r2.dp g (den_some h2), h3.1, h3.2, q⟩
        · cases e
      · cases e
  | NotIn =>
    refine ⟨_, op_notIn_seq.or op_notIn_sign, fun m A H v w x y k Q g r1 r2 e q => ?_⟩
    unfold cmpW at e
    split at e <;> (first | contradiction | skip)
    · split at e
      · rename_i ws hw
        rw [Option.map_eq_some_iff] at e
        obtain ⟨ns, e1, rfl⟩ := e
        cases r2 with
        | ref e2 =>
        obtain ⟨vs, q1, q2, q3⟩ := g.cell _ _ _ e2 hw
        rw [q3.ints e1] at q1
        rw [r1.theInt]
        exact .inl ⟨_, _, rfl, .inl (SqL.of q1), rfl, all_flat ns, by rw [if_pos rfl, any_ints]; exact q⟩
      · cases e
    · rename_i x y _
      obtain ⟨c, e1, rfl⟩ := Option.map_eq_some_iff.mp e
      exact .inr ⟨c, y, by rw [r1.theStr, sign_of e1], r2.theStr, q⟩
  | Is =>
    refine ⟨_, op_isN, fun m A H v w x y k Q g r1 r2 e q => ?_⟩
    cases y <;> simp only [cmpW] at e <;> cases e
    refine ⟨r2.theNon, ?_⟩
    cases r1 <;> exact q
  | IsNot =>
    refine ⟨_, op_notN, fun m A H v w x y k Q g r1 r2 e q => ?_⟩
    cases y <;> simp only [cmpW] at e <;> cases e
    refine ⟨r2.theNon, ?_⟩
    cases r1 <;> exact q
theorem ev_cmp {ρ : HEnv} {A A' : AH} {op : CmpOp} {d : W} (e : evH Φ (.cmp op a' b') ρ A = some (d, A')) : ∃ x y k A1, evH Φ a' ρ A = some (x, A1) ∧ evH Φ b' ρ A1 = some (y, A') ∧ cmpW op x y A' = some k ∧ d = .bl k := by
  rw [evH] at e
  split at e
  · rename_i x A1 h1
    split at e
    · rename_i y A2 h2
      rw [Option.map_eq_some_iff] at e
      obtain ⟨k, e1, e2⟩ := e
      cases e2
      exact ⟨x, y, k, A1, h1, h2, e1, rfl⟩
    · cases e
  · cases e
theorem s_cmp {op : CmpOp} (hu : X.A.units + 65 < cLine) (ha : PE X a (tV Φ a')) (hb : PE X b (tV Φ b')) (hp : plainE b = true) : PE X (.Compare a [op] [b] pos) (tV Φ (.cmp op a' b')) := by
  obtain ⟨r, ho, hr⟩ := cmp_r hu op
  refine (pe_cmpR ho ha hb (marks_plain hp op)).imp fun σ H Q ⟨m, A, ρ, w, A', re, e, k⟩ => ?_
  obtain ⟨x, y, t, A1, h1, h2, h3, rfl⟩ := ev_cmp e
  refine ⟨m, A, ρ, x, A1, re, h1, fun v m1 H1 e1 g1 r1 => ⟨m1, A1, ρ, y, A', re.ex e1 g1, h2, fun w m2 H2 e2 g2 r2 => ?_⟩⟩
  exact hr _ _ _ _ _ _ _ _ _ g2 (r1.ex g1 e2) r2 h3 ((k.on (e1.trans e2)).flat g2 (.bl _))
theorem s_cmpT {op : CmpOp} (hu : X.A.units + 65 < cLine) (ha : PE X a (tV Φ a')) (hb : PE X b (tV Φ b')) (hp : plainE b = true) : PT X (.Compare a [op] [b] pos) (tVT Φ (.cmp op a' b')) := by
  obtain ⟨r, ho, hr⟩ := cmp_r hu op
  refine (pt_cmpR ho ha hb (marks_plain hp op)).imp fun σ H Q ⟨m, A, ρ, w, A', re, e, k⟩ => ?_
  obtain ⟨x, y, t, A1, h1, h2, h3, e3⟩ := ev_cmp e
  cases e3
  refine ⟨m, A, ρ, x, A1, re, h1, fun v m1 H1 e1 g1 r1 => ⟨m1, A1, ρ, y, A', re.ex e1 g1, h2, fun w m2 H2 e2 g2 r2 => ?_⟩⟩
  exact hr _ _ _ _ _ _ _ _ (fun z H' => ∃ k, z = .bl k ∧ Q k H') g2 (r1.ex g1 e2) r2 h3 ⟨_, rfl, k m2 H2 (e1.trans e2) g2⟩
theorem ev_chn {ρ : HEnv} {A A' : AH} {op op' : CmpOp} {d : W} (e : evH Φ (.chn op op' a' b' c') ρ A = some (d, A')) : ∃ x y k A1 A2, evH Φ a' ρ A = some (x, A1) ∧ evH Φ b' ρ A1 = some (y, A2) ∧ cmpW op x y A2 = some k ∧
    ((k = true ∧ ∃ z k', evH Φ c' ρ A2 = some (z, A') ∧ cmpW op' y z A' = some k' ∧ d = .bl k') ∨ (k = false ∧ A' = A2 ∧ d = .bl false)) := by
  rw [evH] at e
  split at e
  · rename_i x A1 h1
    split at e
    · rename_i y A2 h2
      split at e
      · rename_i h3
        split at e
        · rename_i z A3 h4
          rw [Option.map_eq_some_iff] at e
          obtain ⟨k, e1, e2⟩ := e
          cases e2
          exact ⟨x, y, true, A1, A2, h1, h2, h3, .inl ⟨rfl, z, k, h4, e1, rfl⟩⟩
        · cases e
      · rename_i h3
        cases e
        exact ⟨x, y, false, A1, _, h1, h2, h3, .inr ⟨rfl, rfl, rfl⟩⟩
      · cases e
    · cases e
  · cases e
theorem chn_in {r r' : R2} {op op' : CmpOp} (hr : ∀ (m : List Addr) (A : AH) (H : Hp) (v w : V) (x y : W) (k : Bool) (Q : VK), HR m A H → Rv m H v x → Rv m H w y → cmpW op x y A = some k → Q (.bl k) H → r v w H Q)
    (hr' : ∀ (m : List Addr) (A : AH) (H : Hp) (v w : V) (x y : W) (k : Bool) (Q : VK), HR m A H → Rv m H v x → Rv m H w y → cmpW op' x y A = some k → Q (.bl k) H → r' v w H Q) :
    ∀ σ H Q, (∃ m A ρ k A', RE m A ρ σ H ∧ evH Φ (.chn op op' a' b' c') ρ A = some (.bl k, A') ∧ ∀ m' H', Ex m H m' H' → HR m' A' H' → Q (.bl k) H') → tChain r r' (tV Φ a') (tV Φ b') (tV Φ c') σ H Q := by
  intro σ H Q ⟨m, A, ρ, d, A', re, e, k⟩
  obtain ⟨x, y, t, A1, A2, h1, h2, h3, h4⟩ := ev_chn e
  refine ⟨m, A, ρ, x, A1, re, h1, fun v m1 H1 e1 g1 r1 => ⟨m1, A1, ρ, y, A2, re.ex e1 g1, h2, fun w m2 H2 e2 g2 r2 => ?_⟩⟩
  refine hr _ _ _ _ _ _ _ _ (fun z H3 => ∃ k, z = .bl k ∧ (if k = true then tV Φ c' σ H3 fun w' H4 => r' w w' H4 Q else Q (.bl false) H3)) g2 (r1.ex g1 e2) r2 h3 ⟨t, rfl, ?_⟩
  rcases h4 with ⟨rfl, z, k', h5, h6, e7⟩ | ⟨rfl, rfl, e7⟩
  · cases e7
    rw [if_pos rfl]
    refine ⟨m2, A2, ρ, z, A', (re.ex e1 g1).ex e2 g2, h5, fun u m3 H3 e3 g3 r3 => ?_⟩
    exact hr' _ _ _ _ _ _ _ _ _ g3 (r2.ex g2 e3) r3 h6 (k m3 H3 ((e1.trans e2).trans e3) g3)
  · cases e7
    rw [if_neg Bool.false_ne_true]
    exact k m2 H2 (e1.trans e2) g2
theorem s_chn {op op' : CmpOp} (hu : X.A.units + 65 < cLine) (ha : PE X a (tV Φ a')) (hb : PE X b (tV Φ b')) (hc : PE X c (tV Φ c')) (hp : plainE c = true) : PE X (.Compare a [op, op'] [b, c] pos) (tV Φ (.chn op op' a' b' c')) := by
  obtain ⟨r, ho, hr⟩ := cmp_r hu op
  obtain ⟨r', ho', hr'⟩ := cmp_r hu op'
  refine (pe_chain ho ho' ha hb hc (marks_plain hp op')).imp fun σ H Q ⟨m, A, ρ, d, A', re, e, k⟩ => ?_
  have hd : ∃ k, d = .bl k := by
    obtain ⟨x, y, t, A1, A2, h1, h2, h3, h4⟩ := ev_chn e
    rcases h4 with ⟨_, _, k', _, _, rfl⟩ | ⟨_, _, rfl⟩
    · exact ⟨_, rfl⟩
    · exact ⟨_, rfl⟩
  obtain ⟨kk, rfl⟩ := hd
  exact chn_in hr hr' σ H Q ⟨m, A, ρ, kk, A', re, e, fun m' H' e1 g1 => k _ m' H' e1 g1 (.bl _)⟩
theorem s_chnT {op op' : CmpOp} (hu : X.A.units + 65 < cLine) (ha : PE X a (tV Φ a')) (hb : PE X b (tV Φ b')) (hc : PE X c (tV Φ c')) (hp : plainE c = true) : PT X (.Compare a [op, op'] [b, c] pos) (tVT Φ (.chn op op' a' b' c')) := by
  obtain ⟨r, ho, hr⟩ := cmp_r hu op
  obtain ⟨r', ho', hr'⟩ := cmp_r hu op'
  refine (pt_chain ho ho' ha hb hc (marks_plain hp op')).imp fun σ H Q ⟨m, A, ρ, d, A', re, e, k⟩ => ?_
  exact chn_in hr hr' σ H _ ⟨m, A, ρ, d, A', re, e, fun m' H' e1 g1 => ⟨_, rfl, k m' H' e1 g1⟩⟩
end
end VI
set_option Elab.async false
set_option linter.all false
set_option maxRecDepth 100000
set_option maxHeartbeats 1000000
namespace SrtF
open PySem PySem.W PySem.Calls PyProof.Rows SrtO
def IsKeyed (h : Heap) (v : Value) (x : Int) : Prop := ∃ a o t u n, v = .ref a ∧ h.get? a = some o ∧ o.cls = .type "tuple" ∧ o.data = .seq #[.int x t, u] n
theorem IsKeyed.keeps {h h' : Heap} {v : Value} {x : Int} (p : IsKeyed h v x) (k : ∀ b o, h.get? b = some o → o.cls = .type "tuple" → h'.get? b = some o) : IsKeyed h' v x := by
  obtain ⟨a, o, t, u, n, e, ho, hc, hd⟩ := p
  exact ⟨a, o, t, u, n, e, k _ _ ho hc, hc, hd⟩
theorem swo_key (k : Value → Int) : Swo fun v u => decide (k v < k u) := by
  refine ⟨fun x y h => ?_, fun x y z h1 h2 => ?_⟩
  · simp only [decide_eq_true_eq, decide_eq_false_iff_not] at h ⊢
    omega
  · simp only [decide_eq_true_eq, decide_eq_false_iff_not] at h1 h2 ⊢
    omega
section
variable {prog : Program} {w : World} {A : Around} {E : Value → Shared → Prop} {s : Shared}
theorem keyed_cmp {vs : List Value} {k : Value → Int} (hp : ∀ v ∈ vs, IsKeyed s.heap v (k v)) (inj : ∀ v ∈ vs, ∀ u ∈ vs, k v = k u → v = u) : Cmp prog w A s (tuples' true) (fun p => p.1 ∈ vs) (lt2 fun v u => decide (k v < k u)) := by
  intro p q hm hm'
  have h1 := hp _ hm
  have h2 := hp _ hm'
  have h3 := inj _ hm _ hm'
  show wpAny (model prog w) A (keyLt' (tuples' true) p.1 q.1) (fun r s' => s' = s ∧ r = decide (k p.1 < k q.1)) (fun _ _ => False) s
  generalize k p.1 = x at h1 h3 ⊢
  generalize k q.1 = x' at h2 h3 ⊢
  obtain ⟨a, o, t, u, n, e, ho, hc, hd⟩ := h1
  obtain ⟨a', o', t', u', n', e', ho', hc', hd'⟩ := h2
  rw [e, e'] at h3
  rw [e, e']
  refine PySem.W.kat_lt ho hd ho' hd' ?_
  show PySem.W.KatLex prog w A true (decide (2 < 2)) _ [(.int x t, .int x' t'), (u, u')] 0 s
  refine PySem.W.kat_cons (SeqAt.EqAt.int_int x t x' t' prog w _ _ ?_)
  refine PySem.W.kat_go (fun e1 => ?_) (fun e1 => ?_)
  · have ex : x = x' := by simpa using e1
    have ea := h3 ex
    injection ea with ea
    subst ea
    rw [ho] at ho'
    cases ho'
    rw [hd] at hd'
    injection hd' with hxs _
    have hu : u = u' := by
      have := congrArg (fun z : Array Value => z[1]?) hxs
      simpa using this
    subst hu
    refine PySem.W.kat_yes (PySem.W.kat_cons (SeqAt.EqAt.same u prog w _ _ ?_))
    refine PySem.W.kat_go (fun e2 => PySem.W.kat_yes (PySem.W.kat_nil ⟨rfl, ?_⟩)) (fun e2 => nomatch e2)
    exact (decide_eq_false (by omega)).symm
  · exact PySem.W.kat_no (oneLt_int ⟨rfl, rfl⟩)
theorem firsts_of {h : Heap} : ∀ {vs : List Value}, (∀ v ∈ vs, ∃ x, IsKeyed h v x) → ∃ fs : List Value, PySem.W.KatTups h vs fs ∧ fs.length = vs.length ∧ ∀ f ∈ fs, ∃ x t, f = Value.int x t
  | [], _ => ⟨[], PySem.W.KatTups.nil, rfl, fun _ hm => by simp at hm⟩
  | v :: vs, hp => by
    obtain ⟨fs, h1, h2, h3⟩ := firsts_of (vs := vs) fun v' hm => hp v' (List.mem_cons_of_mem _ hm)
    obtain ⟨x, a, o, t, u, n, e, ho, hc, hd⟩ := hp v (List.mem_cons_self ..)
    subst e
    refine ⟨.int x t :: fs, PySem.W.KatTups.cons ho hc hd rfl h1, by rw [List.length_cons, List.length_cons, h2], fun f hm => ?_⟩
    rcases List.mem_cons.mp hm with rfl | hm
    · exact ⟨x, t, rfl⟩
    · exact h3 f hm
theorem keyed_sortable {a : Addr} {vs : List Value} {k : Value → Int} (h0 : 0 < vs.length) (hp : ∀ v ∈ vs, IsKeyed s.heap v (k v)) (inj : ∀ v ∈ vs, ∀ u ∈ vs, k v = k u → v = u) (ha : ∀ o, s.heap.get? a = some o → o.cls ≠ .type "tuple") : SortableO prog w A s a vs fun v u => decide (k v < k u) := by
  intro h' keep
  have hp' : ∀ v ∈ vs, IsKeyed h' v (k v) := fun v hm => (hp v hm).keeps fun b o e c => keep b o (fun z => by subst z; exact ha o e c) e
  obtain ⟨fs, h1, h2, h3⟩ := firsts_of fun v hm => ⟨_, hp' v hm⟩
  refine ⟨tuples' true, fun Q E hq => ?_, keyed_cmp hp' inj⟩
  refine PySem.W.kat_kind (T := .type "int") h1 (by omega) (fun f hm => ?_) (by rfl) ?_
  · obtain ⟨x, t, rfl⟩ := h3 f hm
    exact PySem.W.Looks.now
  · have e : (Value.type "int" != Value.type "tuple") = true := by first | decide +kernel | rfl | decide
    rw [e]
    exact hq
theorem sorted_keyed {l : Addr} {vs : List Value} {k : Value → Int} {Q : Value → Shared → Prop} (hl : s.heap.IsList l vs.toArray) (hz : vs.length ≤ sizeLine) (hp : ∀ v ∈ vs, IsKeyed s.heap v (k v)) (inj : ∀ v ∈ vs, ∀ u ∈ vs, k v = k u → v = u)
    (h : ∀ (h' : Heap) (d : Addr) (out : List Value), Srtd (fun v u => decide (k v < k u)) out → Stb (fun v u => decide (k v < k u)) out vs → (∀ b o, s.heap.get? b = some o → h'.get? b = some o) → s.heap.objs.size ≤ d → (∃ n, h'.get? d = some (seqObj "list" out.toArray n)) → Q (.ref d) { s with heap := h' }) :
    wpAny (model prog w) A (call (.builtin "sorted") [.ref l]) Q E s := by
  refine sorted_ord (swo_key k) hl hz (fun h2 h₁ a ha kk => ?_) fun out hs hb => ?_
  · refine keyed_sortable (s := { s with heap := h₁ }) (by omega) (fun v hm => (hp v hm).keeps fun b o e _ => (kk b o e).2) inj fun o e => ?_
    have e' : some o = some (seqObj "list" vs.toArray 0) := e.symm.trans ha
    cases e'
    intro c
    exact absurd (Value.type.inj c) (by decide)
  · exact h _ _ out hs hb (fun b o e => sortedAll_old e) (Nat.le_succ _) (sortedAll_at s.heap vs out.toArray)
end
end SrtF
namespace VI
open PySem PySem.Spec PyProof.Rows L2
def keyH (H : Hp) : V → Int
  | .ref t => match H t with
    | some (.tup (.int i :: _)) => i
    | _ => 0
  | _ => 0
theorem keyH_ref {H : Hp} {t : Addr} {i : Int} {r : List V} (h : H t = some (.tup (.int i :: r))) : keyH H (.ref t) = i := by
  simp [keyH, h]
def rSortedF (K : PySem.W.Frag) : List V → Hp → VK → Prop := fun vs H Q => ∃ (a : Addr) (xs : List V), vs = [V.ref a] ∧ SqL K H a xs ∧ (∀ x ∈ xs, ∃ t i y, x = V.ref t ∧ H t = some (.tup [.int i, y])) ∧ (∀ x ∈ xs, ∀ y ∈ xs, keyH H x = keyH H y → x = y) ∧
  ∀ ys p, (ys.Pairwise fun x y => keyH H x ≤ keyH H y) → ys.Perm xs → H p = none → Q (.ref p) (upd H p (.lst ys))
theorem cr_sortedF {X : Cx} : CallR X (.builtin "sorted") (rSortedF X.K) := by
  intro pins s σ H vs us Q I r h
  obtain ⟨a, xs, rfl, hs, hx, inj, q⟩ := h
  obtain ⟨its, rv, hl, hz⟩ := I.list hs
  obtain ⟨u, rfl, ru⟩ := vals1 r
  obtain rfl : u = Value.ref a := ru
  obtain ⟨e1, e2⟩ := refs_back rv fun x m => by
    obtain ⟨t, _, _, e, _⟩ := hx x m
    exact ⟨t, e⟩
  have bk : ∀ v ∈ its, backV v ∈ xs := fun v hv => by
    rw [e1]
    exact List.mem_map_of_mem hv
  refine SrtF.sorted_keyed (k := fun u => keyH H (backV u)) hl.isList (by rw [← rv.length]; exact hz) (fun v hv => ?_) (fun v hv u hu e => ?_) fun h' d out h1 h2 kp hd hn => ?_
  · obtain ⟨t, rfl⟩ := e2 v hv
    obtain ⟨t', i, y, e, ht⟩ := hx _ (bk _ hv)
    cases e
    have ki : keyH H (backV (.ref t)) = i := keyH_ref ht
    rw [ki]
    obtain ⟨_, its2, r2, o, ho, hc, n, hd⟩ := I.hok _ _ ht
    obtain ⟨u1, u2, rfl, ri, rj⟩ := vals2 r2
    obtain ⟨t1, rfl⟩ := ri
    exact ⟨t, o, t1, u2, n, rfl, ho, hc, hd⟩
  · have := inj _ (bk v hv) _ (bk u hu) e
    obtain ⟨t, rfl⟩ := e2 v hv
    obtain ⟨t', rfl⟩ := e2 u hu
    cases this
    rfl
  · have h3 : ∀ u ∈ out, ∃ a, u = Value.ref a := fun u hu => e2 u (h2.perm.mem_iff.mp hu)
    obtain ⟨n, hn⟩ := hn
    have pm : (out.map backV).Perm xs := by
      rw [e1]
      exact h2.perm.map backV
    refine ⟨.ref d, upd H d (.lst (out.map backV)), I.laid (t' := s.toks) kp hd ⟨?_, out, n, vals_back h3, hn⟩, rfl, q _ d (List.pairwise_map.mpr (h1.imp fun {x y} h => ?_)) pm (I.hok.fresh hd)⟩
    · rw [pm.length_eq]
      exact hz
    · have := of_decide_eq_false h
      omega
def rSortedX (K : PySem.W.Frag) : List V → Hp → VK → Prop := fun vs H Q => rSorted K vs H Q ∨ rSortedF K vs H Q
theorem cr_sortedX {X : Cx} : CallR X (.builtin "sorted") (rSortedX X.K) := by
  intro pins s σ H vs us Q I r h
  rcases h with h | h
  · exact cr_sorted pins s σ H vs us Q I r h
  · exact cr_sortedF pins s σ H vs us Q I r h
section
variable {α : Type} {k : α → Int}
theorem insK_perm (x : α) : ∀ l : List α, (insK k x l).Perm (x :: l)
  | [] => .refl _
  | y :: l => by
    unfold insK
    split
    · exact .refl _
    · exact ((insK_perm x l).cons y).trans (.swap x y l)
theorem sortK_perm : ∀ l : List α, (sortK k l).Perm l
  | [] => .nil
  | x :: r => (insK_perm x (sortK k r)).trans ((sortK_perm r).cons x)
theorem insK_sorted {x : α} : ∀ {l : List α}, (l.Pairwise fun a b => k a ≤ k b) → (insK k x l).Pairwise fun a b => k a ≤ k b
  | [], _ => by simp [insK]
  | y :: l, h => by
    unfold insK
    have h' := List.pairwise_cons.mp h
    split
    · rename_i hxy
      refine List.pairwise_cons.mpr ⟨fun z hz => ?_, h⟩
      rcases List.mem_cons.mp hz with rfl | hz
      · exact hxy
      · exact Int.le_trans hxy (h'.1 z hz)
    · rename_i hxy
      refine List.pairwise_cons.mpr ⟨fun z hz => ?_, insK_sorted h'.2⟩
      rcases List.mem_cons.mp ((insK_perm x l).mem_iff.mp hz) with rfl | hz
      · omega
      · exact h'.1 z hz
theorem sortK_sorted : ∀ l : List α, (sortK k l).Pairwise fun a b => k a ≤ k b
  | [] => .nil
  | x :: r => insK_sorted (sortK_sorted r)
theorem inj_of_nodup : ∀ {l : List α}, (l.map k).Nodup → ∀ a ∈ l, ∀ b ∈ l, k a = k b → a = b
  | [], _, a, ha, _, _, _ => nomatch ha
  | x :: l, nd, a, ha, b, hb, e => by
    rw [List.map_cons, List.nodup_cons] at nd
    rcases List.mem_cons.mp ha with ea | ha'
    · rcases List.mem_cons.mp hb with eb | hb'
      · rw [ea, eb]
      · exact (nd.1 (by rw [← ea, e]; exact List.mem_map_of_mem hb')).elim
    · rcases List.mem_cons.mp hb with eb | hb'
      · exact (nd.1 (by rw [← eb, ← e]; exact List.mem_map_of_mem ha')).elim
      · exact inj_of_nodup nd.2 a ha' b hb' e
theorem sortK_one {l m : List α} (nd : (l.map k).Nodup) (p : m.Perm l) (h : m.Pairwise fun a b => k a ≤ k b) : m = sortK k l :=
  (p.trans (sortK_perm l).symm).eq_of_pairwise (fun x y hx hy h1 h2 => inj_of_nodup nd x (p.mem_iff.mp hx) y ((sortK_perm l).mem_iff.mp hy) (Int.le_antisymm h1 h2)) h (sortK_sorted l)
end
theorem keysW_ok : ∀ {ws : List W} {ks : List Int}, keysW ws = some ks → ks = ws.map keyW0 ∧ ∀ w ∈ ws, ∃ i u, w = .tup [.int i, u]
  | [], ks, e => by
    cases e
    exact ⟨rfl, fun w hw => nomatch hw⟩
  | w :: ws, ks, e => by
    unfold keysW at e
    split at e <;> (try contradiction)
    rename_i q
    cases q
    obtain ⟨ks', e1, rfl⟩ := Option.map_eq_some_iff.mp e
    obtain ⟨h1, h2⟩ := keysW_ok e1
    refine ⟨by rw [h1]; rfl, fun w hw => ?_⟩
    rcases List.mem_cons.mp hw with rfl | hw
    · exact ⟨_, _, rfl⟩
    · exact h2 w hw
theorem RvL.perm {m : List Addr} {H : Hp} {xs ys : List V} (p : ys.Perm xs) : ∀ {ws : List W}, RvL m H xs ws → ∃ us : List W, us.Perm ws ∧ RvL m H ys us := by
  induction p with
  | nil => intro ws r; cases r; exact ⟨[], .nil, .nil⟩
  | cons x _ ih =>
    intro ws r
    cases r with
    | cons h t =>
      obtain ⟨us, p, r⟩ := ih t
      exact ⟨_ :: us, p.cons _, .cons h r⟩
  | swap x y l =>
    intro ws r
    cases r with
    | cons h t =>
      cases t with
      | cons h2 t => exact ⟨_, .swap _ _ _, .cons h2 (.cons h t)⟩
  | trans _ _ ih1 ih2 =>
    intro ws r
    obtain ⟨us, p, r⟩ := ih2 r
    obtain ⟨us2, p2, r2⟩ := ih1 r
    exact ⟨us2, p2.trans p, r2⟩
theorem keyRv {m : List Addr} {H : Hp} {v : V} {i : Int} {u : W} (r : Rv m H v (.tup [.int i, u])) : keyH H v = i ∧ ∃ t y, v = V.ref t ∧ H t = some (.tup [.int i, y]) := by
  cases r with
  | tup h l r =>
    cases r with
    | cons h1 r =>
      cases h1
      cases r with
      | cons h2 r =>
        cases r
        exact ⟨keyH_ref h, _, _, rfl, h⟩
theorem RvL.keys {m : List Addr} {H : Hp} : ∀ {xs : List V} {ws : List W}, RvL m H xs ws → (∀ w ∈ ws, ∃ i u, w = .tup [.int i, u]) → xs.map (keyH H) = ws.map keyW0 ∧ ∀ x ∈ xs, ∃ t i y, x = V.ref t ∧ H t = some (.tup [.int i, y])
  | _, _, .nil, _ => ⟨rfl, fun x hx => nomatch hx⟩
  | x :: xs, w :: ws, .cons h t, hw => by
    obtain ⟨i, u, rfl⟩ := hw w (List.mem_cons_self ..)
    obtain ⟨k1, t1, y1, e1, e2⟩ := keyRv h
    obtain ⟨g1, g2⟩ := RvL.keys t fun w h => hw w (List.mem_cons_of_mem _ h)
    refine ⟨by rw [List.map_cons, List.map_cons, g1, k1]; rfl, fun z hz => ?_⟩
    rcases List.mem_cons.mp hz with rfl | hz
    · exact ⟨t1, i, y1, e1, e2⟩
    · exact g2 z hz
end VI
set_option Elab.async false
set_option linter.all false
set_option maxRecDepth 100000
set_option maxHeartbeats 1000000
namespace VI
open PySem PySem.Spec PyProof.Rows L2

def spH (φ : Fun) : Sp := fun vs H Q _ => ∃ m A ws w A', HR m A H ∧ RvL m H vs ws ∧ φ ws A = some (w, A') ∧ Kn m H A' w Q
structure FnH (P : Program) (w : World) (K : PySem.W.Frag) (mg : Str → Option Value) (base : Heap) (k : Nat) (f : Str) (φ : Fun) : Prop where
  ex : ∃ (a : Addr) (fd : FuncData) (ps : List Str), mg f = some (.ref a) ∧ PySem.W.keepIn K (.ref a) = true ∧ FnOk P w K mg base CX0 k a fd ps (spH φ) ∧ Binds K fd ps []
theorem FnH.mono {P : Program} {w : World} {K : PySem.W.Frag} {mg : Str → Option Value} {base : Heap} {j k : Nat} {f : Str} {φ : Fun} (F : FnH P w K mg base j f φ) (h : j ≤ k) : FnH P w K mg base k f φ :=
  let ⟨a, fd, ps, h1, h2, h3, h4⟩ := F.ex
  ⟨a, fd, ps, h1, h2, h3.mono h, h4⟩

section
variable {X : Cx} {Φ : Fns} {a b c : Expr} {a' b' c' : XE} {pos : Pos}
theorem RvL.atI {m : List Addr} {H : Hp} {vs : List V} {ds : List W} {i : Int} {d : W} (h : RvL m H vs ds) (e : L2.atI ds i = some d) : ∃ v, L2.atI vs i = some v ∧ Rv m H v d := by
  unfold L2.atI at e ⊢
  rw [h.len]
  cases hj : L2.ixN ds.length i with
  | none => rw [hj] at e; cases e
  | some j =>
    rw [hj] at e
    exact h.get e
theorem s_ix (ha : PE X a (tV Φ a')) (hb : PE X b (tV Φ b')) (hp : plainE b = true) : PE X (.Subscript a b pos) (tV Φ (.ix a' b')) := by
  refine (pe_ix ix_seq ha hb (ix_plain hp)).imp (two (op2 := fun x y A => (ixW x y A).map fun w => (w, A)) (fun ρ A => by rw [evH]; try rfl) fun m A A' H v w x y z Q g r1 r2 e k => ?_)
  rw [Option.map_eq_some_iff] at e
  obtain ⟨z', e, e2⟩ := e
  cases e2
  unfold ixW at e
  split at e
  · split at e
    · rename_i ws hw
      cases r1 with
      | ref e1 =>
      obtain ⟨vs, q1, q2, q3⟩ := g.cell _ _ _ e1 hw
      obtain ⟨u, h2, h3⟩ := q3.atI e
      exact .inl ⟨_, vs, _, u, rfl, r2.theInt, SqL.of q1, h2, k.flat g h3⟩
    · cases e
  · cases r1 with
    | tup q1 q2 q3 =>
    obtain ⟨u, h2, h3⟩ := q3.atI e
    exact .inr (.inl ⟨_, _, _, u, rfl, r2.theInt, SqT.of q1, h2, k.flat g h3⟩)
  · split at e
    · rename_i hl
      obtain ⟨c, e1, e2⟩ := Option.map_eq_some_iff.mp e
      cases e2
      exact .inr (.inr ⟨_, _, c, r1.theStr, r2.theInt, limOk hl, e1, k.flat g (.str _)⟩)
    · cases e
  · cases e
def tPt (Φ : Fns) (l : XE) : TO := fun σ H Q => ∃ m A ρ w A' o, RE m A ρ σ H ∧ evH Φ l ρ A = some (w, A') ∧ partW (isNoneE l) w = some o ∧ ∀ m' H', Ex m H m' H' → HR m' A' H' → Q o H'
theorem po_imp {e : Option Expr} {t t' : TO} (h : PO X e t) (k : ∀ σ H Q, t' σ H Q → t σ H Q) : PO X e t' := ⟨fun pins s σ H Q I q => h.run pins s σ H Q I (k σ H Q q)⟩
theorem s_po0 : PO X none (tPt Φ (.cst .none)) := po_imp po_none fun σ H Q ⟨m, A, ρ, w, A', o, re, e, e2, k⟩ => by
  rw [evH] at e
  cases e
  cases e2
  exact k m H re.hr.refl re.hr
theorem s_po {e : Expr} {l : XE} (h : PE X e (tV Φ l)) (hn : isNoneE l = false) : PO X (some e) (tPt Φ l) := po_imp (po_some h) fun σ H Q ⟨m, A, ρ, w, A', o, re, e, e2, k⟩ => by
  rw [hn] at e2
  refine ⟨m, A, ρ, w, A', re, e, fun v m1 H1 e1 g1 r1 => ?_⟩
  cases w with
  | int i =>
    cases e2
    exact ⟨i, r1.theInt, k _ _ e1 g1⟩
  | _ => cases e2
theorem cut_rv {m : List Addr} {H : Hp} {vs : List V} {ds : List W} (h : RvL m H vs ds) (lo hi : Option Int) : RvL m H (cutV vs lo hi) (cutD ds lo hi) := by
  unfold cutV cutD
  rw [h.len]
  exact (h.drop _).take _
theorem s_sl {lo hi : Option Expr} {l' h' : XE} {p2 : Pos} (ha : PE X a (tV Φ a')) (hl : PO X lo (tPt Φ l')) (hh : PO X hi (tPt Φ h')) : PE X (.Subscript a (.Slice lo hi none p2) pos) (tV Φ (.sl a' l' h')) := by
  refine (pe_slice ((sl_list.or sl_tup).or C8.sl_txt) ha hl hh).imp fun σ H Q ⟨m, A, ρ, w, A', re, e, k⟩ => ?_
  rw [evH] at e
  split at e
  rotate_left
  · cases e
  rename_i x A1 h1
  split at e
  rotate_left
  · cases e
  rename_i l A2 h2
  split at e
  rotate_left
  · cases e
  rename_i h A3 h3
  split at e
  rotate_left
  · cases e
  rename_i l2 h2' h4 h5
  refine ⟨m, A, ρ, x, A1, re, h1, fun v m1 H1 e1 g1 r1 => ⟨m1, A1, ρ, l, A2, l2, re.ex e1 g1, h2, h4, fun m2 H2 e2 g2 => ⟨m2, A2, ρ, h, A3, h2', (re.ex e1 g1).ex e2 g2, h3, h5, fun m3 H3 e3 g3 => ?_⟩⟩⟩
  have r := (r1.ex g1 e2).ex g2 e3
  unfold slW at e
  split at e
  · split at e
    · rename_i ws hw
      cases r with
      | ref q =>
      obtain ⟨vs, q1, q2, q3⟩ := g3.cell _ _ _ q hw
      obtain ⟨l, kk⟩ := (k.on ((e1.trans e2).trans e3)).new g3 e (cut_rv q3 l2 h2')
      exact .inl (.inl ⟨_, vs, rfl, SqL.of q1, kk⟩)
    · cases e
  · split at e
    · cases e
    · rename_i nw
      cases e
      cases r with
      | tup q1 q2 q3 =>
        have hl := q3.len
        exact .inl (.inr ⟨_, _, rfl, SqT.of q1, by rw [hl]; exact nw, fun l nl => (k.on ((e1.trans e2).trans e3)).tup g3 (Nat.le_trans (cutV_length _ _ _) q2) (cut_rv q3 l2 h2') l nl⟩)
  · split at e
    · rename_i hl
      cases e
      exact .inr ⟨_, r.theStr, limOk hl, (k.on ((e1.trans e2).trans e3)).flat g3 (.str _)⟩
    · cases e
  · cases e

theorem s_nil : PA X [] (tVA Φ .nil) := pa_nil.imp fun σ H Q ⟨m, A, ρ, ws, A', re, e, k⟩ => by
  rw [evsH] at e
  cases e
  exact k [] m H re.hr.refl re.hr .nil
theorem s_cons {as : List Expr} {as' : XEs} (ha : PE X a (tV Φ a')) (hr : PA X as (tVA Φ as')) (hp : plainE a = true) : PA X (a :: as) (tVA Φ (.cons a' as')) := by
  refine (pa_cons ha hr (star_plain hp as X.env)).imp fun σ H Q ⟨m, A, ρ, ws, A', re, e, k⟩ => ?_
  rw [evsH] at e
  split at e
  · rename_i d A1 h1
    split at e
    · rename_i ds' A2 h2
      cases e
      refine ⟨m, A, ρ, d, A1, re, h1, fun v m1 H1 e1 g1 r1 => ⟨m1, A1, ρ, ds', _, re.ex e1 g1, h2, fun vs m2 H2 e2 g2 r2 => ?_⟩⟩
      exact k (v :: vs) m2 H2 (e1.trans e2) g2 (.cons (r1.ex g1 e2) r2)
    · cases e
  · cases e
theorem s_lst {as : List Expr} {as' : XEs} (h : PA X as (tVA Φ as')) : PE X (.List as pos) (tV Φ (.lst as')) := by
  refine (pe_lst h).imp fun σ H Q ⟨m, A, ρ, w, A', re, e, k⟩ => ?_
  rw [evH] at e
  split at e
  · rename_i ws A1 h1
    refine ⟨m, A, ρ, ws, A1, re, h1, fun vs m1 H1 e1 g1 r1 => ?_⟩
    obtain ⟨l, kk⟩ := (k.on e1).new g1 e r1
    exact ⟨limOk l, kk⟩
  · cases e
theorem s_tup {as : List Expr} {as' : XEs} {kk : Nat} (h : PA X as (tVA Φ as')) : PE X (.Tuple as kk pos) (tV Φ (.tup as')) := by
  refine (pe_tup h).imp fun σ H Q ⟨m, A, ρ, w, A', re, e, k⟩ => ?_
  rw [evH] at e
  split at e
  · rename_i ws A1 h1
    split at e
    · rename_i hl
      cases e
      refine ⟨m, A, ρ, ws, _, re, h1, fun vs m1 H1 e1 g1 r1 => ?_⟩
      have l : vs.length ≤ lim := by rw [r1.len]; exact hl
      exact ⟨limOk l, fun p np => (k.on e1).tup g1 l r1 p np⟩
    · cases e
  · cases e

theorem s_call {x : Str} {p : Pos} {k : Nat} {φ : Fun} {e : Expr} {es : List Expr} {as' : XEs} (F : FnH X.prog X.w X.K X.mg X.base k x φ) (hΦ : Φ x = some φ) (hr : Room k X.A) (hg : Gl X x) (hdb : (x == ("__debug__" : Str)) = false)
    (ha : PA X (e :: es) (tVA Φ as')) (hp : ∀ e' ∈ e :: es, plainE e' = true) : PE X (.Call (.Name x p) (e :: es) [] pos) (tV Φ (.call x as')) := by
  obtain ⟨ad, fd, ps, h1, h2, h3, h4⟩ := F.ex
  refine (pe_call h3 hr hg h1 h2 h4 .nil pass0 ha hdb (star_plain (hp e List.mem_cons_self) es X.env) (star_any fun e' he => hp e' (List.mem_cons_of_mem _ he))).imp fun σ H Q ⟨m, A, ρ, w, A', re, e, kk⟩ => ?_
  rw [evH] at e
  split at e
  · rename_i φ' ws A1 e1 e2
    rw [hΦ] at e1
    cases e1
    exact ⟨m, A, ρ, ws, A1, re, e2, fun vs m1 H1 s1 g1 r1 => ⟨m1, A1, ws, w, A', g1, by simpa using r1, e, kk.on s1⟩⟩
  · cases e
theorem RvL.one {m : List Addr} {H : Hp} {vs : List V} {d : W} (h : RvL m H vs [d]) : ∃ v, vs = [v] ∧ Rv m H v d := by
  match vs, h with
  | [v], .cons h .nil => exact ⟨v, rfl, h⟩
theorem RvL.two {m : List Addr} {H : Hp} {vs : List V} {d e : W} (h : RvL m H vs [d, e]) : ∃ v w, vs = [v, w] ∧ Rv m H v d ∧ Rv m H w e := by
  match vs, h with
  | [v, w], .cons h (.cons h2 .nil) => exact ⟨v, w, rfl, h, h2⟩
theorem RvL.three {m : List Addr} {H : Hp} {vs : List V} {d e f : W} (h : RvL m H vs [d, e, f]) : ∃ v w u, vs = [v, w, u] ∧ Rv m H v d ∧ Rv m H w e ∧ Rv m H u f := by
  match vs, h with
  | [v, w, u], .cons h (.cons h2 (.cons h3 .nil)) => exact ⟨v, w, u, rfl, h, h2, h3⟩
def BiR (f : BI) (r : List V → Hp → VK → Prop) : Prop := ∀ (m : List Addr) (A A' : AH) (H : Hp) (vs : List V) (ws : List W) (w : W) (Q : VK), HR m A H → RvL m H vs ws → biW f ws A = some (w, A') → Kn m H A' w Q → r vs H Q
theorem bi_in {f : BI} {as' : XEs} {r : List V → Hp → VK → Prop} (hr : BiR f r) :
    ∀ σ H Q, tV Φ (.bi f as') σ H Q → tCB r (tVA Φ as') σ H Q := by
  intro σ H Q ⟨m, A, ρ, w, A', re, e, k⟩
  rw [evH] at e
  split at e
  · rename_i ws A1 h1
    exact ⟨m, A, ρ, ws, A1, re, h1, fun vs m1 H1 e1 g1 r1 => hr _ _ _ _ _ _ _ _ g1 r1 e (k.on e1)⟩
  · cases e
theorem sortI_perm : ∀ ns : List Int, (sortI ns).Perm ns
  | [] => .nil
  | x :: r => by
    have ins : ∀ (x : Int) (l : List Int), (insI x l).Perm (x :: l) := by
      intro x l
      induction l with
      | nil => exact .refl _
      | cons y l ih =>
        unfold insI
        split
        · exact .refl _
        · exact (ih.cons y).trans (.swap x y l)
    exact (ins x (sortI r)).trans ((sortI_perm r).cons x)
theorem insI_mem {x y : Int} : ∀ {l : List Int}, y ∈ insI x l → y = x ∨ y ∈ l
  | [], h => by simp [insI] at h; exact .inl h
  | z :: l, h => by
    unfold insI at h
    split at h
    · simpa using h
    · rcases List.mem_cons.mp h with h | h
      · exact .inr (by simp [h])
      · rcases insI_mem h with h | h
        · exact .inl h
        · exact .inr (by simp [h])
theorem insI_sorted {x : Int} : ∀ {l : List Int}, l.Pairwise (· ≤ ·) → (insI x l).Pairwise (· ≤ ·)
  | [], _ => by simp [insI]
  | y :: l, h => by
    unfold insI
    have h' := List.pairwise_cons.mp h
    split
    · rename_i hxy
      refine List.pairwise_cons.mpr ⟨fun z hz => ?_, h⟩
      rcases List.mem_cons.mp hz with rfl | hz
      · exact hxy
      · exact Int.le_trans hxy (h'.1 z hz)
    · rename_i hxy
      refine List.pairwise_cons.mpr ⟨fun z hz => ?_, insI_sorted h'.2⟩
      rcases insI_mem hz with rfl | hz
      · omega
      · exact h'.1 z hz
theorem sortI_sorted : ∀ ns : List Int, (sortI ns).Pairwise (· ≤ ·)
  | [] => .nil
  | x :: r => insI_sorted (sortI_sorted r)
theorem sorted_one {a b : List Int} (p : a.Perm b) (ha : a.Pairwise (· ≤ ·)) (hb : b.Pairwise (· ≤ ·)) : a = b :=
  p.eq_of_pairwise (fun x y _ _ h1 h2 => Int.le_antisymm h1 h2) ha hb
def rSumT (K : PySem.W.Frag) : List V → Hp → VK → Prop := fun vs H Q => ∃ (a : Addr) (ns : List Int), vs = [V.ref a] ∧ SqT K H a (ns.map V.int) ∧ Q (.int ns.sum) H
theorem cr_sumT (hc : X.calm = true) : CallR X (.builtin "sum") (rSumT X.K) := by
  intro pins s σ H vs us Q I r h
  obtain ⟨a, ns, rfl, hs, q⟩ := h
  obtain ⟨its, rv, hl, _⟩ := I.tuple hs
  rw [Vals.ref1 r]
  have hi := rv.ints
  obtain ⟨xs, e⟩ := hi.allInts.items
  have hn : numsOf (intItems xs).toList = ns := by rw [← e]; exact hi.numsOf
  rw [nums_intItems] at hn
  rw [e] at hl
  refine PySem.W.ktm_sumG (I.ok.hd hc) hl fun h' tk t' hk => ?_
  rw [preSum_eq, List.take_of_length_le (by simp), hn]
  exact ⟨.int _, H, I.kept fun b o z => hk b o z, ⟨_, rfl⟩, q⟩
theorem s_biF {f : BI} {id : String} {x : Str} {p : Pos} {r : List V → Hp → VK → Prop} {e : Expr} {es : List Expr} {as' : XEs} (hc : CallR X (.builtin id) r) (hg : Gl X x) (hm : X.mg x = none) (hv : bootBuiltins x = some (.builtin id)) (hn : x ≠ "__name__") (hdb : (x == ("__debug__" : Str)) = false)
    (ha : PA X (e :: es) (tVA Φ as')) (hp : ∀ e' ∈ e :: es, plainE e' = true) (hr : BiR f r) :
    PE X (.Call (.Name x p) (e :: es) [] pos) (tV Φ (.bi f as')) :=
  (pe_callB hc hg hm hv ha hn hdb (star_plain (hp e List.mem_cons_self) es X.env) (star_any fun e' he => hp e' (List.mem_cons_of_mem _ he))).imp (bi_in hr)
theorem s_biT {f : BI} {id : String} {x : Str} {p : Pos} {r : List V → Hp → VK → Prop} {e : Expr} {es : List Expr} {as' : XEs} (hc : CallR X (.type id) r) (hg : Gl X x) (hm : X.mg x = none) (hv : bootBuiltins x = some (.type id)) (hn : x ≠ "__name__") (hdb : (x == ("__debug__" : Str)) = false)
    (ha : PA X (e :: es) (tVA Φ as')) (hp : ∀ e' ∈ e :: es, plainE e' = true) (hr : BiR f r) :
    PE X (.Call (.Name x p) (e :: es) [] pos) (tV Φ (.bi f as')) :=
  (pe_callTy hc hg hm hv ha hn hdb (star_plain (hp e List.mem_cons_self) es X.env) (star_any fun e' he => hp e' (List.mem_cons_of_mem _ he))).imp (bi_in hr)
theorem bt_len : bootBuiltins "len" = some (.builtin "len") := by decide +kernel
theorem bt_abs : bootBuiltins "abs" = some (.builtin "abs") := by decide +kernel
theorem bt_max : bootBuiltins "max" = some (.builtin "max") := by decide +kernel
theorem bt_sum : bootBuiltins "sum" = some (.builtin "sum") := by decide +kernel
theorem bt_all : bootBuiltins "all" = some (.builtin "all") := by decide +kernel
theorem bt_any : bootBuiltins "any" = some (.builtin "any") := by decide +kernel
theorem bt_sorted : bootBuiltins "sorted" = some (.builtin "sorted") := by decide +kernel
theorem bt_isi : bootBuiltins "isinstance" = some (.builtin "isinstance") := by decide +kernel
theorem bt_int : bootBuiltins "int" = some (.type "int") := by decide +kernel
theorem bt_list : bootBuiltins "list" = some (.type "list") := by decide +kernel
theorem bt_tuple : bootBuiltins "tuple" = some (.type "tuple") := by decide +kernel
theorem bt_bool : bootBuiltins "bool" = some (.type "bool") := by decide +kernel
theorem bt_str : bootBuiltins "str" = some (.type "str") := by decide +kernel
theorem atL_some {w : W} {A : AH} {ws : List W} (h : atL w A = some ws) : ∃ n, w = .ref n ∧ A[n]? = some ws := by
  unfold atL at h
  split at h
  · exact ⟨_, rfl, h⟩
  · cases h
theorem at_rv {m : List Addr} {A : AH} {H : Hp} {v : V} {w : W} {ws : List W} (g : HR m A H) (h : atL w A = some ws) (r : Rv m H v w) : ∃ a vs, v = .ref a ∧ H a = some (.lst vs) ∧ vs.length ≤ lim ∧ RvL m H vs ws := by
  obtain ⟨n, rfl, h⟩ := atL_some h
  cases r with
  | ref e =>
  obtain ⟨vs, q⟩ := g.cell _ _ _ e h
  exact ⟨_, vs, rfl, q⟩
theorem s_bi {f : BI} {x : Str} {p : Pos} {e : Expr} {es : List Expr} {as' : XEs} (hb : biOf x = some f) (hc : X.calm = true) (hg : Gl X x) (hm : X.mg x = none) (hn : x ≠ "__name__") (hdb : (x == ("__debug__" : Str)) = false)
    (ha : PA X (e :: es) (tVA Φ as')) (hp : ∀ e' ∈ e :: es, plainE e' = true) : PE X (.Call (.Name x p) (e :: es) [] pos) (tV Φ (.bi f as')) := by
  unfold biOf at hb
  split at hb
  · rename_i hx
    cases hb
    subst hx
    refine s_biF call_len hg hm bt_len hn hdb ha hp fun m A A' H vs ws w Q g r e k => ?_
    unfold biW at e
    split at e <;> (try contradiction)
    · cases e
      obtain ⟨v, rfl, r1⟩ := r.one
      cases r1 with
      | tup h1 h2 h3 => exact ⟨_, _, rfl, .inr ⟨_, SqT.of h1, h3.len.symm⟩, k.flat g (.int _)⟩
    · split at e
      · rename_i hl
        cases e
        obtain ⟨v, rfl, r1⟩ := r.one
        rw [r1.theStr]
        exact ⟨_, _, rfl, ⟨limOk hl, rfl⟩, k.flat g (.int _)⟩
      · cases e
    · obtain ⟨ws', e1, e2⟩ := Option.map_eq_some_iff.mp e
      cases e2
      obtain ⟨v, rfl, r1⟩ := r.one
      obtain ⟨a, vs, rfl, h1, h2, h3⟩ := at_rv g e1 r1
      exact ⟨_, _, rfl, .inl ⟨vs, SqL.of h1, h3.len.symm⟩, k.flat g (.int _)⟩
  split at hb
  · rename_i hx
    cases hb
    subst hx
    refine s_biF call_abs hg hm bt_abs hn hdb ha hp fun m A A' H vs ws w Q g r e k => ?_
    unfold biW at e
    split at e <;> (try contradiction)
    cases e
    obtain ⟨v, rfl, r1⟩ := r.one
    exact ⟨_, by rw [r1.theInt], k.flat g (.int _)⟩
  split at hb
  · rename_i hx
    cases hb
    subst hx
    refine s_biT (call_int1.or call_int_str) hg hm bt_int hn hdb ha hp fun m A A' H vs ws w Q g r e k => ?_
    unfold biW at e
    split at e <;> (try contradiction)
    · split at e
      · rename_i hl
        obtain ⟨n, e1, e2⟩ := Option.map_eq_some_iff.mp e
        cases e2
        obtain ⟨v, rfl, r1⟩ := r.one
        exact .inr ⟨_, n, by rw [r1.theStr], e1, hl, k.flat g (.int _)⟩
      · cases e
    · cases e
      obtain ⟨v, rfl, r1⟩ := r.one
      exact .inl (.inl ⟨_, by rw [r1.theInt], k.flat g (.int _)⟩)
    · cases e
      obtain ⟨v, rfl, r1⟩ := r.one
      exact .inl (.inr ⟨_, by rw [r1.theBl], k.flat g (.int _)⟩)
  split at hb
  · rename_i hx
    cases hb
    subst hx
    refine s_biF (call_max2 hc) hg hm bt_max hn hdb ha hp fun m A A' H vs ws w Q g r e k => ?_
    unfold biW at e
    split at e <;> (try contradiction)
    cases e
    obtain ⟨v, w, rfl, r1, r2⟩ := r.two
    exact ⟨_, _, by rw [r1.theInt, r2.theInt], k.flat g (.int _)⟩
  split at hb
  · rename_i hx
    cases hb
    subst hx
    refine s_biT call_list_of hg hm bt_list hn hdb ha hp fun m A A' H vs ws w Q g r e k => ?_
    unfold biW at e
    split at e <;> (try contradiction)
    · obtain ⟨v, rfl, r1⟩ := r.one
      cases r1 with
      | tup h1 h2 h3 => exact ⟨_, _, rfl, .inr (SqT.of h1), (k.new g e h3).2⟩
    · split at e
      · rename_i ws' e1
        obtain ⟨v, rfl, r1⟩ := r.one
        obtain ⟨a, vs, rfl, h1, h2, h3⟩ := at_rv g e1 r1
        exact ⟨_, _, rfl, .inl (SqL.of h1), (k.new g e h3).2⟩
      · cases e
  split at hb
  · rename_i hx
    cases hb
    subst hx
    refine s_biT call_tuple_of hg hm bt_tuple hn hdb ha hp fun m A A' H vs ws w Q g r e k => ?_
    unfold biW at e
    split at e <;> (try contradiction)
    split at e
    · rename_i ws' e1
      split at e <;> cases e
      obtain ⟨v, rfl, r1⟩ := r.one
      obtain ⟨a, vs, rfl, h1, h2, h3⟩ := at_rv g e1 r1
      exact ⟨a, vs, rfl, .inl ⟨SqL.of h1, fun l nl => k.tup g h2 h3 l nl⟩⟩
    · cases e
  split at hb
  · rename_i hx
    cases hb
    subst hx
    refine s_biF ((cr_sum hc).or (cr_sumT hc)) hg hm bt_sum hn hdb ha hp fun m A A' H vs ws w Q g r e k => ?_
    unfold biW at e
    split at e <;> (try contradiction)
    · obtain ⟨ns, e2, e3⟩ := Option.map_eq_some_iff.mp e
      cases e3
      obtain ⟨v, rfl, r1⟩ := r.one
      cases r1 with
      | tup h1 h2 h3 =>
        rw [h3.ints e2] at h1
        exact .inr ⟨_, ns, rfl, SqT.of h1, k.flat g (.int _)⟩
    · split at e
      · rename_i ws' e1
        obtain ⟨ns, e2, e3⟩ := Option.map_eq_some_iff.mp e
        cases e3
        obtain ⟨v, rfl, r1⟩ := r.one
        obtain ⟨a, vs, rfl, h1, h2, h3⟩ := at_rv g e1 r1
        rw [h3.ints e2] at h1
        exact .inl ⟨a, ns, rfl, SqL.of h1, k.flat g (.int _)⟩
      · cases e
  split at hb
  · rename_i hx
    cases hb
    subst hx
    refine s_biF (cr_all hc) hg hm bt_all hn hdb ha hp fun m A A' H vs ws w Q g r e k => ?_
    unfold biW at e
    split at e <;> (try contradiction)
    split at e
    · rename_i ws' e1
      obtain ⟨ns, e2, e3⟩ := Option.map_eq_some_iff.mp e
      cases e3
      obtain ⟨v, rfl, r1⟩ := r.one
      obtain ⟨a, vs, rfl, h1, h2, h3⟩ := at_rv g e1 r1
      rw [h3.bls e2] at h1
      exact ⟨a, ns, rfl, SqL.of h1, k.flat g (.bl _)⟩
    · cases e
  split at hb
  · rename_i hx
    cases hb
    subst hx
    refine s_biF (cr_any hc) hg hm bt_any hn hdb ha hp fun m A A' H vs ws w Q g r e k => ?_
    unfold biW at e
    split at e <;> (try contradiction)
    split at e
    · rename_i ws' e1
      obtain ⟨ns, e2, e3⟩ := Option.map_eq_some_iff.mp e
      cases e3
      obtain ⟨v, rfl, r1⟩ := r.one
      obtain ⟨a, vs, rfl, h1, h2, h3⟩ := at_rv g e1 r1
      rw [h3.bls e2] at h1
      exact ⟨a, ns, rfl, SqL.of h1, k.flat g (.bl _)⟩
    · cases e
  split at hb
  · rename_i hx
    cases hb
    subst hx
    refine s_biF cr_sortedX hg hm bt_sorted hn hdb ha hp fun m A A' H vs ws w Q g r e k => ?_
    unfold biW at e
    split at e <;> (try contradiction)
    split at e
    rotate_left
    · cases e
    rename_i ws' e1
    split at e
    rotate_left
    · cases e
    rename_i h64
    split at e
    · rename_i ns e2
      refine .inl ?_
      obtain ⟨v, rfl, r1⟩ := r.one
      obtain ⟨a, vs, rfl, h1, h2, h3⟩ := at_rv g e1 r1
      have e3 := h3.ints e2
      have hl : ns.length < 64 := by
        have := h3.len
        rw [e3, List.length_map] at this
        omega
      rw [e3] at h1
      refine ⟨a, ns, rfl, SqL.of h1, hl, fun ns' q pm pw nq => ?_⟩
      have e4 : ns' = sortI ns := sorted_one (pm.trans (sortI_perm ns).symm) pw (sortI_sorted ns)
      subst e4
      exact (k.new g e rvL_ints).2 q nq
    · split at e
      rotate_left
      · cases e
      rename_i ks e2
      split at e
      rotate_left
      · cases e
      rename_i nd
      refine .inr ?_
      obtain ⟨v, rfl, r1⟩ := r.one
      obtain ⟨a, vs, rfl, h1, h2, h3⟩ := at_rv g e1 r1
      obtain ⟨ek, sh⟩ := keysW_ok e2
      obtain ⟨k1, k2⟩ := h3.keys sh
      have nk : (vs.map (keyH H)).Nodup := by rw [k1, ← ek]; exact nd
      refine ⟨a, vs, rfl, SqL.of h1, k2, inj_of_nodup nk, fun ys q pw pm nq => ?_⟩
      obtain ⟨us, pu, ru⟩ := RvL.perm pm h3
      have ku := (ru.keys fun w hw => sh w (pu.mem_iff.mp hw)).1
      have pw2 : (us.map keyW0).Pairwise fun a b => a ≤ b := by
        rw [← ku]
        exact List.pairwise_map.mpr pw
      have e4 : us = sortK keyW0 ws' := sortK_one (by rw [← ek]; exact nd) pu (List.pairwise_map.mp pw2)
      subst e4
      exact (k.new g e ru).2 q nq
  split at hb
  · rename_i hx
    cases hb
    subst hx
    refine s_biT call_str_int hg hm bt_str hn hdb ha hp fun m A A' H vs ws w Q g r e k => ?_
    unfold biW at e
    split at e <;> (try contradiction)
    split at e
    · rename_i hl
      cases e
      obtain ⟨v, rfl, r1⟩ := r.one
      exact ⟨_, by rw [r1.theInt], hl, k.flat g (.str _)⟩
    · cases e
  cases hb

def tyS : TY → String
  | .int => "int"
  | .bool => "bool"
  | .tuple => "tuple"
  | .list => "list"
  | .str => "str"
theorem kit_int {K : PySem.W.Frag} : ∀ t : TY, PySem.W.kitOne K (.type "int") (.type (tyS t)) = some (match t with | .int => true | _ => false)
  | .int => kit_ty (by decide +kernel)
  | .bool => kit_ty (by decide +kernel)
  | .tuple => kit_ty (by decide +kernel)
  | .list => kit_ty (by decide +kernel)
  | .str => kit_ty (by decide +kernel)
theorem kit_bool {K : PySem.W.Frag} : ∀ t : TY, PySem.W.kitOne K (.type "bool") (.type (tyS t)) = some (match t with | .int => true | .bool => true | _ => false)
  | .int => kit_ty (by decide +kernel)
  | .bool => kit_ty (by decide +kernel)
  | .tuple => kit_ty (by decide +kernel)
  | .list => kit_ty (by decide +kernel)
  | .str => kit_ty (by decide +kernel)
theorem kit_non {K : PySem.W.Frag} : ∀ t : TY, PySem.W.kitOne K (.type "NoneType") (.type (tyS t)) = some false
  | .int => kit_ty (by decide +kernel)
  | .bool => kit_ty (by decide +kernel)
  | .tuple => kit_ty (by decide +kernel)
  | .list => kit_ty (by decide +kernel)
  | .str => kit_ty (by decide +kernel)
theorem kit_str {K : PySem.W.Frag} : ∀ t : TY, PySem.W.kitOne K (.type "str") (.type (tyS t)) = some (match t with | .str => true | _ => false)
  | .int => kit_ty (by decide +kernel)
  | .bool => kit_ty (by decide +kernel)
  | .tuple => kit_ty (by decide +kernel)
  | .list => kit_ty (by decide +kernel)
  | .str => kit_ty (by decide +kernel)
theorem kit_list {K : PySem.W.Frag} : ∀ t : TY, PySem.W.kitOne K (.type "list") (.type (tyS t)) = some (match t with | .list => true | _ => false)
  | .int => kit_ty (by decide +kernel)
  | .bool => kit_ty (by decide +kernel)
  | .tuple => kit_ty (by decide +kernel)
  | .list => kit_ty (by decide +kernel)
  | .str => kit_ty (by decide +kernel)
theorem kit_tuple {K : PySem.W.Frag} : ∀ t : TY, PySem.W.kitOne K (.type "tuple") (.type (tyS t)) = some (match t with | .tuple => true | _ => false)
  | .int => kit_ty (by decide +kernel)
  | .bool => kit_ty (by decide +kernel)
  | .tuple => kit_ty (by decide +kernel)
  | .list => kit_ty (by decide +kernel)
  | .str => kit_ty (by decide +kernel)
theorem isi_kit {K : PySem.W.Frag} {m : List Addr} {A : AH} {H : Hp} {v : V} {d : W} {t : TY} (g : HR m A H) (r : Rv m H v d) : ∃ u, TyX K H v u ∧ PySem.W.kitOne K u (.type (tyS t)) = some (isiW d t) := by
  cases r with
  | non => cases t <;> exact ⟨_, .base .non, kit_non _⟩
  | bl b => cases t <;> exact ⟨_, .base (.bl b), kit_bool _⟩
  | int i => cases t <;> exact ⟨_, .base (.int i), kit_int _⟩
  | str x => cases t <;> exact ⟨_, .base (.str x), kit_str _⟩
  | ref e =>
    obtain ⟨ws, vs, _, h1, _⟩ := g.lst e
    cases t <;> exact ⟨_, .base (.lst h1), kit_list _⟩
  | tup h1 _ _ => cases t <;> exact ⟨_, .base (.tup h1), kit_tuple _⟩
theorem ty_name {t : Str} {T : TY} (h : tyOf t = some T) : bootBuiltins t = some (.type (tyS T)) := by
  unfold tyOf at h
  split at h
  · rename_i e; cases h; subst e; exact bt_int
  split at h
  · rename_i e; cases h; subst e; exact bt_bool
  split at h
  · rename_i e; cases h; subst e; exact bt_tuple
  split at h
  · rename_i e; cases h; subst e; exact bt_list
  split at h
  · rename_i e; cases h; subst e; exact bt_str
  cases h
theorem ty_not {t : Str} {T : TY} (h : tyOf t = some T) : t ≠ "__name__" ∧ (t == ("__debug__" : Str)) = false := by
  unfold tyOf at h
  split at h
  · rename_i e; cases h; subst e; decide +kernel
  split at h
  · rename_i e; cases h; subst e; decide +kernel
  split at h
  · rename_i e; cases h; subst e; decide +kernel
  split at h
  · rename_i e; cases h; subst e; decide +kernel
  split at h
  · rename_i e; cases h; subst e; decide +kernel
  cases h
theorem s_isi {t : Str} {T : TY} {p p2 : Pos} (hT : tyOf t = some T) (hg : Gl X "isinstance") (hm : X.mg "isinstance" = none) (hgt : Gl X t) (hmt : X.mg t = none) (ha : PE X a (tV Φ a')) (hp : plainE a = true) :
    PE X (.Call (.Name "isinstance" p) [a, .Name t p2] [] pos) (tV Φ (.isi a' T)) := by
  have hn := ty_not hT
  refine (pe_callB call_isi hg hm bt_isi (pa_cons ha (pa_cons (pe_bltn (v := .ty (tyS T)) hgt hmt (ty_name hT) rfl hn.1 hn.2) pa_nil) (star_plain hp _ _)) (by decide +kernel) (by decide +kernel) (star_plain hp _ _) (by rfl)).imp fun σ H Q ⟨m, A, ρ, w, A', re, e, k⟩ => ?_
  rw [evH] at e
  split at e
  · rename_i x A1 h1
    cases e
    refine ⟨m, A, ρ, x, _, re, h1, fun v m1 H1 s1 g1 r1 => ?_⟩
    obtain ⟨u, h2, h3⟩ := isi_kit (K := X.K) (t := T) g1 r1
    exact ⟨v, _, u, _, _, rfl, .ty _, h2, h3, (k.on s1).flat g1 (.bl _)⟩
  · cases e
end
end VI
set_option Elab.async false
set_option linter.all false
set_option maxRecDepth 100000
set_option maxHeartbeats 1000000
namespace VI
open PySem PySem.Spec PyProof.Rows L2
theorem rvL_strs {m : List Addr} {H : Hp} : ∀ {ys : List Str}, RvL m H (ys.map V.str) (ys.map W.str)
  | [] => .nil
  | y :: ys => .cons (.str y) rvL_strs
theorem RvL.strs {m : List Addr} {H : Hp} : ∀ {vs : List V} {ws : List W} {ys : List Str}, RvL m H vs ws → strsW ws = some ys → vs = ys.map V.str
  | _, _, ys, .nil, e => by cases e; rfl
  | _, _, ys, .cons r t, e => by
    unfold strsW at e
    split at e
    · contradiction
    · rename_i x r' h
      cases h
      obtain ⟨zs, e1, rfl⟩ := Option.map_eq_some_iff.mp e
      rw [r.theStr, RvL.strs t e1]
      rfl
    · cases e
theorem base_recv {o : Expr} {name : Str} {env : PySem.Env} (h : recvT o = true) : attributeBase o name env (eval o env) = eval o env := by
  cases o with
  | Name => rfl
  | Subscript => rfl
  | Constant c j p => rfl
  | _ => cases h
section
variable {X : Cx} {Φ : Fns} {o e : Expr} {o' e' : XE} {pos apos : Pos}
theorem evs_two {ρ : HEnv} {A A' : AH} {b : BI} {w : W} (h : evH Φ (.bi b (.cons o' (.cons e' .nil))) ρ A = some (w, A')) : ∃ x A1 y A2, evH Φ o' ρ A = some (x, A1) ∧ evH Φ e' ρ A1 = some (y, A2) ∧ biW b [x, y] A2 = some (w, A') := by
  rw [evH, evsH] at h
  cases h1 : evH Φ o' ρ A with
  | none => rw [h1] at h; cases h
  | some p =>
    obtain ⟨x, A1⟩ := p
    rw [h1] at h
    simp only [evsH] at h
    cases h2 : evH Φ e' ρ A1 with
    | none => rw [h2] at h; cases h
    | some p =>
      obtain ⟨y, A2⟩ := p
      rw [h2] at h
      exact ⟨x, A1, y, A2, rfl, h2, h⟩
theorem mt_in {b : BI} {r : V → List V → Hp → VK → Prop} (hx : ∀ x y A p, biW b [x, y] A = some p → ∃ a, x = .str a)
    (hr : ∀ (m : List Addr) (A A' : AH) (H : Hp) (v u : V) (x y w : W) (Q : VK), HR m A H → Rv m H v x → Rv m H u y → biW b [x, y] A = some (w, A') → Kn m H A' w Q → r v [u] H Q) :
    ∀ σ H Q, tV Φ (.bi b (.cons o' (.cons e' .nil))) σ H Q → tM1 r (tV Φ o') (tV Φ e') σ H Q := by
  intro σ H Q ⟨m, A, ρ, w, A', re, e, k⟩
  obtain ⟨x, A1, y, A2, h1, h2, h3⟩ := evs_two e
  obtain ⟨a, rfl⟩ := hx _ _ _ _ h3
  refine ⟨m, A, ρ, _, A1, re, h1, fun v m1 H1 e1 g1 r1 => ⟨⟨a, r1.theStr⟩, m1, A1, ρ, y, A2, re.ex e1 g1, h2, fun u m2 H2 e2 g2 r2 => ?_⟩⟩
  exact hr _ _ _ _ _ _ _ _ _ _ g2 (r1.ex g1 e2) r2 h3 (k.on (e1.trans e2))
theorem biW_split {x y w : W} {A A' : AH} (h : biW .split [x, y] A = some (w, A')) : ∃ a b, x = .str a ∧ y = .str b ∧ (b.length == 0) = false ∧ a.length + 2 ≤ lim ∧ newL ((Txt.split a b).map .str) A = some (w, A') := by
  cases x <;> cases y <;> simp only [biW] at h <;> first | contradiction | skip
  split at h
  · rename_i q
    exact ⟨_, _, rfl, rfl, q.1, q.2, h⟩
  · cases h
theorem biW_part {x y w : W} {A A' : AH} (h : biW .part [x, y] A = some (w, A')) : ∃ a b, x = .str a ∧ y = .str b ∧ (b.length == 0) = false ∧ a.length ≤ lim ∧ w = .tup [.str (Txt.partition a b).1, .str (Txt.partition a b).2.1, .str (Txt.partition a b).2.2] ∧ A' = A := by
  cases x <;> cases y <;> simp only [biW] at h <;> first | contradiction | skip
  split at h
  · rename_i q
    cases h
    exact ⟨_, _, rfl, rfl, q.1, q.2, rfl, rfl⟩
  · cases h
theorem biW_join {x y w : W} {A A' : AH} (h : biW .join [x, y] A = some (w, A')) : ∃ a ws ys, x = .str a ∧ atL y A = some ws ∧ strsW ws = some ys ∧ (ys.map (·.length)).sum + ys.length * a.length ≤ lim ∧ w = .str (Txt.join a ys) ∧ A' = A := by
  cases x <;> simp only [biW] at h <;> first | contradiction | skip
  split at h
  · rename_i ws h1
    split at h
    · rename_i ys h2
      split at h
      · rename_i h3
        cases h
        exact ⟨_, ws, ys, rfl, h1, h2, h3, rfl, rfl⟩
      · cases h
    · cases h
  · cases h
theorem biW_find {x y w : W} {A A' : AH} (h : biW .find [x, y] A = some (w, A')) : ∃ a b, x = .str a ∧ y = .str b ∧ w = .int (Txt.find a b) ∧ A' = A := by
  cases x <;> cases y <;> simp only [biW] at h <;> first | contradiction | skip
  cases h
  exact ⟨_, _, rfl, rfl, rfl, rfl⟩
theorem biW_upper {x w : W} {A A' : AH} (h : biW .upper [x] A = some (w, A')) : ∃ a, x = .str a ∧ a.length ≤ lim ∧ w = .str (Txt.upper a) ∧ A' = A := by
  cases x <;> simp only [biW] at h <;> first | contradiction | skip
  split at h
  · rename_i q
    cases h
    exact ⟨_, rfl, q, rfl, rfl⟩
  · cases h
theorem s_mt {b : BI} {name : Str} (hb : mtOf name = some b) (ho : PE X o (tV Φ o')) (he : PE X e (tV Φ e')) (hr : recvT o = true) (hp : plainE e = true) (hl : (apos.endLine == pos.line) = true) :
    PE X (.Call (.Attribute o name apos) [e] [] pos) (tV Φ (.bi b (.cons o' (.cons e' .nil)))) := by
  have hs : starEach [e] X.env = [(false, eval e X.env)] := star_plain hp [] X.env
  unfold mtOf at hb
  split at hb
  · rename_i hn
    cases hb
    subst hn
    refine (pe_split ho he hs (base_recv hr) hl).imp (mt_in (fun x y A p h => let ⟨a, _, q, _⟩ := biW_split (w := p.1) (A' := p.2) h; ⟨a, q⟩) fun m A A' H v u x y w Q g r1 r2 e k => ?_)
    obtain ⟨a, b, rfl, rfl, q1, q2, q3⟩ := biW_split e
    exact ⟨_, _, r1.theStr, by rw [r2.theStr], q1, Nat.le_trans q2 (by decide), (k.new g q3 rvL_strs).2⟩
  split at hb
  · rename_i hn
    cases hb
    subst hn
    refine (pe_partition ho he hs (base_recv hr) hl).imp (mt_in (fun x y A p h => let ⟨a, _, q, _⟩ := biW_part (w := p.1) (A' := p.2) h; ⟨a, q⟩) fun m A A' H v u x y w Q g r1 r2 e k => ?_)
    obtain ⟨a, b, rfl, rfl, q1, q2, rfl, rfl⟩ := biW_part e
    exact ⟨_, _, r1.theStr, by rw [r2.theStr], q1, Nat.le_trans q2 (by decide), fun p np => k.tup g (by show 3 ≤ lim; unfold lim; decide) (.cons (.str _) (.cons (.str _) (.cons (.str _) .nil))) p np⟩
  split at hb
  · rename_i hn
    cases hb
    subst hn
    refine (pe_join ho he hs (base_recv hr) hl).imp (mt_in (fun x y A p h => let ⟨a, _, _, q, _⟩ := biW_join (w := p.1) (A' := p.2) h; ⟨a, q⟩) fun m A A' H v u x y w Q g r1 r2 e k => ?_)
    obtain ⟨a, ws, ys, rfl, h1, h2, h3, rfl, rfl⟩ := biW_join e
    obtain ⟨p, vs, rfl, q1, q2, q3⟩ := at_rv g h1 r2
    rw [q3.strs h2] at q1
    exact ⟨_, p, ys, r1.theStr, rfl, .inl (SqL.of q1), Nat.le_trans h3 (by decide), k.flat g (.str _)⟩
  split at hb
  · rename_i hn
    cases hb
    subst hn
    refine (pe_m1 F.slot_str_find F.type_str_find mt_find ho he hs (base_recv hr) hl).imp (mt_in (fun x y A p h => let ⟨a, _, q, _⟩ := biW_find (w := p.1) (A' := p.2) h; ⟨a, q⟩) fun m A A' H v u x y w Q g r1 r2 e k => ?_)
    obtain ⟨a, b, rfl, rfl, rfl, rfl⟩ := biW_find e
    exact ⟨_, _, r1.theStr, by rw [r2.theStr], k.flat g (.int _)⟩
  cases hb
theorem s_upper (ho : PE X o (tV Φ o')) (hr : recvT o = true) (hl : (apos.endLine == pos.line) = true) : PE X (.Call (.Attribute o "upper" apos) [] [] pos) (tV Φ (.bi .upper (.cons o' .nil))) := by
  refine (pe_upper ho (base_recv hr) hl).imp fun σ H Q ⟨m, A, ρ, w, A', re, e, k⟩ => ?_
  rw [evH, evsH] at e
  cases h1 : evH Φ o' ρ A with
  | none => rw [h1] at e; cases e
  | some p =>
    obtain ⟨x, A1⟩ := p
    rw [h1] at e
    simp only [evsH] at e
    obtain ⟨a, rfl, h, rfl, rfl⟩ := biW_upper e
    exact ⟨m, A, ρ, _, _, re, h1, fun v m1 H1 e1 g1 r1 => ⟨⟨a, r1.theStr⟩, a, r1.theStr, rfl, Nat.le_trans h (by decide), (k.on e1).flat g1 (.str _)⟩⟩
inductive PF (X : Cx) (Φ : Fns) : List Expr → XEs → Prop
  | nil : PF X Φ [] .nil
  | val {v : Expr} {v' : XE} {p : Pos} {es : List Expr} {as : XEs} (h : PE X v (tV Φ v')) (r : PF X Φ es as) : PF X Φ (.FormattedValue v (-1) none p :: es) (.cons v' as)
  | cst {x : Str} {j : Nat} {p : Pos} {es : List Expr} {as : XEs} (r : PF X Φ es as) : PF X Φ (.Constant (.str x) j p :: es) (.cons (.cst (.str x)) as)
theorem evsH_cons {ρ : HEnv} {A A' : AH} {a : XE} {as : XEs} {ws : List W} (h : evsH Φ (.cons a as) ρ A = some (ws, A')) : ∃ x A1 xs, evH Φ a ρ A = some (x, A1) ∧ evsH Φ as ρ A1 = some (xs, A') ∧ ws = x :: xs := by
  rw [evsH] at h
  split at h
  · rename_i x A1 h1
    split at h
    · rename_i xs A2 h2
      cases h
      exact ⟨x, A1, xs, h1, h2, rfl⟩
    · cases h
  · cases h
theorem pf_js {es : List Expr} {as : XEs} (h : PF X Φ es as) : ∃ ts, PJ X es ts ∧ ∀ (acc : Str) (σ : L2.St) (H : Hp) (Q : Str → Hp → Prop), (∃ m A ρ ws A' z, RE m A ρ σ H ∧ evsH Φ as ρ A = some (ws, A') ∧ partsW acc ws = some z ∧ ∀ m' H', Ex m H m' H' → HR m' A' H' → Q z H') → tJs ts acc σ H Q := by
  induction h with
  | nil =>
    refine ⟨[], .nil, fun acc σ H Q ⟨m, A, ρ, ws, A', z, re, e, ez, k⟩ => ?_⟩
    rw [evsH] at e
    cases e
    cases ez
    exact k m H re.hr.refl re.hr
  | @val v v' p es as hv _ ih =>
    obtain ⟨ts, j, t⟩ := ih
    refine ⟨_ :: ts, .cons (pe_fmt hv) j, fun acc σ H Q ⟨m, A, ρ, ws, A', z, re, e, ez, k⟩ => ?_⟩
    obtain ⟨x, A1, xs, h1, h2, rfl⟩ := evsH_cons e
    refine ⟨m, A, ρ, x, A1, re, h1, fun u m1 H1 e1 g1 r1 => ?_⟩
    cases x with
    | str y =>
      simp only [partsW] at ez
      split at ez
      · rename_i hl
        refine .inl ⟨y, r1.theStr, limOk (by omega), y, rfl, by rw [strLen_append]; exact limOk hl, t _ _ _ _ ⟨m1, A1, ρ, xs, A', z, re.ex e1 g1, h2, ez, fun m2 H2 e2 g2 => k m2 H2 (e1.trans e2) g2⟩⟩
      · cases ez
    | int i =>
      simp only [partsW] at ez
      split at ez
      · rename_i hl
        refine .inr ⟨i, r1.theInt, hl.1, _, rfl, by rw [strLen_append]; exact limOk hl.2, t _ _ _ _ ⟨m1, A1, ρ, xs, A', z, re.ex e1 g1, h2, ez, fun m2 H2 e2 g2 => k m2 H2 (e1.trans e2) g2⟩⟩
      · cases ez
    | _ => simp only [partsW] at ez; cases ez
  | @cst y j p es as _ ih =>
    obtain ⟨ts, j, t⟩ := ih
    refine ⟨_ :: ts, .cons pe_str j, fun acc σ H Q ⟨m, A, ρ, ws, A', z, re, e, ez, k⟩ => ?_⟩
    obtain ⟨x, A1, xs, h1, h2, rfl⟩ := evsH_cons e
    rw [evH] at h1
    cases h1
    simp only [partsW] at ez
    split at ez
    · rename_i hl
      exact ⟨y, rfl, by rw [strLen_append]; exact limOk hl, t _ _ _ _ ⟨m, A, ρ, xs, A', z, re, h2, ez, k⟩⟩
    · cases ez
theorem s_fst {v1 v2 : Expr} {rest : List Expr} {as : XEs} (h : PF X Φ (v1 :: v2 :: rest) as) : PE X (.JoinedStr (v1 :: v2 :: rest) pos) (tV Φ (.bi .fst as)) := by
  obtain ⟨ts, j, t⟩ := pf_js h
  refine (pe_joined j).imp fun σ H Q ⟨m, A, ρ, w, A', re, e, k⟩ => ?_
  rw [evH] at e
  split at e
  · rename_i ws A1 h1
    have : ∃ z, partsW Str.empty ws = some z ∧ w = .str z ∧ A' = A1 := by
      unfold biW at e
      split at e <;> (try contradiction)
      obtain ⟨z, e1, e2⟩ := Option.map_eq_some_iff.mp e
      cases e2
      exact ⟨z, e1, rfl, rfl⟩
    obtain ⟨z, e1, rfl, rfl⟩ := this
    exact t _ _ _ _ ⟨m, A, ρ, ws, _, z, re, h1, e1, fun m' H' e2 g => (k.on e2).flat g (.str _)⟩
  · cases e
end
end VI
set_option Elab.async false
set_option linter.all false
set_option maxRecDepth 100000
set_option maxHeartbeats 1000000
namespace VI
open PySem PySem.Spec PyProof.Rows L2 Sem
theorem own_stack_any {M : Model} {A : Around} {E : Value → Shared → Prop} {s : Shared} {c : Code} {f : Code × Pos → Bool} {Q : Bool → Shared → Prop} (h : ∀ b, Q b s) : wpOwn M A c (do return (← stack).tail.any f) Q E s := fun Γ p _ _ => h (Γ.below.any f)
section
variable {prog : Program} {w : World} {A : Around} {E : Value → Shared → Prop} {s : Shared} {a : Addr} {o : Obj} {items : Array Value} {n : Nat} {ts : List Str}
theorem own_tuple_repr {Q : Fin → Shared → Prop} {c : Code} (ha : s.heap.get? a = some o) (hd : o.data = .seq items n) (hT : ReprAll prog w items.toList ts) (h : ∀ z u tk, Q (.done (.ret (.str z u))) { s with toks := tk }) (hsz : (tupleText ts).length ≤ sizeLine) :
    wpOwn (model prog w) A c (Builtin.tupleReprAt 0 ⟨[.ref a], []⟩) Q E s := by
  rw [tuple_repr_tree, tupleReprUnderWay_eq]
  refine wpOwn_bind (own_stack_any fun b => ?_)
  cases b with
  | false =>
    refine wpOwn_of_wpAny ?_
    simp only [Bool.false_eq_true, if_false]
    exact wpAny_tupleReprRest ha hd hT (fun u tk => h _ u tk) (by omega)
  | true =>
    refine wpOwn_of_wpAny ?_
    simp only [if_true]
    refine wpAny_bind (wpAny_rule ?_)
    unfold retStr
    exact wpAny_bind (wpAny_mkStr (wpAny_pure (h _ _ _)) (by rw [sizeLine_eq]; decide))
theorem call_tuple_repr_any {Q : Value → Shared → Prop} (hTy : s.TypeIs (.ref a) "tuple") (ha : s.heap.get? a = some o) (hd : o.data = .seq items n) (hT : ReprAll prog w items.toList ts) (hQ : ∀ z u tk, Q (.str z u) { s with toks := tk }) (hsz : (tupleText ts).length ≤ sizeLine) :
    wpAny (model prog w) A (call (.builtin "tuple.__repr__") [.ref a]) Q E s :=
  wpAny_call (codeAny_call_builtin_own (Code.quiet_builtin _ (by decide +kernel)) F.entry_tuple_repr (F.slot_tuple_repr.check _ _ _ _ _ _ _ _ hTy (F.args_tuple_repr_1 _) (own_tuple_repr ha hd hT (fun z u tk => hQ z u tk) hsz)))
theorem strOf_tuple_any {Q : Value → Shared → Prop} (hu : A.units + 1 < cLine) (hTy : s.TypeIs (.ref a) "tuple") (ha : s.heap.get? a = some o) (hd : o.data = .seq items n) (hT : ReprAll prog w items.toList ts) (hQ : ∀ z u tk, Q (.str z u) { s with toks := tk }) (hsz : (tupleText ts).length ≤ sizeLine) :
    wpAny (model prog w) A (Builtin.Str.strOf (.ref a)) Q E s :=
  wpAny_strOf_slot rfl hu hTy F.slot_tuple_str F.slot_tuple_repr (call_tuple_repr_any hTy ha hd hT (fun z u tk => ⟨z, u, rfl, hQ z u tk⟩) hsz)
end
theorem str_tuple_any {prog : Program} {w : World} {A : Around} {E : Value → Shared → Prop} {s : Shared} {a : Addr} {o : Obj} {items : Array Value} {n : Nat} {ts : List Str} {Q : Value → Shared → Prop} (hu : A.units + 4 < cLine) (hTy : s.TypeIs (.ref a) "tuple") (ha : s.heap.get? a = some o) (hd : o.data = .seq items n)
    (hT : ∀ prog w, ReprAll prog w items.toList ts) (hQ : ∀ z u tk, Q (.str z u) { s with toks := tk }) (hsz : (tupleText ts).length ≤ sizeLine) : wpAny (model prog w) A (call (.type "str") [.ref a]) Q E s :=
  callType_new F.called_str (by decide) (F.typeCall_str_1 _) (F.newCall_str_1 _) (fun obj => F.args_object_init_2 obj _) F.entry_str_new
    (meets_str_new (S := fun A' R s' => A'.units + 2 < cLine ∧ s'.TypeIs (.ref a) "tuple" ∧ s'.heap.get? a = some o ∧ ∀ z u tk, R (.ok (.ret (.str z u))) { s' with toks := tk })
      fun prog' w' A' R s' h => strOf_tuple_any (by show A'.units + 1 + 1 < cLine; have := h.1; omega) h.2.1 h.2.2.1 hd (hT prog' w') h.2.2.2 hsz)
    ⟨by show A.units + 1 + 2 < cLine; omega, hTy, ha, fun z u tk => ⟨typeIs_str _ _ _, hQ z u tk⟩⟩
theorem pair_len {i j : Int} (hi : i.natAbs.log2 < 1000) (hj : j.natAbs.log2 < 1000) : (tupleText [Str.ofString (toString i), Str.ofString (toString j)]).length ≤ sizeLine := by
  have e1 := int_text_length_le (k := 1000) (by decide) hi
  have e2 := int_text_length_le (k := 1000) (by decide) hj
  have e3 := PySem.ofString_length (toString i)
  have e4 := PySem.ofString_length (toString j)
  have e5 : (Str.join ", " [Str.ofString (toString i), Str.ofString (toString j)]) = Str.ofString (toString i) ++ ", " ++ Str.ofString (toString j) := rfl
  have e6 : ((", " : String) : Str).length = 2 := rfl
  have e7 : (("(" : String) : Str).length = 1 := rfl
  have e8 : ((")" : String) : Str).length = 1 := rfl
  unfold tupleText
  rw [strLen_append, strLen_append, e5, strLen_append, strLen_append, e6, e7]
  show 1 + ((Str.ofString (toString i)).length + 2 + (Str.ofString (toString j)).length) + ((")" : String) : Str).length ≤ sizeLine
  rw [e8, sizeLine_eq]
  omega
theorem call_str_pair {X : Cx} (hu : X.A.units + 64 < cLine) : CallR X (.type "str") (fun xs H Q => ∃ p i j, xs = [.ref p] ∧ SqT X.K H p [.int i, .int j] ∧ i.natAbs.log2 < 1000 ∧ j.natAbs.log2 < 1000 ∧ ∀ z : Str, Q (.str z) H) := by
  intro pins s σ H xs us Q I r h
  obtain ⟨p, i, j, rfl, hq, hi, hj, q⟩ := h
  cases r with
  | cons r0 rr =>
    cases rr
    cases r0
    obtain ⟨its, rv, ⟨o, ho, hc, n, hd⟩, _⟩ := I.tuple hq
    obtain ⟨u1, u2, rfl, r1, r2⟩ := vals2 rv
    obtain ⟨t1, rfl⟩ := r1
    obtain ⟨t2, rfl⟩ := r2
    exact str_tuple_any (ts := [Str.ofString (toString i), Str.ofString (toString j)]) (by omega) ⟨o, ho, hc⟩ ho hd (fun _ _ => .cons (ReprIs.int t1 (by omega)) (.cons (ReprIs.int t2 (by omega)) .nil)) (fun z u tk => ⟨.str z, H, I.tok tk, ⟨u, rfl⟩, q z⟩) (pair_len hi hj)
end VI
set_option Elab.async false
set_option linter.all false
set_option maxRecDepth 100000
set_option maxHeartbeats 1000000
namespace VI
open PySem PySem.Spec PyProof.Rows L2

theorem getset {α : Type} {l : List α} {i j : Nat} {x y : α} (h : (l.set i x)[j]? = some y) : (j = i ∧ x = y ∧ i < l.length) ∨ (j ≠ i ∧ l[j]? = some y) := by
  by_cases e : j = i
  · subst e
    have hl : j < l.length := by
      have := (List.getElem?_eq_some_iff.mp h).1
      simpa using this
    rw [List.getElem?_set_self hl] at h
    exact .inl ⟨rfl, Option.some.inj h, hl⟩
  · rw [List.getElem?_set_ne (Ne.symm e)] at h
    exact .inr ⟨e, h⟩
theorem set_at {α : Type} {l : List α} {i : Nat} {x : α} (h : i < l.length) : (l.set i x)[i]? = some x := List.getElem?_set_self h
theorem set_ne {α : Type} {l : List α} {i j : Nat} {x : α} (h : j ≠ i) : (l.set i x)[j]? = l[j]? := List.getElem?_set_ne (Ne.symm h)
theorem RE.put {m : List Addr} {A : AH} {ρ : HEnv} {σ : L2.St} {H : Hp} {i : Nat} {v : V} {w : W} (re : RE m A ρ σ H) (hi : i < ρ.length) (r : Rv m H v w) : RE m A (ρ.set i (some w)) (σ.set i (some v)) H := by
  refine ⟨re.hr, by simp [re.len], fun j u h => ?_⟩
  rcases getset h with ⟨rfl, e1, _⟩ | ⟨ne, h⟩
  · cases e1
    exact ⟨v, set_at (by rw [re.len]; exact hi), r⟩
  · obtain ⟨v', a, b⟩ := re.get j u h
    exact ⟨v', by rw [set_ne ne]; exact a, b⟩

def gNs : List Nat → TGs
  | [] => gNil
  | i :: is => gCons (gName i) (gNs is)
def tgV (K : PySem.W.Frag) : XT → TG
  | .nm i => gName i
  | .tp js => fun v σ H Q => gTup K js.length (gNs js) v σ H Q ∨ gUnl K js.length (gNs js) v σ H Q
theorem wipe_at (σ : L2.St) : ∀ (us : List Nat) (j : Nat), (wipe σ us)[j]? = if j ∈ us ∧ j < σ.length then some none else σ[j]?
  | [], j => by simp [wipe]
  | u :: us, j => by
    unfold wipe
    by_cases e : u = j
    · subst e
      by_cases hl : u < σ.length
      · rw [List.getElem?_set_self (by rw [wipe_length]; exact hl), if_pos ⟨List.mem_cons_self, hl⟩]
      · rw [List.getElem?_eq_none (by rw [List.length_set, wipe_length]; omega), if_neg fun z => hl z.2, List.getElem?_eq_none (by omega)]
    · rw [List.getElem?_set_ne e, wipe_at σ us j]
      have : j ∈ u :: us ↔ j ∈ us := by simp [Ne.symm e]
      simp only [this]
theorem wipe_set {σ : L2.St} {us : List Nat} {i : Nat} {x : Option V} (h : i ∈ us) : wipe (σ.set i x) us = wipe σ us := by
  apply List.ext_getElem?
  intro j
  rw [wipe_at, wipe_at, List.length_set]
  by_cases e : j ∈ us ∧ j < σ.length
  · rw [if_pos e, if_pos e]
  · rw [if_neg e, if_neg e]
    by_cases ej : i = j
    · subst ej
      have hl : ¬ i < σ.length := fun z => e ⟨h, z⟩
      rw [List.getElem?_eq_none (by rw [List.length_set]; omega), List.getElem?_eq_none (by omega)]
    · rw [List.getElem?_set_ne ej]
theorem gNs_ok {m : List Addr} {A : AH} {H : Hp} : ∀ {js : List Nat} {ds : List W} {vs : List V} {ρ ρ' : HEnv} {σ : L2.St} {Q : L2.St → Hp → Prop}, RE m A ρ σ H → setAllW ρ js ds = some ρ' → RvL m H vs ds →
    (∀ σ', RE m A ρ' σ' H → (∀ us : List Nat, (∀ j ∈ js, j ∈ us) → wipe σ' us = wipe σ us) → Q σ' H) → gNs js vs σ H Q
  | [], [], _, ρ, ρ', σ, Q, re, e, .nil, k => by
    cases e
    exact ⟨rfl, k σ re fun _ _ => rfl⟩
  | i :: is, d :: ds, _, ρ, ρ', σ, Q, re, e, .cons h r, k => by
    simp only [setAllW] at e
    split at e
    · rename_i hi
      refine ⟨_, _, rfl, ?_⟩
      refine gNs_ok (re.put hi h) e r fun σ' re' hw => k σ' re' fun us hu => ?_
      rw [hw us fun j hj => hu j (List.mem_cons_of_mem _ hj)]
      exact wipe_set (hu i List.mem_cons_self)
    · cases e
  | [], _ :: _, _, _, _, _, _, _, e, _, _ => by cases e
  | _ :: _, [], _, _, _, _, _, _, e, _, _ => by cases e
theorem setAllW_len : ∀ (js : List Nat) (ds : List W) (ρ ρ' : HEnv), setAllW ρ js ds = some ρ' → js.length = ds.length := by
  intro js
  induction js with
  | nil => intro ds ρ ρ' e; cases ds <;> first | rfl | cases e
  | cons j js ih =>
    intro ds ρ ρ' e
    cases ds with
    | nil => cases e
    | cons d ds =>
      simp only [setAllW] at e
      split at e
      · simp [ih _ _ _ e]
      · cases e
theorem tgV_ok {K : PySem.W.Frag} {m : List Addr} {A : AH} {H : Hp} {t : XT} {d : W} {v : V} {ρ ρ' : HEnv} {σ : L2.St} {Q : L2.St → Hp → Prop} (re : RE m A ρ σ H) (e : setTW ρ t d A = some ρ') (r : Rv m H v d)
    (k : ∀ σ', RE m A ρ' σ' H → (∀ us : List Nat, tgIn t us = true → wipe σ' us = wipe σ us) → Q σ' H) : tgV K t v σ H Q := by
  cases t with
  | nm i =>
    simp only [setTW] at e
    split at e
    · rename_i hi
      cases e
      refine k _ (re.put hi r) fun us hu => wipe_set (by simpa [tgIn] using hu)
    · cases e
  | tp js =>
    have hw : ∀ {us : List Nat} {σ' : L2.St}, (∀ us : List Nat, (∀ j ∈ js, j ∈ us) → wipe σ' us = wipe σ us) → tgIn (.tp js) us = true → wipe σ' us = wipe σ us := fun {us σ'} hw hu => hw us fun j hj => by
      have := List.all_eq_true.mp (show js.all (fun i => us.contains i) = true from hu) j hj
      simpa using this
    simp only [setTW] at e
    split at e
    · cases r with
      | tup h l r =>
      exact .inl ⟨_, _, rfl, SqT.of h, by rw [r.len]; exact (setAllW_len _ _ _ _ e).symm, gNs_ok re e r fun σ' re' h1 => k σ' re' fun us hu => hw h1 hu⟩
    · split at e
      · rename_i n ws hws
        cases r with
        | ref q =>
        obtain ⟨vs, h, l, r⟩ := re.hr.cell _ _ _ q hws
        exact .inr ⟨_, _, rfl, SqL.of h, by rw [r.len]; exact (setAllW_len _ _ _ _ e).symm, gNs_ok re e r fun σ' re' h1 => k σ' re' fun us hu => hw h1 hu⟩
      · cases e
    · cases e

def Wk (m1 : List Addr) (H1 : Hp) (J : It) (ws : List W) (g : Gd) : Prop := ∀ (i : Nat) (m : List Addr) (A : AH) (H : Hp), Ex m1 H1 m H → HR m A H → gOk g A → (i < ws.length → J.go i H) ∧ (ws.length ≤ i → J.stop i H) ∧
  ∀ x H', J.yld i H x H' → ∀ w, ws[i]? = some w → Ex m H m H' ∧ HR m A H' ∧ Rv m H' x w
def tVI (Φ : Fns) (it : XI) : TI := fun σ H R => ∃ m A ρ ws g A', RE m A ρ σ H ∧ eviH Φ it ρ A = some (ws, g, A') ∧ ∀ J m' H', Ex m H m' H' → HR m' A' H' → Wk m' H' J ws g → R J H'
section
variable {m1 : List Addr} {H1 : Hp} {K : PySem.W.Frag} {A1 : AH}
theorem gOk_one {n : Nat} {ws : List W} {g : Gd} {A : AH} (h : gOk g A) (hm : (n, ws) ∈ g) : A[n]? = some ws := h _ hm
theorem wk_list {p : Addr} {n : Nat} {ws : List W} {g : Gd} (h : m1[n]? = some p) (hg : (n, ws) ∈ g) : Wk m1 H1 (Itl K p) ws g := fun i m A H e hr go => by
  obtain ⟨vs, h1, _, r⟩ := hr.cell _ _ _ (e.pre _ _ h) (gOk_one go hg)
  refine ⟨fun hi => ?_, fun hi => ⟨vs, SqL.of h1, by rw [r.len]; exact hi⟩, fun x H' ⟨e1, e2⟩ d hd => ?_⟩
  · have hi' : i < vs.length := by rw [r.len]; exact hi
    exact ⟨vs, vs[i], SqL.of h1, List.getElem?_eq_getElem hi'⟩
  · subst e1
    refine ⟨hr.refl, hr, ?_⟩
    obtain ⟨v, q1, q2⟩ := r.get hd
    have := e2 vs (SqL.of h1)
    rw [q1] at this
    cases this
    exact q2
theorem wk_tup {p : Addr} {vs : List V} {ws : List W} {g : Gd} (h0 : HR m1 A1 H1) (h : H1 p = some (.tup vs)) (r : RvL m1 H1 vs ws) : Wk m1 H1 (Itt K p) ws g := fun i m A H e hr go => by
  have h1 := e.keep p _ (h0.noT h) h
  refine ⟨fun hi => ?_, fun hi => ⟨vs, SqT.of h1, by rw [r.len]; exact hi⟩, fun x H' ⟨e1, e2⟩ d hd => ?_⟩
  · have hi' : i < vs.length := by rw [r.len]; exact hi
    exact ⟨vs, vs[i], SqT.of h1, List.getElem?_eq_getElem hi'⟩
  · subst e1
    refine ⟨hr.refl, hr, ?_⟩
    obtain ⟨v, q1, q2⟩ := r.get hd
    have := e2 vs (SqT.of h1)
    rw [q1] at this
    cases this
    exact q2.ex h0 e
theorem wk_rng {lo : Int} {n : Nat} {g : Gd} : Wk m1 H1 (Itr lo n) ((List.range n).map fun (k : Nat) => .int (lo + (k : Int))) g := fun i m A H e hr go => by
  refine ⟨fun hi => (by show i < n; simpa using hi), fun hi => (by show n ≤ i; simpa using hi), fun x H' ⟨e1, e2⟩ d hd => ?_⟩
  subst e1 e2
  refine ⟨hr.refl, hr, ?_⟩
  rw [List.getElem?_map, Option.map_eq_some_iff] at hd
  obtain ⟨k, h1, rfl⟩ := hd
  obtain ⟨h2, h3⟩ := List.getElem?_eq_some_iff.mp h1
  simp at h3
  subst h3
  exact .int _
theorem wk_rngC {lo c : Int} {n : Nat} {g : Gd} : Wk m1 H1 (Itc lo c n) ((List.range n).map fun (k : Nat) => .int (lo + (k : Int) * c)) g := fun i m A H e hr go => by
  refine ⟨fun hi => (by show i < n; simpa using hi), fun hi => (by show n ≤ i; simpa using hi), fun x H' ⟨e1, e2⟩ d hd => ?_⟩
  subst e1 e2
  refine ⟨hr.refl, hr, ?_⟩
  rw [List.getElem?_map, Option.map_eq_some_iff] at hd
  obtain ⟨k, h1, rfl⟩ := hd
  obtain ⟨h2, h3⟩ := List.getElem?_eq_some_iff.mp h1
  simp at h3
  subst h3
  exact .int _
theorem wk_zip {p q : Addr} {n k : Nat} {ws us : List W} {g : Gd} (h : m1[n]? = some p) (hg : (n, ws) ∈ g) (h' : m1[k]? = some q) (hg' : (k, us) ∈ g) : Wk m1 H1 (Itz K p q) (List.zipWith (fun x y => .tup [x, y]) ws us) g := fun i m A H e hr go => by
  obtain ⟨vs, hp, _, r⟩ := hr.cell _ _ _ (e.pre _ _ h) (gOk_one go hg)
  obtain ⟨vs', hq, _, r'⟩ := hr.cell _ _ _ (e.pre _ _ h') (gOk_one go hg')
  refine ⟨fun hi => ?_, fun hi => ⟨vs, vs', SqL.of hp, SqL.of hq, ?_⟩, fun x H' ⟨T, x1, x2, e1, e2, e3, f1, f2⟩ d hd => ?_⟩
  · have hi1 : i < vs.length := by rw [r.len]; simp at hi; omega
    have hi2 : i < vs'.length := by rw [r'.len]; simp at hi; omega
    exact ⟨vs, vs', vs[i], vs'[i], SqL.of hp, SqL.of hq, List.getElem?_eq_getElem hi1, List.getElem?_eq_getElem hi2⟩
  · simp at hi
    rw [r.len, r'.len]
    omega
  · subst e1 e3
    obtain ⟨ex, hr'⟩ := Ex.other (o := .tup [x1, x2]) hr e2
    refine ⟨ex, hr', ?_⟩
    rw [List.getElem?_zipWith] at hd
    cases hd1 : ws[i]? with
    | none => rw [hd1] at hd; cases hd
    | some d1 =>
      cases hd2 : us[i]? with
      | none => rw [hd1, hd2] at hd; cases hd
      | some d2 =>
        rw [hd1, hd2] at hd
        cases hd
        obtain ⟨v1, g1, g2⟩ := r.get hd1
        obtain ⟨v2, g3, g4⟩ := r'.get hd2
        have a1 := f1 vs (SqL.of hp)
        have a2 := f2 vs' (SqL.of hq)
        rw [g1] at a1
        rw [g3] at a2
        cases a1
        cases a2
        exact .tup upd_same (by show 2 ≤ lim; decide) (.cons (g2.ex hr ex) (.cons (g4.ex hr ex) .nil))
theorem enuW_get : ∀ {ds : List W} {k i : Nat} {d : W}, (enuW k ds)[i]? = some d → ∃ x, ds[i]? = some x ∧ d = .tup [.int ((k + i : Nat) : Int), x]
  | _ :: _, k, 0, d, h => by simp [enuW] at h; exact ⟨_, rfl, h.symm⟩
  | _ :: ds, k, i + 1, d, h => by
    simp only [enuW, List.getElem?_cons_succ] at h
    obtain ⟨x, h1, h2⟩ := enuW_get h
    refine ⟨x, by simpa using h1, ?_⟩
    rw [h2, show k + 1 + i = k + (i + 1) by omega]
  | [], k, i, d, h => by simp [enuW] at h
theorem enuW_len : ∀ (ds : List W) (k : Nat), (enuW k ds).length = ds.length
  | [], _ => rfl
  | _ :: ds, k => by simp [enuW, enuW_len ds]
theorem wk_enu {p : Addr} {n : Nat} {ws : List W} {g : Gd} (h : m1[n]? = some p) (hg : (n, ws) ∈ g) : Wk m1 H1 (Ite K p) (enuW 0 ws) g := fun i m A H e hr go => by
  obtain ⟨vs, hp, _, r⟩ := hr.cell _ _ _ (e.pre _ _ h) (gOk_one go hg)
  refine ⟨fun hi => ?_, fun hi => ⟨vs, SqL.of hp, ?_⟩, fun x H' ⟨T, x1, e1, e2, e3, f1⟩ d hd => ?_⟩
  · have hi1 : i < vs.length := by rw [r.len]; rw [enuW_len] at hi; exact hi
    exact ⟨vs, vs[i], SqL.of hp, List.getElem?_eq_getElem hi1⟩
  · rw [enuW_len] at hi
    rw [r.len]
    exact hi
  · subst e1 e3
    obtain ⟨ex, hr'⟩ := Ex.other (o := .tup [.int (i : Nat), x1]) hr e2
    refine ⟨ex, hr', ?_⟩
    obtain ⟨d1, hd1, rfl⟩ := enuW_get hd
    obtain ⟨v1, g1, g2⟩ := r.get hd1
    have a1 := f1 vs (SqL.of hp)
    rw [g1] at a1
    cases a1
    rw [Nat.zero_add]
    exact .tup upd_same (by show 2 ≤ lim; decide) (.cons (.int _) (.cons (g2.ex hr ex) .nil))
theorem wk_enz {p q : Addr} {n k : Nat} {ws us : List W} {g : Gd} (h : m1[n]? = some p) (hg : (n, ws) ∈ g) (h' : m1[k]? = some q) (hg' : (k, us) ∈ g) : Wk m1 H1 (Itez K p q) (enuW 0 (List.zipWith (fun x y => .tup [x, y]) ws us)) g := fun i m A H e hr go => by
  obtain ⟨vs, hp, _, r⟩ := hr.cell _ _ _ (e.pre _ _ h) (gOk_one go hg)
  obtain ⟨vs', hq, _, r'⟩ := hr.cell _ _ _ (e.pre _ _ h') (gOk_one go hg')
  refine ⟨fun hi => ?_, fun hi => ⟨vs, vs', SqL.of hp, SqL.of hq, ?_⟩, fun x H' ⟨P, T, x1, x2, e1, e2, e3, e4, e5, f1, f2⟩ d hd => ?_⟩
  · rw [enuW_len] at hi
    have hi1 : i < vs.length := by rw [r.len]; simp at hi; omega
    have hi2 : i < vs'.length := by rw [r'.len]; simp at hi; omega
    exact ⟨vs, vs', vs[i], vs'[i], SqL.of hp, SqL.of hq, List.getElem?_eq_getElem hi1, List.getElem?_eq_getElem hi2⟩
  · rw [enuW_len] at hi
    simp at hi
    rw [r.len, r'.len]
    omega
  · subst e1 e5
    obtain ⟨ex1, hr1⟩ := Ex.other (o := .tup [x1, x2]) hr e2
    have e3' : upd H P (.tup [x1, x2]) T = none := by rw [upd_ne e4.symm]; exact e3
    obtain ⟨ex2, hr2⟩ := Ex.other (o := .tup [.int (i : Nat), .ref P]) hr1 e3'
    refine ⟨ex1.trans ex2, hr2, ?_⟩
    obtain ⟨d', hd', rfl⟩ := enuW_get hd
    rw [List.getElem?_zipWith] at hd'
    cases hd1 : ws[i]? with
    | none => rw [hd1] at hd'; cases hd'
    | some d1 =>
      cases hd2 : us[i]? with
      | none => rw [hd1, hd2] at hd'; cases hd'
      | some d2 =>
        rw [hd1, hd2] at hd'
        cases hd'
        obtain ⟨v1, g1, g2⟩ := r.get hd1
        obtain ⟨v2, g3, g4⟩ := r'.get hd2
        have a1 := f1 vs (SqL.of hp)
        have a2 := f2 vs' (SqL.of hq)
        rw [g1] at a1
        rw [g3] at a2
        cases a1
        cases a2
        rw [Nat.zero_add]
        have t1 : Rv m (upd H P (.tup [x1, x2])) (.ref P) (.tup [d1, d2]) := .tup upd_same (by show 2 ≤ lim; decide) (.cons (g2.ex hr ex1) (.cons (g4.ex hr ex1) .nil))
        exact .tup upd_same (by show 2 ≤ lim; decide) (.cons (.int _) (.cons (t1.ex hr1 ex2) .nil))
end
end VI
set_option Elab.async false
set_option linter.all false
set_option maxRecDepth 100000
set_option maxHeartbeats 1000000
namespace VI
open PySem PySem.Spec PyProof.Rows L2
theorem _root_.L2.PTs.imp {X : Cx} {e : List Expr} {t t' : TT} (h : PTs X e t) (k : ∀ σ H Q, t' σ H Q → t σ H Q) : PTs X e t' := ⟨fun pins s σ H Q I q => h.run pins s σ H Q I (k σ H Q q)⟩
section
variable {X : Cx} {Φ : Fns} {a b c : Expr} {a' b' c' : XE} {pos p : Pos} {tg : Expr}
theorem pi_run {it : XI} {w : TI} (h : PI X tg a w) (k : ∀ σ H R, tVI Φ it σ H R → w σ H R) : PI X tg a (tVI Φ it) := ⟨fun pins s σ H R I q => h.run pins s σ H R I (k σ H R q)⟩
theorem wk_str {K : PySem.W.Frag} {m1 : List Addr} {H1 : Hp} {x : Str} {g : Gd} : Wk m1 H1 (Its x) (x.cps.toList.map fun c => .str ⟨#[c]⟩) g := fun i m A H e hr go => by
  refine ⟨fun hi => (by show i < x.cps.size; simpa using hi), fun hi => (by show x.cps.size ≤ i; simpa using hi), fun v H' ⟨e1, c, hc, e2⟩ d hd => ?_⟩
  subst e1 e2
  refine ⟨hr.refl, hr, ?_⟩
  rw [List.getElem?_map, Option.map_eq_some_iff] at hd
  obtain ⟨k, h1, rfl⟩ := hd
  rw [Array.getElem?_toList, hc] at h1
  cases h1
  exact .str _
theorem s_seq (ha : PE X a (tV Φ a')) : PI X tg a (tVI Φ (.seq a')) := by
  refine ⟨fun pins s σ H R I ⟨m, A, ρ, ws, g, A', re, e, k⟩ => ?_⟩
  rw [eviH] at e
  split at e
  · rename_i n A1 h1
    split at e
    · rename_i us hus
      cases e
      refine (pi_list ha).run pins s σ H R I ⟨m, A, ρ, _, _, re, h1, fun v m1 H1 e1 g1 r1 => ?_⟩
      cases r1 with
      | ref q =>
      obtain ⟨vs, g2, _, _⟩ := g1.cell _ _ _ q hus
      exact ⟨_, rfl, ⟨vs, SqL.of g2⟩, k _ m1 H1 e1 g1 (wk_list q (by simp))⟩
    · cases e
  · rename_i us A1 h1
    cases e
    refine (pi_tup ha).run pins s σ H R I ⟨m, A, ρ, _, _, re, h1, fun v m1 H1 e1 g1 r1 => ?_⟩
    cases r1 with
    | tup q l r => exact ⟨_, rfl, ⟨_, SqT.of q⟩, k _ m1 H1 e1 g1 (wk_tup g1 q r)⟩
  · rename_i x A1 h1
    split at e
    · cases e
      refine (pi_str ha).run pins s σ H R I ⟨m, A, ρ, _, _, re, h1, fun v m1 H1 e1 g1 r1 => ?_⟩
      exact ⟨x, r1.theStr, k _ m1 H1 e1 g1 (wk_str (K := X.K))⟩
    · cases e
  · cases e
def lenE : XEs → Nat
  | .nil => 0
  | .cons _ as => lenE as + 1
theorem evsH_len {as : XEs} : ∀ {ρ : HEnv} {A A' : AH} {ws : List W}, evsH Φ as ρ A = some (ws, A') → ws.length = lenE as := by
  induction as using XEs.rec (motive_1 := fun _ => True) (motive_3 := fun _ => True) with
  | nil => intro ρ A A' ws e; rw [evsH] at e; cases e; rfl
  | cons a as _ ih =>
    intro ρ A A' ws e
    rw [evsH] at e
    split at e
    · split at e
      · rename_i h
        cases e
        simp [lenE, ih h]
      · cases e
    · cases e
  | _ => trivial
theorem rng1 {out : List W} {n : W} (e : rngW [n] = some out) : ∃ i : Int, n = .int i ∧ i ≤ 1000000 ∧ -1000000 ≤ i ∧ out = (List.range i.toNat).map fun (k : Nat) => .int (0 + (k : Int)) := by
  cases n <;> simp only [rngW] at e <;> try cases e
  split at e
  · rename_i h
    cases e
    exact ⟨_, rfl, h.1, h.2, by simp⟩
  · cases e
theorem rng2 {out : List W} {n m : W} (e : rngW [n, m] = some out) : ∃ i j : Int, n = .int i ∧ m = .int j ∧ i ≤ 1000000 ∧ -1000000 ≤ i ∧ j ≤ 1000000 ∧ -1000000 ≤ j ∧ out = (List.range (j - i).toNat).map fun (k : Nat) => .int (i + (k : Int)) := by
  cases n <;> cases m <;> simp only [rngW] at e <;> try cases e
  split at e
  · rename_i h
    cases e
    exact ⟨_, _, rfl, rfl, h.1, h.2.1, h.2.2.1, h.2.2.2, rfl⟩
  · cases e
theorem rangeSize_posC {len c : Int} (hc : 1 ≤ c) (hl : 0 ≤ len) : Builtin.Range.rangeSize 0 len c = (len + c - 1) / c := by
  unfold Builtin.Range.rangeSize
  rw [if_pos (by omega)]
  split
  · have e : len + c - 1 = (len - 0 - 1) + 1 * c := by omega
    rw [e, Int.add_mul_ediv_right _ _ (by omega)]
  · have e0 : len = 0 := by omega
    subst e0
    rw [Int.ediv_eq_zero_of_lt (by omega) (by omega)]
theorem ediv_bnd {b c : Int} (hc : 0 < c) (hb : 0 ≤ b) : 0 ≤ (b + c - 1) / c ∧ (b + c - 1) / c * c ≤ b + c - 1 := ⟨Int.ediv_nonneg (by omega) (by omega), Int.ediv_mul_le _ (by omega)⟩
theorem rngC_pos {b c : Int} (hc : 0 < c) (hc1 : c ≤ 1000000) (hb : 0 ≤ b) (hb1 : b ≤ 1000000) : RgC 0 b c ((b + c - 1) / c).toNat := by
  obtain ⟨h0, h1⟩ := ediv_bnd hc hb
  have h2 : (b + c - 1) / c ≤ b + c - 1 := by
    have h3 : (b + c - 1) / c * 1 ≤ (b + c - 1) / c * c := Int.mul_le_mul_of_nonneg_left (by omega) h0
    omega
  refine ⟨by omega, by omega, ?_, ?_⟩
  · unfold Builtin.Range.small
    rw [rangeSize_posC (by omega) hb]
    simp only [Builtin.Range.rangeFitsLong, Bool.and_eq_true, Bool.or_eq_true, decide_eq_true_eq, beq_iff_eq]
    have h3 : (b + c - 1) / c * c ≤ 2000000 := by omega
    have h4 : 0 ≤ (b + c - 1) / c * c := Int.mul_nonneg h0 (by omega)
    have h5 : ((b + c - 1) / c - 1) * c = (b + c - 1) / c * c - c := by rw [Int.sub_mul, Int.one_mul]
    refine ⟨?_, .inr ?_⟩
    · first | omega | (split <;> omega)
    · rw [if_pos hc, Bool.and_eq_true, decide_eq_true_eq, decide_eq_true_eq]
      omega
  · rw [rangeSize_posC (by omega) hb]
    omega
theorem rng3 {out : List W} {n m l : W} (e : rngW [n, m, l] = some out) : ∃ (i j c : Int) (k : Nat), n = .int i ∧ m = .int j ∧ l = .int c ∧ RgC i j c k ∧ out = (List.range k).map fun (k : Nat) => .int (i + (k : Int) * c) := by
  cases n <;> cases m <;> cases l <;> simp only [rngW] at e <;> try cases e
  rename_i i j c
  split at e
  · rename_i hc
    subst hc
    split at e
    · rename_i h
      cases e
      refine ⟨i, j, -1, (i - j).toNat, rfl, rfl, rfl, RgC.neg (by omega) (by omega) (by omega) (by omega), List.map_congr_left fun k _ => ?_⟩
      congr 1
      omega
    · cases e
  · split at e
    · rename_i h
      cases e
      obtain ⟨h1, h2, h3, h4, h5⟩ := h
      subst h3
      refine ⟨0, j, c, _, rfl, rfl, rfl, rngC_pos h1 h2 h4 h5, List.map_congr_left fun k _ => ?_⟩
      congr 1
      omega
    · cases e
theorem s_rng1 (hg : Gl X "range") (hm : X.mg "range" = none) (ha : PE X a (tV Φ a')) (hp : plainE a = true) : PI X tg (.Call (.Name "range" p) [a] [] pos) (tVI Φ (.rng (.cons a' .nil))) := by
  refine pi_run (pi_range1 hg hm (s_cons ha s_nil hp) (star_plain hp [] X.env)) fun σ H R ⟨m, A, ρ, ws, g, A', re, e, k⟩ => ?_
  rw [eviH] at e
  split at e
  · rename_i es A1 h1
    obtain ⟨out, e0, e2⟩ := Option.map_eq_some_iff.mp e
    cases e2
    clear e
    refine ⟨m, A, ρ, es, _, re, h1, fun vs m1 H1 e1 g1 r1 => ?_⟩
    have hl := evsH_len h1
    match es, hl with
    | [x], _ =>
      obtain ⟨i, rfl, q1, q2, rfl⟩ := rng1 e0
      obtain ⟨v, rfl, r2⟩ := r1.one
      exact ⟨i, by rw [r2.theInt], by omega, by omega, k _ m1 H1 e1 g1 wk_rng⟩
  · cases e
theorem s_rng2 (hg : Gl X "range") (hm : X.mg "range" = none) (ha : PE X a (tV Φ a')) (hp : plainE a = true) (hb : PE X b (tV Φ b')) (hp2 : plainE b = true) : PI X tg (.Call (.Name "range" p) [a, b] [] pos) (tVI Φ (.rng (.cons a' (.cons b' .nil)))) := by
  refine pi_run (pi_range2 hg hm (s_cons ha (s_cons hb s_nil hp2) hp) (by rw [star_plain hp, star_plain hp2]; rfl) (star_plain hp2 [] X.env)) fun σ H R ⟨m, A, ρ, ws, g, A', re, e, k⟩ => ?_
  rw [eviH] at e
  split at e
  · rename_i es A1 h1
    obtain ⟨out, e0, e2⟩ := Option.map_eq_some_iff.mp e
    cases e2
    clear e
    refine ⟨m, A, ρ, es, _, re, h1, fun vs m1 H1 e1 g1 r1 => ?_⟩
    have hl := evsH_len h1
    match es, hl with
    | [x, y], _ =>
      obtain ⟨i, j, rfl, rfl, q1, q2, q3, q4, rfl⟩ := rng2 e0
      obtain ⟨v, w, rfl, r2, r3⟩ := r1.two
      exact ⟨i, j, by rw [r2.theInt, r3.theInt], ⟨by omega, by omega, by omega, by omega⟩, k _ m1 H1 e1 g1 wk_rng⟩
  · cases e
theorem s_rng3 (hg : Gl X "range") (hm : X.mg "range" = none) (ha : PE X a (tV Φ a')) (hp : plainE a = true) (hb : PE X b (tV Φ b')) (hp2 : plainE b = true) (hc : PE X c (tV Φ c')) (hp3 : plainE c = true) :
    PI X tg (.Call (.Name "range" p) [a, b, c] [] pos) (tVI Φ (.rng (.cons a' (.cons b' (.cons c' .nil))))) := by
  refine pi_run (pi_range3 hg hm (s_cons ha (s_cons hb (s_cons hc s_nil hp3) hp2) hp) (star_plain hp [b, c] X.env) (star_any fun e he => by simp at he; rcases he with rfl | rfl <;> assumption)) fun σ H R ⟨m, A, ρ, ws, g, A', re, e, k⟩ => ?_
  rw [eviH] at e
  split at e
  · rename_i es A1 h1
    obtain ⟨out, e0, e2⟩ := Option.map_eq_some_iff.mp e
    cases e2
    clear e
    refine ⟨m, A, ρ, es, _, re, h1, fun vs m1 H1 e1 g1 r1 => ?_⟩
    have hl := evsH_len h1
    match es, hl with
    | [x, y, z], _ =>
      obtain ⟨i, j, cc, n, rfl, rfl, rfl, q, rfl⟩ := rng3 e0
      obtain ⟨v, w, u, rfl, r2, r3, r4⟩ := r1.three
      exact ⟨i, j, cc, n, by rw [r2.theInt, r3.theInt, r4.theInt], q, k _ m1 H1 e1 g1 wk_rngC⟩
  · cases e
theorem s_zip {es : List Expr} {kk : Nat} {tp : Pos} (hg : Gl X "zip") (hm : X.mg "zip" = none) (ha : PE X a (tV Φ a')) (hp : plainE a = true) (hb : PE X b (tV Φ b')) (hp2 : plainE b = true) : PI X (.Tuple es kk tp) (.Call (.Name "zip" p) [a, b] [] pos) (tVI Φ (.zip a' b')) := by
  refine pi_run (pi_zip hg hm (pa_cons ha (pa_cons hb pa_nil (star_plain hp2 [] X.env)) (star_plain hp [b] X.env)) (star_plain hp [b] X.env) (star_any fun e he => by simp at he; subst he; assumption)) fun σ H R ⟨m, A, ρ, ws, g, A', re, e, k⟩ => ?_
  rw [eviH] at e
  split at e
  · rename_i n A1 h1
    split at e
    · rename_i n2 A2 h2
      split at e
      · rename_i xs ys q1 q2
        cases e
        refine ⟨m, A, ρ, _, _, re, h1, fun v m1 H1 e1 g1 r1 => ⟨m1, A1, ρ, _, _, re.ex e1 g1, h2, fun w m2 H2 e2 g2 r2 => ?_⟩⟩
        cases r1.ex g1 e2 with
        | ref p1 =>
        cases r2 with
        | ref p2 =>
        obtain ⟨vs, a1, _, _⟩ := g2.cell _ _ _ p1 q1
        obtain ⟨us, b1, _, _⟩ := g2.cell _ _ _ p2 q2
        exact ⟨_, _, vs, us, rfl, SqL.of a1, SqL.of b1, k _ m2 H2 (e1.trans e2) g2 (wk_zip p1 (by simp) p2 (by simp))⟩
      · cases e
    · cases e
  · cases e
theorem s_enz {es : List Expr} {kk : Nat} {tp p2 pos2 : Pos} (hge : Gl X "enumerate") (hme : X.mg "enumerate" = none) (hg : Gl X "zip") (hm : X.mg "zip" = none) (ha : PE X a (tV Φ a')) (hp : plainE a = true) (hb : PE X b (tV Φ b')) (hp2 : plainE b = true) : PI X (.Tuple es kk tp) (.Call (.Name "enumerate" p2) [.Call (.Name "zip" p) [a, b] [] pos] [] pos2) (tVI Φ (.enz a' b')) := by
  refine pi_run (pi_enz hge hme hg hm (pa_cons ha (pa_cons hb pa_nil (star_plain hp2 [] X.env)) (star_plain hp [b] X.env)) (star_plain hp [b] X.env) (fun _ => star_any fun e he => by simp at he; subst he; assumption) (star_plain rfl [] X.env)) fun σ H R ⟨m, A, ρ, ws, g, A', re, e, k⟩ => ?_
  rw [eviH] at e
  split at e
  · rename_i n A1 h1
    split at e
    · rename_i n2 A2 h2
      split at e
      · rename_i xs ys q1 q2
        cases e
        refine ⟨m, A, ρ, _, _, re, h1, fun v m1 H1 e1 g1 r1 => ⟨m1, A1, ρ, _, _, re.ex e1 g1, h2, fun w m2 H2 e2 g2 r2 => ?_⟩⟩
        cases r1.ex g1 e2 with
        | ref p1 =>
        cases r2 with
        | ref p2 =>
        obtain ⟨vs, a1, _, _⟩ := g2.cell _ _ _ p1 q1
        obtain ⟨us, b1, _, _⟩ := g2.cell _ _ _ p2 q2
        exact ⟨_, _, vs, us, rfl, SqL.of a1, SqL.of b1, k _ m2 H2 (e1.trans e2) g2 (wk_enz p1 (by simp) p2 (by simp))⟩
      · cases e
    · cases e
  · cases e
theorem s_enu {es : List Expr} {kk : Nat} {tp : Pos} (hg : Gl X "enumerate") (hm : X.mg "enumerate" = none) (ha : PE X a (tV Φ a')) (hp : plainE a = true) : PI X (.Tuple es kk tp) (.Call (.Name "enumerate" p) [a] [] pos) (tVI Φ (.enu a')) := by
  refine pi_run (pi_enum hg hm (pa_cons ha pa_nil (star_plain hp [] X.env)) (star_plain hp [] X.env)) fun σ H R ⟨m, A, ρ, ws, g, A', re, e, k⟩ => ?_
  rw [eviH] at e
  split at e
  · rename_i n A1 h1
    split at e
    · rename_i us hus
      cases e
      refine ⟨m, A, ρ, _, _, re, h1, fun v m1 H1 e1 g1 r1 => ?_⟩
      cases r1 with
      | ref q =>
      obtain ⟨vs, g2, _, _⟩ := g1.cell _ _ _ q hus
      exact ⟨_, vs, rfl, SqL.of g2, k _ m1 H1 e1 g1 (wk_enu q (by simp))⟩
    · cases e
  · cases e
end

theorem wipeW_len {ρ : HEnv} : ∀ vs : List Nat, (wipeW ρ vs).length = ρ.length
  | [] => rfl
  | v :: vs => by unfold wipeW; rw [List.length_set, wipeW_len vs]
theorem wipeW_get {ρ : HEnv} {i : Nat} {x : W} : ∀ {vs : List Nat}, (wipeW ρ vs)[i]? = some (some x) → ρ[i]? = some (some x) ∧ i ∉ vs
  | [], h => ⟨h, by simp⟩
  | v :: vs, h => by
    unfold wipeW at h
    rcases getset h with ⟨_, e, _⟩ | ⟨ne, h⟩
    · cases e
    · obtain ⟨h1, h2⟩ := wipeW_get h
      exact ⟨h1, by simp only [List.mem_cons, not_or]; exact ⟨ne, h2⟩⟩
theorem RE.wipe {m : List Addr} {A : AH} {ρ : HEnv} {σ : L2.St} {H : Hp} {vs : List Nat} (re : RE m A ρ σ H) : RE m A (wipeW ρ vs) (L2.wipe σ vs) H := by
  refine ⟨re.hr, by rw [wipe_length, wipeW_len, re.len], fun i w h => ?_⟩
  obtain ⟨h1, h2⟩ := wipeW_get h
  obtain ⟨v, a, b⟩ := re.get i w h1
  exact ⟨v, by rw [wipe_at, if_neg fun z => h2 z.1]; exact a, b⟩
noncomputable def lcFH (Φ : Fns) (ρ : HEnv) (vs : List Nat) (tg : XT) (tt elt : XE) : W → AH → Option (Option W × AH) := fun w A => match setTW (wipeW ρ vs) tg w A with
  | some ρ1 => match evH Φ tt ρ1 A with
    | some (.bl true, A3) => match evH Φ elt ρ1 A3 with
      | some (x, A4) => some (some x, A4)
      | none => none
    | some (.bl false, A3) => some (none, A3)
    | _ => none
  | none => none
theorem evH_lc {Φ : Fns} {vs : List Nat} {tg : XT} {it : XI} {tt elt : XE} {ρ : HEnv} {A : AH} : evH Φ (.lc vs tg it tt elt) ρ A = match eviH Φ it ρ A with
    | some (ws, g, A1) => if ws.length ≤ lim then match lcW (lcFH Φ ρ vs tg tt elt) g ws A1 with
      | some (r, A2) => newL r A2
      | none => none else none
    | none => none := by
  rw [evH]
  rfl
theorem lcW_guard {f : W → AH → Option (Option W × AH)} {g : Gd} {ws : List W} {A : AH} {r : List W × AH} (h : lcW f g ws A = some r) : gOk g A := by
  cases ws <;> unfold lcW at h <;> split at h <;> first | assumption | cases h
theorem Ex.side {m1 m : List Addr} {H1 H : Hp} {p : Addr} {o : HO} (e : Ex m1 H1 m H) (n1 : H1 p = none) (np : ∀ n : Nat, m[n]? ≠ some p) : Ex m1 H1 m (upd H p o) := by
  refine ⟨e.pre, e.new, fun a u nb q => ?_, fun n a q z => ?_⟩
  · rw [upd_ne (fun z => by rw [z, n1] at q; cases q)]
    exact e.keep a u nb q
  · rw [upd_ne (fun z => np n (by rw [← z]; exact q))] at z
    exact e.al n a q z
mutual
theorem Rv.side {m : List Addr} {H : Hp} {p : Addr} {acc : List V} {o : HO} (hp : H p = some (.lst acc)) : ∀ {v : V} {w : W}, Rv m H v w → Rv m (upd H p o) v w
  | _, _, .non => .non
  | _, _, .bl b => .bl b
  | _, _, .int i => .int i
  | _, _, .str x => .str x
  | _, _, .tup q l r => .tup (by rw [upd_ne (fun z => by rw [z, hp] at q; cases q)]; exact q) l (RvL.side hp r)
  | _, _, .ref q => .ref q
theorem RvL.side {m : List Addr} {H : Hp} {p : Addr} {acc : List V} {o : HO} (hp : H p = some (.lst acc)) : ∀ {vs : List V} {ws : List W}, RvL m H vs ws → RvL m (upd H p o) vs ws
  | _, _, .nil => .nil
  | _, _, .cons q r => .cons (Rv.side hp q) (RvL.side hp r)
end
theorem HR.side {m : List Addr} {A : AH} {H : Hp} {p : Addr} {acc : List V} {o : HO} (h : HR m A H) (hp : H p = some (.lst acc)) (np : ∀ n : Nat, m[n]? ≠ some p) : HR m A (upd H p o) :=
  ⟨h.len, h.nd, fun n a ws e f => let ⟨vs, a1, a2, a3⟩ := h.cell n a ws e f; ⟨vs, by rw [upd_ne (fun z => np n (by rw [← z]; exact e))]; exact a1, a2, a3.side hp⟩⟩
mutual
theorem Rv.more {m m' : List Addr} {H : Hp} (e : ∀ (n : Nat) (a : Addr), m[n]? = some a → m'[n]? = some a) : ∀ {v : V} {w : W}, Rv m H v w → Rv m' H v w
  | _, _, .non => .non
  | _, _, .bl b => .bl b
  | _, _, .int i => .int i
  | _, _, .str x => .str x
  | _, _, .tup q l r => .tup q l (RvL.more e r)
  | _, _, .ref q => .ref (e _ _ q)
theorem RvL.more {m m' : List Addr} {H : Hp} (e : ∀ (n : Nat) (a : Addr), m[n]? = some a → m'[n]? = some a) : ∀ {vs : List V} {ws : List W}, RvL m H vs ws → RvL m' H vs ws
  | _, _, .nil => .nil
  | _, _, .cons q r => .cons (Rv.more e q) (RvL.more e r)
end
theorem app1 {α : Type} {l : List α} {x y : α} {n : Nat} (e : (l ++ [x])[n]? = some y) : (n < l.length ∧ l[n]? = some y) ∨ (n = l.length ∧ y = x) := by
  by_cases hn : n < l.length
  · rw [List.getElem?_append_left hn] at e
    exact .inl ⟨hn, e⟩
  · rw [List.getElem?_append_right (by omega)] at e
    cases hk : n - l.length with
    | zero => rw [hk] at e; simp at e; exact .inr ⟨by omega, e.symm⟩
    | succ k => rw [hk] at e; simp at e
theorem app1_pre {α : Type} {l : List α} {x : α} (n : Nat) (y : α) (e : l[n]? = some y) : (l ++ [x])[n]? = some y := by
  rw [List.getElem?_append_left (List.getElem?_eq_some_iff.mp e).1]; exact e
theorem adopt {m0 m : List Addr} {A : AH} {H0 H : Hp} {p : Addr} {vs : List V} {ws : List W} (e : Ex m0 H0 m H) (h : HR m A H) (n0 : H0 p = none) (np : ∀ n : Nat, m[n]? ≠ some p) (hp : H p = some (.lst vs)) (l : vs.length ≤ lim) (r : RvL m H vs ws) :
    Ex m0 H0 (m ++ [p]) H ∧ HR (m ++ [p]) (A ++ [ws]) H := by
  refine ⟨⟨fun n a q => app1_pre n a (e.pre n a q), fun n a q l => ?_, e.keep, fun n a q => ?_⟩, by rw [List.length_append, List.length_append, h.len]; rfl, fun i j a q q' => ?_, fun n a us q f => ?_⟩
  · rcases app1 q with ⟨_, q⟩ | ⟨_, rfl⟩
    · exact e.new n a q l
    · exact n0
  · rcases app1 q with ⟨_, q⟩ | ⟨_, rfl⟩
    · exact e.al n a q
    · rw [hp]; exact fun z => nomatch z
  · rcases app1 q with ⟨_, q1⟩ | ⟨q1, q2⟩ <;> rcases app1 q' with ⟨_, f1⟩ | ⟨f1, f2⟩
    · exact h.nd i j a q1 f1
    · subst f2; exact (np i q1).elim
    · subst q2; exact (np j f1).elim
    · omega
  · rcases app1 q with ⟨_, q1⟩ | ⟨q1, q2⟩
    · rw [List.getElem?_append_left (by rw [← h.len]; exact (List.getElem?_eq_some_iff.mp q1).1)] at f
      obtain ⟨us', g1, g2, g3⟩ := h.cell n a us q1 f
      exact ⟨us', g1, g2, g3.more app1_pre⟩
    · subst q1 q2
      rw [h.len, List.getElem?_append_right (Nat.le_refl _)] at f
      simp at f
      subst f
      exact ⟨vs, hp, l, r.more app1_pre⟩
theorem Ex.free {m m' : List Addr} {H H' : Hp} {p : Addr} (e : Ex m H m' H') (h : H' p = none) : H p = none := by
  cases h0 : H p with
  | none => rfl
  | some o =>
    by_cases hm : ∃ n : Nat, m[n]? = some p
    · obtain ⟨n, hn⟩ := hm
      exact (e.al n p (e.pre n p hn) h).elim
    · have := e.keep p o (fun n z => hm ⟨n, z⟩) h0
      rw [h] at this
      cases this
theorem Ex.not {m m' : List Addr} {H H' : Hp} {p : Addr} {o : HO} (e : Ex m H m' H') (hp : H p = some o) (np : ∀ n : Nat, m[n]? ≠ some p) (n : Nat) : m'[n]? ≠ some p := fun z => by
  by_cases hl : n < m.length
  · have := e.pre n _ (List.getElem?_eq_getElem hl)
    rw [z] at this
    exact np n (by rw [List.getElem?_eq_getElem hl]; exact this.symm)
  · have := e.new n _ z (by omega)
    rw [hp] at this
    cases this
theorem lc_in {Φ : Fns} {K : PySem.W.Frag} {vs : List Nat} {tg : XT} {it : XI} {tt elt : XE} (hv : tgIn tg vs = true) : ∀ σ H Q, tV Φ (.lc vs tg it tt elt) σ H Q → tLc (tVI Φ it) (tgV K tg) (tVT Φ tt) (tV Φ elt) vs σ H Q := by
  intro σ H Q ⟨m, A, ρ, w, A', re, e, k⟩
  rw [evH_lc] at e
  split at e
  rotate_left
  · cases e
  rename_i ws g A1 h1
  split at e
  rotate_left
  · cases e
  rename_i hl
  split at e
  rotate_left
  · cases e
  rename_i out A2 ho
  refine ⟨m, A, ρ, ws, g, A1, re, h1, fun J m1 H1 s1 g1 wk Dl nD => ?_⟩
  obtain ⟨exD, hrD⟩ := Ex.other (o := .lst []) g1 nD
  have re1 := re.ex s1 g1
  have nD1 : ∀ n : Nat, m1[n]? ≠ some Dl := g1.no nD
  refine ⟨fun i n Hh => n = ws.length - i ∧ i ≤ ws.length ∧ ∃ mi Ai, Ex m1 H1 mi Hh ∧ HR mi Ai Hh ∧ (∀ n : Nat, mi[n]? ≠ some Dl) ∧ ∃ acc pre post, Hh Dl = some (.lst acc) ∧ acc.length ≤ i ∧ RvL mi Hh acc pre ∧ lcW (lcFH Φ ρ vs tg tt elt) g (ws.drop i) Ai = some (post, A2) ∧ out = pre ++ post,
    ⟨ws.length, by simp, Nat.zero_le _, m1, A1, exD, hrD, nD1, [], [], out, upd_same, Nat.le_refl _, .nil, by simpa using ho, rfl⟩, ?_⟩
  rintro i n Hh ⟨rfl, hi, mi, Ai, si, gi, ni, acc, pre, post, hD, ha, hr, hgo, rfl⟩
  obtain ⟨w1, w2, w3⟩ := wk i mi Ai Hh si gi (lcW_guard hgo)
  by_cases hlt : i < ws.length
  · refine .inr ⟨w1 hlt, fun H' => ∃ mi Ai, Ex m1 H1 mi H' ∧ HR mi Ai H' ∧ (∀ n : Nat, mi[n]? ≠ some Dl) ∧ ∃ acc pre' post', H' Dl = some (.lst acc) ∧ acc.length ≤ i + 1 ∧ RvL mi H' acc pre' ∧ lcW (lcFH Φ ρ vs tg tt elt) g (ws.drop (i + 1)) Ai = some (post', A2) ∧ pre ++ post = pre' ++ post',
      fun H' q => ⟨ws.length - (i + 1), by omega, rfl, hlt, q⟩, fun x H' hy => ?_⟩
    have hd : ws[i]? = some ws[i] := List.getElem?_eq_getElem hlt
    obtain ⟨s2, g2, rx⟩ := w3 x H' hy _ hd
    have hD' := s2.keep _ _ ni hD
    have reb : RE mi Ai (wipeW ρ vs) (L2.wipe σ vs) H' := (re1.ex (si.trans s2) g2).wipe
    rw [List.drop_eq_getElem_cons hlt] at hgo
    unfold lcW at hgo
    split at hgo
    rotate_left
    · cases hgo
    generalize hfx : lcFH Φ ρ vs tg tt elt ws[i] Ai = fx at hgo
    unfold lcFH at hfx
    cases hs : setTW (wipeW ρ vs) tg ws[i] Ai with
    | none => rw [hs] at hfx; subst hfx; cases hgo
    | some ρ1 =>
      rw [hs] at hfx
      dsimp only at hfx
      refine tgV_ok reb hs rx fun σ2 re2 hw => ⟨?_, ?_⟩
      · rw [hw vs hv]
        apply List.ext_getElem?
        intro j
        rw [wipe_at, wipe_at]
        by_cases ej : j ∈ vs ∧ j < (L2.wipe σ vs).length
        · rw [if_pos ej, if_pos ⟨ej.1, by rw [← wipe_length σ vs]; exact ej.2⟩]
        · rw [if_neg ej, if_neg fun z => ej ⟨z.1, by rw [wipe_length]; exact z.2⟩]
      · split at hfx
        · rename_i A3 ht
          refine ⟨mi, Ai, ρ1, true, A3, re2, ht, fun m3 H3 s3 g3 => ?_⟩
          refine iteT ?_
          have hn3 := s3.not hD' ni
          have hD3 := s3.keep _ _ ni hD'
          split at hfx
          · rename_i y A4 he
            subst hfx
            dsimp only at hgo
            split at hgo
            rotate_left
            · cases hgo
            rename_i post' A5 hpost
            cases hgo
            refine ⟨m3, A3, ρ1, y, A4, re2.ex s3 g3, he, fun v m4 H4 s4 g4 r4 => ?_⟩
            have hn4 := s4.not hD3 hn3
            have hD4 := s4.keep _ _ hn3 hD3
            have ex4 := ((si.trans s2).trans s3).trans s4
            refine ⟨acc, hD4, limLt (by omega), m4, A4, ex4.side nD hn4, g4.side hD4 hn4, hn4, acc ++ [v], pre ++ [y], post', upd_same, by simp; omega, ?_, hpost, by simp⟩
            exact ((((hr.ex gi s2).ex g2 s3).ex g3 s4).app (.cons r4 .nil)).side hD4
          · subst hfx; cases hgo
        · rename_i A3 ht
          subst hfx
          dsimp only at hgo
          refine ⟨mi, Ai, ρ1, false, A3, re2, ht, fun m3 H3 s3 g3 => ?_⟩
          refine iteF ?_
          exact ⟨m3, A3, (si.trans s2).trans s3, g3, s3.not hD' ni, acc, pre, post, s3.keep _ _ ni hD', by omega, (hr.ex gi s2).ex g2 s3, hgo, rfl⟩
        · subst hfx; cases hgo
  · have hi : i = ws.length := by omega
    subst hi
    refine .inl ⟨w2 (Nat.le_refl _), ?_⟩
    rw [List.drop_length] at hgo
    unfold lcW at hgo
    split at hgo <;> cases hgo
    rw [List.append_nil] at e
    unfold newL at e
    split at e <;> cases e
    have hal : acc.length ≤ lim := by omega
    obtain ⟨e5, h5⟩ := adopt (s1.trans si) gi (s1.free nD) ni hD hal hr
    exact k _ _ Hh e5 h5 (.ref (by rw [← gi.len]; simp))
end VI
set_option Elab.async false
set_option linter.all false
set_option maxRecDepth 100000
set_option maxHeartbeats 4000000
namespace VI
open PySem PySem.Spec PyProof.Rows L2
def bnames : List Str := ["len", "abs", "int", "max", "list", "tuple", "sum", "all", "any", "sorted", "isinstance", "bool", "str", "range", "zip", "enumerate"]
def GcOk (gc : List (Str × D)) (mg : Str → Option Value) : Prop := ∀ x d, gc.lookup x = some d → ∃ (w : W) (v : V) (u : Value), cstW d = some w ∧ (∀ m H, Rv m H v w) ∧ mg x = some u ∧ RelV v u
theorem GcOk.nil {mg : Str → Option Value} : GcOk [] mg := fun x d h => by cases h
structure Cok (Φ : Fns) (c : Co) (k : Nat) (X : Cx) : Prop where
  hN : X.N = c.N
  hsc : X.env.scope = c.sc
  hfn : X.fn = c.fn
  calm : X.calm = true
  nd : X.N.Nodup
  kind : c.sc.kind = .function
  room : Room k X.A
  tab : ∀ f φ, Φ f = some φ → FnH X.prog X.w X.K X.mg X.base k f φ
  blt : ∀ x ∈ bnames, X.mg x = none
  xe : X.xe = fun _ _ => False
  div : DivOk X
  gc : GcOk c.gc X.mg
theorem ixS_get {x : Str} : ∀ {l : List Str} {i : Nat}, ixS x l = some i → l[i]? = some x
  | [], _, h => by cases h
  | y :: r, i, h => by
    unfold ixS at h
    split at h
    · rename_i e
      cases h
      subst e
      rfl
    · rw [Option.map_eq_some_iff] at h
      obtain ⟨j, h1, rfl⟩ := h
      simpa using ixS_get h1
theorem visB_ok {sc : Scope} {x : Str} (h : visB sc x = true) : Vis sc x := by
  unfold visB at h
  split at h
  · exact .inl (by assumption)
  · exact .inr (.inl (by assumption))
  · exact .inr (.inr (by assumption))
  · cases h
theorem glB_ok {sc : Scope} {x : Str} (h : glB sc x = true) : sc.names.lookup x = some .globalImplicit := by
  unfold glB at h
  split at h
  · assumption
  · cases h
section
variable {Φ : Fns} {c : Co} {k : Nat} {X : Cx}
theorem Cok.gl (ok : Cok Φ c k X) {x : Str} (h : glB c.sc x = true) : Gl X x := by
  have := glB_ok h
  unfold Gl Env.kindOf
  rw [ok.hsc]
  exact this
theorem Cok.hu (ok : Cok Φ c k X) : X.A.units + 65 < cLine := by have := ok.room.un; omega
theorem Cok.blk (ok : Cok Φ c k X) {scope : Scope} {own : List (Str × Nat)} (hb : blkC c.N c.sc scope own = true) (s : Shared) (H : Hp) (C : Addr) (cl : List (Str × Addr)) (fp : List Addr) :
    Cok Φ ⟨c.N, relSc scope c.sc, fun x => scope.names.lookup x == some .cell, c.gc⟩ k (X.blk s H scope (compEnvC scope cl C X.env) fp) := by
  refine ⟨ok.hN, ?_, rfl, ok.calm, ok.nd, (blkOk_by hb).kind, ok.room, ok.tab, ok.blt, rfl, ⟨ok.div.seer, ok.div.tree, ok.div.stk, ok.div.deep⟩, ok.gc⟩
  show relS scope X.env.scope = relSc scope c.sc
  rw [ok.hsc]
  rfl
theorem locB_ok {x : Str} (ok : Cok Φ c k X) (h : locB c x = true) : Loc X.env.scope x ∧ (X.fn x = true ∨ X.env.scope.names.lookup x = some .local) := by
  unfold locB at h
  rw [ok.hsc, ok.hfn]
  split at h
  · rename_i e
    exact ⟨.inl e, .inr e⟩
  · rename_i e
    exact ⟨.inr e, .inl h⟩
  · cases h
theorem s_ns (ok : Cok Φ c k X) : ∀ {es : List Expr} {js : List Nat}, trNs c es = some js → PGs X es (gNs js) ∧ (assignEach es X.env).length = js.length ∧ (assignEach es X.env).findIdx? (·.1) = none
  | [], js, h => by
    cases h
    exact ⟨pgs_nil, rfl, rfl⟩
  | e :: es, js, h => by
    cases e with
    | Name x p =>
      unfold trNs at h
      split at h
      · rename_i hl
        split at h
        · rename_i i is h1 h2
          cases h
          obtain ⟨a, b, d⟩ := s_ns ok h2
          obtain ⟨l1, l2⟩ := locB_ok ok hl
          refine ⟨pgs_cons (pg_name ok.nd (by rw [ok.hN]; exact ixS_get h1) l1 l2) a rfl, ?_, ?_⟩
          · show (assignEach es X.env).length + 1 = is.length + 1
            rw [b]
          · show List.findIdx? (·.1) ((false, assign (.Name x p) X.env) :: assignEach es X.env) = none
            rw [List.findIdx?_cons, d]
            rfl
        · cases h
      · cases h
    | _ => cases h
theorem s_tg (ok : Cok Φ c k X) {e : Expr} {t : XT} (h : trTg c e = some t) : PG X e (tgV X.K t) := by
  cases e with
  | Name x p =>
    simp only [trTg] at h
    split at h
    · rename_i hl
      rw [Option.map_eq_some_iff] at h
      obtain ⟨i, h1, rfl⟩ := h
      obtain ⟨l1, l2⟩ := locB_ok ok hl
      exact pg_name ok.nd (by rw [ok.hN]; exact ixS_get h1) l1 l2
    · cases h
  | Tuple es kk p =>
    simp only [trTg] at h
    rw [Option.map_eq_some_iff] at h
    obtain ⟨js, h1, rfl⟩ := h
    obtain ⟨a, b, d⟩ := s_ns ok h1
    have h1 := pg_tup (k := kk) (pos := p) ok.calm a b d
    have h2 := pg_unl (k := kk) (pos := p) ok.calm a b d
    exact ⟨fun pins s σ H v u Q I r hw => hw.elim (h1.run pins s σ H v u Q I r) (h2.run pins s σ H v u Q I r)⟩
  | _ => cases h
theorem plain_of {n : Nat} {e : Expr} {e' : XE} (h : trE n c e = some e') : plainE e = true := by
  cases n with
  | zero => simp [trE] at h
  | succ n => cases e <;> first | rfl | (simp only [trE] at h; cases h)
structure Snd (Φ : Fns) (n : Nat) : Prop where
  e : ∀ c X k, Cok Φ c k X → ∀ e e', trE n c e = some e' → PE X e (tV Φ e')
  t : ∀ c X k, Cok Φ c k X → ∀ e e', trE n c e = some e' → PT X e (tVT Φ e')
  w : ∀ c X k, Cok Φ c k X → ∀ op vs p e', trE n c (.BoolOp op vs p) = some e' → PW X (.BoolOp op vs p) (tVT Φ e')
  a : ∀ c X k, Cok Φ c k X → ∀ as as', trEs n c as = some as' → PA X as (tVA Φ as') ∧ ∀ e ∈ as, plainE e = true
  i : ∀ c X k, Cok Φ c k X → ∀ e tg i, trI n c e tg = some i → PI X tg e (tVI Φ i) ∧ plainE e = true
  f : ∀ c X k, Cok Φ c k X → ∀ es as', trFs n c es = some as' → PF X Φ es as'

theorem snd_f {n : Nat} (S : Snd Φ n) (ok : Cok Φ c k X) {es : List Expr} {as' : XEs} (h : trFs (n + 1) c es = some as') : PF X Φ es as' := by
  cases es with
  | nil =>
    simp only [trFs] at h
    cases h
    exact .nil
  | cons e r =>
    cases e with
    | FormattedValue v q o p =>
      cases o with
      | none =>
        simp only [trFs] at h
        split at h
        · rename_i hq
          subst hq
          split at h
          · rename_i v' r' h1 h2
            cases h
            exact .val (S.e c X k ok _ _ h1) (S.f c X k ok _ _ h2)
          · cases h
        · cases h
      | some _ => simp only [trFs] at h; cases h
    | Constant q j p =>
      cases q with
      | str x =>
        simp only [trFs] at h
        obtain ⟨r', h2, rfl⟩ := Option.map_eq_some_iff.mp h
        exact .cst (S.f c X k ok _ _ h2)
      | _ => simp only [trFs] at h; cases h
    | _ => simp only [trFs] at h; cases h
theorem snd_w {n : Nat} (S : Snd Φ n) (ok : Cok Φ c k X) {op : BoolOp} {vs : List Expr} {p : Pos} {e' : XE} (h : trE (n + 1) c (.BoolOp op vs p) = some e') : PW X (.BoolOp op vs p) (tVT Φ e') := by
  cases op with
  | And =>
    match vs with
    | [] => simp only [trE] at h; cases h
    | [a] =>
      simp only [trE] at h
      split at h
      · exact pw_and1 (S.t c X k ok a e' h)
      · cases h
    | a :: b :: r =>
      simp only [trE] at h
      split at h
      · rename_i a' b' h1 h2
        cases h
        exact s_andW (S.t c X k ok a a' h1) (S.w c X k ok _ _ _ _ h2)
      · cases h
  | Or =>
    match vs with
    | [] => simp only [trE] at h; cases h
    | [a] =>
      simp only [trE] at h
      split at h
      · exact pw_or1 (S.t c X k ok a e' h)
      · cases h
    | a :: b :: r =>
      simp only [trE] at h
      split at h
      · rename_i a' b' h1 h2
        cases h
        exact s_orW (S.t c X k ok a a' h1) (S.w c X k ok _ _ _ _ h2)
      · cases h

theorem _root_.L2.PE.noE {X : Cx} {e : Expr} {t' : TE} (k : ∀ σ H Q, t' σ H Q → False) : PE X e t' := .no k
theorem slo {n : Nat} (S : Snd Φ n) (ok : Cok Φ c k X) {lo : Option Expr} {l' : XE} (h : (match lo with
    | none => some (XE.cst .none)
    | some l => (trE n c l).filter fun l' => !isNoneE l' : Option XE) = some l') : PO X lo (tPt Φ l') := by
  cases lo with
  | none =>
    cases h
    exact s_po0
  | some l =>
    have h : (trE n c l).filter (fun l' => !isNoneE l') = some l' := h
    rw [Option.filter_eq_some_iff] at h
    exact s_po (S.e c X k ok l l' h.1) (by simpa using h.2)
theorem bi_in_names {x : Str} {f : BI} (h : biOf x = some f) : x ∈ bnames := by
  unfold biOf at h
  unfold bnames
  repeat' (split at h; · rename_i e; subst e; simp)
  cases h
theorem ty_in_names {x : Str} {f : TY} (h : tyOf x = some f) : x ∈ bnames := by
  unfold tyOf at h
  unfold bnames
  repeat' (split at h; · rename_i e; subst e; simp)
  cases h
theorem snd_e {n : Nat} (S : Snd Φ n) (ok : Cok Φ c k X) {e : Expr} {e' : XE} (h : trE (n + 1) c e = some e') : PE X e (tV Φ e') := by
  cases e with
  | Name x p =>
    simp only [trE] at h
    split at h
    · rename_i hh
      rw [Option.map_eq_some_iff] at h
      obtain ⟨i, h1, rfl⟩ := h
      refine s_var (by rw [ok.hN]; exact ixS_get h1) (by rw [ok.hsc]; exact visB_ok hh.1) hh.2.1 hh.2.2
    · split at h
      · rename_i hh
        rw [Option.map_eq_some_iff] at h
        obtain ⟨d, h1, rfl⟩ := h
        obtain ⟨w, v, u, q1, q2, q3, q4⟩ := ok.gc x d h1
        exact s_cst (pe_glob (glB_ok (by rw [ok.hsc]; exact hh.1)) q3 q4 hh.2) q1 q2
      · cases h
  | Constant v kk p =>
    cases v with
    | int i => simp only [trE] at h; cases h; exact s_cst pe_int rfl (fun m H => .int i)
    | bool i => simp only [trE] at h; cases h; exact s_cst pe_bl rfl (fun m H => .bl i)
    | none => simp only [trE] at h; cases h; exact s_cst pe_non rfl (fun m H => .non)
    | str i => simp only [trE] at h; cases h; exact s_cst pe_str rfl (fun m H => .str i)
    | _ => simp only [trE] at h; cases h
  | BinOp a op b p =>
    simp only [trE] at h
    split at h
    · rename_i a' b' h1 h2
      cases h
      exact s_bin ok.div (S.e c X k ok a a' h1) (S.e c X k ok b b' h2)
    · cases h
  | UnaryOp op a p =>
    cases op with
    | USub =>
      simp only [trE] at h
      rw [Option.map_eq_some_iff] at h
      obtain ⟨a', h1, rfl⟩ := h
      exact s_neg (S.e c X k ok a a' h1)
    | Not =>
      simp only [trE] at h
      rw [Option.map_eq_some_iff] at h
      obtain ⟨a', h1, rfl⟩ := h
      exact s_not (S.e c X k ok a a' h1)
    | _ => simp only [trE] at h; cases h
  | BoolOp op vs p =>
    cases op with
    | And =>
      match vs with
      | [] => simp only [trE] at h; cases h
      | [a] =>
        simp only [trE] at h
        split at h
        · exact pe_one (S.e c X k ok a e' h)
        · cases h
      | a :: b :: r =>
        simp only [trE] at h
        split at h
        · rename_i a' b' h1 h2
          cases h
          exact s_and (S.e c X k ok a a' h1) (S.e c X k ok _ _ h2)
        · cases h
    | Or =>
      match vs with
      | [] => simp only [trE] at h; cases h
      | [a] =>
        simp only [trE] at h
        split at h
        · exact pe_one (S.e c X k ok a e' h)
        · cases h
      | a :: b :: r =>
        simp only [trE] at h
        split at h
        · rename_i a' b' h1 h2
          cases h
          exact s_or (S.e c X k ok a a' h1) (S.e c X k ok _ _ h2)
        · cases h
  | Compare a ops cs p =>
    match ops, cs with
    | [op], [b] =>
      simp only [trE] at h
      split at h
      · rename_i hh
        split at h
        · rename_i a' b' h1 h2
          cases h
          exact s_cmp ok.hu (S.e c X k ok a a' h1) (S.e c X k ok b b' h2) hh.1
        · cases h
      · cases h
    | [op, op'], [b, d] =>
      simp only [trE] at h
      split at h
      · rename_i hh
        split at h
        · rename_i a' b' d' h1 h2 h3
          cases h
          exact s_chn ok.hu (S.e c X k ok a a' h1) (S.e c X k ok b b' h2) (S.e c X k ok d d' h3) hh.2.1
        · cases h
      · cases h
    | [], _ => simp only [trE] at h; cases h
    | [_], [] => simp only [trE] at h; cases h
    | [_], _ :: _ :: _ => simp only [trE] at h; cases h
    | [_, _], [] => simp only [trE] at h; cases h
    | [_, _], [_] => simp only [trE] at h; cases h
    | [_, _], _ :: _ :: _ :: _ => simp only [trE] at h; cases h
    | _ :: _ :: _ :: _, _ => simp only [trE] at h; cases h
  | Call f as kw p =>
    cases kw with
    | cons _ _ => simp only [trE] at h; cases h
    | nil =>
      cases f with
      | Name f q =>
        simp only [trE] at h
        split at h
        · rename_i hh
          have hg := ok.gl hh.1
          split at h
          · rename_i hi
            subst hi
            split at h
            · rename_i a t q2
              split at h
              · rename_i hp
                split at h
                · rename_i a' T h1 h2
                  cases h
                  exact s_isi h2 hg (ok.blt _ (by decide +kernel)) (ok.gl hp.2) (ok.blt _ (ty_in_names h2)) (S.e c X k ok a a' h1) hp.1
                · cases h
              · cases h
            · cases h
          · split at h
            · rename_i b hb
              split at h
              · cases h
              · rename_i hne
                rw [Option.map_eq_some_iff] at h
                obtain ⟨as', h1, rfl⟩ := h
                obtain ⟨pa, pp⟩ := S.a c X k ok as as' h1
                cases as with
                | nil => exact (hne rfl).elim
                | cons e es => exact s_bi hb ok.calm hg (ok.blt _ (bi_in_names hb)) hh.2.2 hh.2.1 pa pp
            · split at h
              · cases h
              · rename_i hne
                rw [Option.map_eq_some_iff] at h
                obtain ⟨as', h1, rfl⟩ := h
                obtain ⟨pa, pp⟩ := S.a c X k ok as as' h1
                cases as with
                | nil => exact (hne rfl).elim
                | cons e es =>
                  cases hΦ : Φ f with
                  | none =>
                    refine PE.noE fun σ H Q ⟨m, A, ρ, w, A', re, e, kk⟩ => ?_
                    rw [evH, hΦ] at e
                    cases e
                  | some φ => exact s_call (ok.tab f φ hΦ) hΦ ok.room hg hh.2.1 pa pp
        · cases h
      | Attribute l m ap =>
        match as with
        | [] =>
          simp only [trE] at h
          split at h
          · rename_i hh
            obtain ⟨rfl, h2, h3⟩ := hh
            obtain ⟨l', h1, rfl⟩ := Option.map_eq_some_iff.mp h
            exact s_upper (S.e c X k ok _ _ h1) h2 h3
          · cases h
        | [e] =>
          simp only [trE] at h
          split at h
          · rename_i hh
            split at h
            · rename_i b l2 e2 hb h1 h2
              cases h
              exact s_mt hb (S.e c X k ok _ _ h1) (S.e c X k ok _ _ h2) hh.1 hh.2.1 hh.2.2
            · cases h
          · cases h
        | _ :: _ :: _ => simp only [trE] at h; cases h
      | _ => simp only [trE] at h; cases h
  | Subscript a b p =>
    cases b with
    | Slice lo hi st q =>
      cases st with
      | none =>
        simp only [trE] at h
        split at h
        · rename_i a' l' h' h1 h2 h3
          cases h
          exact s_sl (S.e c X k ok a a' h1) (slo S ok h2) (slo S ok h3)
        · cases h
      | some st => simp only [trE, plainE] at h; cases h
    | _ =>
      simp only [trE] at h
      split at h
      · rename_i hp
        split at h
        · rename_i a' b' h1 h2
          cases h
          exact s_ix (S.e c X k ok a a' h1) (S.e c X k ok _ b' h2) hp
        · cases h
      · cases h
  | List as p =>
    simp only [trE] at h
    rw [Option.map_eq_some_iff] at h
    obtain ⟨as', h1, rfl⟩ := h
    exact s_lst (S.a c X k ok as as' h1).1
  | Tuple as kk p =>
    simp only [trE] at h
    rw [Option.map_eq_some_iff] at h
    obtain ⟨as', h1, rfl⟩ := h
    exact s_tup (S.a c X k ok as as' h1).1
  | ListComp elt gs scope p =>
    match gs with
    | [⟨tg, iter, ifs, 0⟩] =>
      simp only [trE] at h
      split at h
      · rename_i hb
        split at h
        · rename_i it tg' t' e'' h1 h2 h3 h4
          split at h
          · rename_i hv
            cases h
            obtain ⟨pi, pp⟩ := S.i c X k ok iter tg it h1
            have bk := blkOk_by hb
            refine (pe_lc (tt := tVT Φ t') ok.calm ok.nd pi (by rw [ok.hN, ok.hsc]; exact bk) (fun s H C cl fp => s_tg (ok.blk hb s H C cl fp) h2) (fun s H C cl fp => ?_) (fun s H C cl fp => S.e _ _ k (ok.blk hb s H C cl fp) elt e'' h4) (folded_plain pp X.env)).imp (lc_in hv)
            cases ifs with
            | nil =>
              cases h3
              exact pts_nil.imp fun σ H Q ⟨m, A, ρ, b, A', re, e, kk⟩ => by
                rw [evH] at e
                cases e
                exact kk m H re.hr.refl re.hr
            | cons t r =>
              cases r with
              | nil =>
                dsimp only at h3
                split at h3
                · exact pts_one (S.t _ _ k (ok.blk hb s H C cl fp) t t' h3)
                · cases h3
              | cons _ _ => cases h3
          · cases h
        · cases h
      · cases h
    | [] => simp only [trE] at h; cases h
    | [⟨tg, iter, ifs, (n + 1 : Nat)⟩] => simp only [trE] at h; cases h
    | [⟨tg, iter, ifs, Int.negSucc n⟩] => simp only [trE] at h; cases h
    | _ :: _ :: _ => simp only [trE] at h; cases h
  | JoinedStr es p =>
    match es with
    | [] => simp only [trE] at h; cases h
    | [_] => simp only [trE] at h; cases h
    | a :: b :: r =>
      simp only [trE] at h
      obtain ⟨as', h1, rfl⟩ := Option.map_eq_some_iff.mp h
      exact s_fst (S.f c X k ok _ _ h1)
  | _ => simp only [trE] at h; cases h
theorem snd_t {n : Nat} (S : Snd Φ n) (ok : Cok Φ c k X) {e : Expr} {e' : XE} (h : trE (n + 1) c e = some e') : PT X e (tVT Φ e') := by
  by_cases ht : isTestE e = false
  · exact t_of (snd_e S ok h) (plain_of h) ht
  · cases e with
    | BoolOp op vs p => exact (snd_w S ok h).pt
    | UnaryOp op a p =>
      cases op with
      | Not =>
        simp only [trE] at h
        rw [Option.map_eq_some_iff] at h
        obtain ⟨a', h1, rfl⟩ := h
        exact s_notT (S.t c X k ok a a' h1)
      | _ => exact absurd rfl ht
    | Compare a ops cs p =>
      match ops, cs with
      | [op], [b] =>
        simp only [trE] at h
        split at h
        · rename_i hh
          split at h
          · rename_i a' b' h1 h2
            cases h
            exact s_cmpT ok.hu (S.e c X k ok a a' h1) (S.e c X k ok b b' h2) hh.1
          · cases h
        · cases h
      | [op, op'], [b, d] =>
        simp only [trE] at h
        split at h
        · rename_i hh
          split at h
          · rename_i a' b' d' h1 h2 h3
            cases h
            exact s_chnT ok.hu (S.e c X k ok a a' h1) (S.e c X k ok b b' h2) (S.e c X k ok d d' h3) hh.2.1
          · cases h
        · cases h
      | [], _ => simp only [trE] at h; cases h
      | [_], [] => simp only [trE] at h; cases h
      | [_], _ :: _ :: _ => simp only [trE] at h; cases h
      | [_, _], [] => simp only [trE] at h; cases h
      | [_, _], [_] => simp only [trE] at h; cases h
      | [_, _], _ :: _ :: _ :: _ => simp only [trE] at h; cases h
      | _ :: _ :: _ :: _, _ => simp only [trE] at h; cases h
    | _ => exact absurd rfl ht
theorem snd_a {n : Nat} (S : Snd Φ n) (ok : Cok Φ c k X) {as : List Expr} {as' : XEs} (h : trEs (n + 1) c as = some as') : PA X as (tVA Φ as') ∧ ∀ e ∈ as, plainE e = true := by
  cases as with
  | nil =>
    simp only [trEs] at h
    cases h
    exact ⟨s_nil, fun _ z => nomatch z⟩
  | cons a as =>
    simp only [trEs] at h
    split at h
    · rename_i hp
      split at h
      · rename_i a' as'' h1 h2
        cases h
        obtain ⟨q1, q2⟩ := S.a c X k ok as as'' h2
        exact ⟨s_cons (S.e c X k ok a a' h1) q1 hp, fun e he => (List.mem_cons.mp he).elim (fun z => by rw [z]; exact hp) (q2 e)⟩
      · cases h
    · cases h
theorem trEs_cons {n : Nat} {a : Expr} {as : List Expr} {as' : XEs} (h : trEs n c (a :: as) = some as') : ∃ m a' as'', n = m + 1 ∧ plainE a = true ∧ trE m c a = some a' ∧ trEs m c as = some as'' ∧ as' = .cons a' as'' := by
  cases n with
  | zero => simp only [trEs] at h; cases h
  | succ m =>
    simp only [trEs] at h
    split at h
    · rename_i hp
      split at h
      · rename_i a' as'' h1 h2
        cases h
        exact ⟨m, a', as'', rfl, hp, h1, h2, rfl⟩
      · cases h
    · cases h
theorem trEs_nil {n : Nat} {as' : XEs} (h : trEs n c [] = some as') : as' = .nil := by
  cases n <;> simp only [trEs] at h <;> cases h
  rfl
theorem snd_i {n : Nat} (S : ∀ m ≤ n, Snd Φ m) (ok : Cok Φ c k X) {e tg : Expr} {i : XI} (h : trI (n + 1) c e tg = some i) : PI X tg e (tVI Φ i) ∧ plainE e = true := by
  have Sn := S n (Nat.le_refl n)
  cases e with
  | Call f as kw p =>
    refine ⟨?_, rfl⟩
    cases kw with
    | cons _ _ =>
      cases f <;> simp only [trI] at h <;> (try (split at h)) <;> first | cases h | (rw [Option.map_eq_some_iff] at h; obtain ⟨e', h1, rfl⟩ := h; exact s_seq (Sn.e c X k ok _ e' h1))
    | nil =>
      cases f with
      | Name f q =>
        simp only [trI] at h
        split at h
        · rename_i hh
          obtain ⟨hg, rfl⟩ := hh
          have hg := ok.gl hg
          have hm : X.mg "range" = none := ok.blt _ (by decide +kernel)
          rw [Option.map_eq_some_iff] at h
          obtain ⟨as', h1, rfl⟩ := h
          match as, h1 with
          | [], h1 =>
            cases trEs_nil h1
            refine ⟨fun pins s σ H R I ⟨m, A, ρ, ws, g, A', re, e, kk⟩ => ?_⟩
            simp [eviH, evsH, rngW] at e
          | [a], h1 =>
            obtain ⟨m, a', as'', rfl, hp, h2, h3, rfl⟩ := trEs_cons h1
            cases trEs_nil h3
            exact s_rng1 hg hm ((S m (by omega)).e c X k ok a a' h2) hp
          | [a, b], h1 =>
            obtain ⟨m, a', as'', rfl, hp, h2, h3, rfl⟩ := trEs_cons h1
            obtain ⟨m', b', as3, rfl, hp2, h4, h5, rfl⟩ := trEs_cons h3
            cases trEs_nil h5
            exact s_rng2 hg hm ((S _ (by omega)).e c X k ok a a' h2) hp ((S m' (by omega)).e c X k ok b b' h4) hp2
          | [a, b, d], h1 =>
            obtain ⟨m, a', as'', rfl, hp, h2, h3, rfl⟩ := trEs_cons h1
            obtain ⟨m', b', as3, rfl, hp2, h4, h5, rfl⟩ := trEs_cons h3
            obtain ⟨m2, d', as4, rfl, hp3, h6, h7, rfl⟩ := trEs_cons h5
            cases trEs_nil h7
            exact s_rng3 hg hm ((S _ (by omega)).e c X k ok a a' h2) hp ((S _ (by omega)).e c X k ok b b' h4) hp2 ((S m2 (by omega)).e c X k ok d d' h6) hp3
          | a :: b :: d :: f :: r, h1 =>
            obtain ⟨m, a', as'', rfl, hp, h2, h3, rfl⟩ := trEs_cons h1
            obtain ⟨m', b', as3, rfl, hp2, h4, h5, rfl⟩ := trEs_cons h3
            obtain ⟨m2, d', as4, rfl, hp3, h6, h7, rfl⟩ := trEs_cons h5
            obtain ⟨m3, f', as5, rfl, hp4, h8, h9, rfl⟩ := trEs_cons h7
            refine ⟨fun pins s σ H R I ⟨mm, A, ρ, ws, g, A', re, e, kk⟩ => ?_⟩
            rw [eviH] at e
            split at e
            · rename_i es A1 h1
              have hl := evsH_len h1
              simp only [lenE] at hl
              match es, hl with
              | _ :: _ :: _ :: _ :: _, _ => simp [rngW] at e
            · cases e
        · split at h
          · rename_i hh
            obtain ⟨hg, rfl⟩ := hh
            have hg := ok.gl hg
            have hm : X.mg "zip" = none := ok.blt _ (by decide +kernel)
            split at h
            · split at h
              · rename_i hp
                split at h
                · rename_i a' b' h1 h2
                  cases h
                  exact s_zip hg hm (Sn.e c X k ok _ a' h1) hp.1 (Sn.e c X k ok _ b' h2) hp.2
                · cases h
              · cases h
            · cases h
          · split at h
            · rename_i hh
              obtain ⟨hg, rfl⟩ := hh
              have hg := ok.gl hg
              have hm : X.mg "enumerate" = none := ok.blt _ (by decide +kernel)
              split at h
              · split at h
                · split at h
                  · rename_i hh2
                    obtain ⟨hg2, rfl⟩ := hh2
                    have hg2 := ok.gl hg2
                    have hm2 : X.mg "zip" = none := ok.blt _ (by decide +kernel)
                    split at h
                    · rename_i hp
                      split at h
                      · rename_i a' b' h1 h2
                        cases h
                        exact s_enz hg hm hg2 hm2 (Sn.e c X k ok _ a' h1) hp.1 (Sn.e c X k ok _ b' h2) hp.2
                      · cases h
                    · cases h
                  · split at h
                    · rename_i hp
                      rw [Option.map_eq_some_iff] at h
                      obtain ⟨e', h1, rfl⟩ := h
                      exact s_enu hg hm (Sn.e c X k ok _ e' h1) hp
                    · cases h
                · split at h
                  · rename_i hp
                    rw [Option.map_eq_some_iff] at h
                    obtain ⟨e', h1, rfl⟩ := h
                    exact s_enu hg hm (Sn.e c X k ok _ e' h1) hp
                  · cases h
              · cases h
            · rw [Option.map_eq_some_iff] at h
              obtain ⟨e', h1, rfl⟩ := h
              exact s_seq (Sn.e c X k ok _ e' h1)
      | _ =>
        simp only [trI] at h
        split at h
        · rw [Option.map_eq_some_iff] at h
          obtain ⟨e', h1, rfl⟩ := h
          exact s_seq (Sn.e c X k ok _ e' h1)
        · cases h
  | _ =>
    simp only [trI] at h
    split at h
    · rename_i hp
      rw [Option.map_eq_some_iff] at h
      obtain ⟨e', h1, rfl⟩ := h
      exact ⟨s_seq (Sn.e c X k ok _ e' h1), hp⟩
    · cases h
theorem sound (Φ : Fns) : ∀ n, Snd Φ n := by
  intro n
  induction n using Nat.strongRecOn with
  | _ n ih =>
    cases n with
    | zero =>
      refine ⟨fun c X k ok e e' h => ?_, fun c X k ok e e' h => ?_, fun c X k ok op vs p e' h => ?_, fun c X k ok as as' h => ?_, fun c X k ok e tg i h => ?_, fun c X k ok es as' h => ?_⟩
      · simp only [trE] at h; cases h
      · simp only [trE] at h; cases h
      · simp only [trE] at h; cases h
      · simp only [trEs] at h; cases h
      · simp only [trI] at h; cases h
      · simp only [trFs] at h; cases h
    | succ n =>
      have S := ih n (Nat.lt_succ_self n)
      exact ⟨fun c X k ok e e' h => snd_e S ok h, fun c X k ok e e' h => snd_t S ok h, fun c X k ok op vs p e' h => snd_w S ok h, fun c X k ok as as' h => snd_a S ok h,
        fun c X k ok e tg i h => snd_i (fun m hm => ih m (Nat.lt_succ_of_le hm)) ok h, fun c X k ok es as' h => snd_f S ok h⟩
end
end VI
set_option Elab.async false
set_option linter.all false
set_option maxRecDepth 100000
set_option maxHeartbeats 4000000
namespace VI
open PySem PySem.Spec PyProof.Rows L2
def PostO (m0 : List Addr) (H0 : Hp) (D : Ends) : OutH → Prop
  | .nx ρ A => ∀ m σ H, Ex m0 H0 m H → RE m A ρ σ H → D.nx σ H
  | .rt w A => ∀ v m H, Ex m0 H0 m H → HR m A H → Rv m H v w → D.rt v H
  | .bk ρ A => ∀ m σ H, Ex m0 H0 m H → RE m A ρ σ H → D.bk σ H
  | .ct ρ A => ∀ m σ H, Ex m0 H0 m H → RE m A ρ σ H → D.ct σ H
def tVS (Φ : Fns) (s : XS) : TS := fun D σ H => ∃ m0 H0 m A ρ o, Ex m0 H0 m H ∧ RE m A ρ σ H ∧ exH Φ s ρ A = some o ∧ PostO m0 H0 D o
def tVSs (Φ : Fns) (s : XSs) : TS := fun D σ H => ∃ m0 H0 m A ρ o, Ex m0 H0 m H ∧ RE m A ρ σ H ∧ exsH Φ s ρ A = some o ∧ PostO m0 H0 D o
theorem _root_.L2.PS.imp {X : Cx} {s : Stmt} {t t' : TS} (h : PS X s t) (k : ∀ D σ H, t' D σ H → t D σ H) : PS X s t' := ⟨fun pins s σ H D I q => h.run pins s σ H D I (k D σ H q)⟩
theorem _root_.L2.PSs.imp {X : Cx} {s : List Stmt} {t t' : TS} (h : PSs X s t) (k : ∀ D σ H, t' D σ H → t D σ H) : PSs X s t' := ⟨fun pins s σ H D I q => h.run pins s σ H D I (k D σ H q)⟩
theorem _root_.L2.PS.no {X : Cx} {s : Stmt} {t' : TS} (k : ∀ D σ H, t' D σ H → False) : PS X s t' := ⟨fun pins s σ H D I q => (k D σ H q).elim⟩

section
variable {X : Cx} {Φ : Fns} {c : Co} {k : Nat} {pos : Pos}
theorem s_snil : PSs X [] (tVSs Φ .nil) := pss_nil.imp fun D σ H ⟨m0, H0, m, A, ρ, o, x, re, e, q⟩ => by
  rw [exsH] at e
  cases e
  exact q m σ H x re
theorem s_scons {s : Stmt} {ss : List Stmt} {s' : XS} {ss' : XSs} (h1 : PS X s (tVS Φ s')) (h2 : PSs X ss (tVSs Φ ss')) : PSs X (s :: ss) (tVSs Φ (.cons s' ss')) := (pss_cons h1 h2).imp fun D σ H ⟨m0, H0, m, A, ρ, o, x, re, e, q⟩ => by
  rw [exsH] at e
  cases h : exH Φ s' ρ A with
  | none => rw [h] at e; cases e
  | some o1 =>
    rw [h] at e
    refine ⟨m0, H0, m, A, ρ, o1, x, re, h, ?_⟩
    cases o1 with
    | nx ρ' A' => exact fun m' σ' H' x' re' => ⟨m0, H0, m', A', ρ', o, x', re', e, q⟩
    | rt w A' => cases e; exact q
    | bk ρ' A' => cases e; exact q
    | ct ρ' A' => cases e; exact q
theorem s_cont : PS X (.Continue pos) (tVS Φ .cont) := ps_continue.imp fun D σ H ⟨m0, H0, m, A, ρ, o, x, re, e, q⟩ => by
  rw [exH] at e
  cases e
  exact q m σ H x re
theorem s_brk : PS X (.Break pos) (tVS Φ .brk) := ps_break.imp fun D σ H ⟨m0, H0, m, A, ρ, o, x, re, e, q⟩ => by
  rw [exH] at e
  cases e
  exact q m σ H x re
theorem s_pass : PS X (.Pass pos) (tVS Φ .pass) := ps_pass.imp fun D σ H ⟨m0, H0, m, A, ρ, o, x, re, e, q⟩ => by
  rw [exH] at e
  cases e
  exact q m σ H x re
theorem s_stop {s : Stmt} : PS X s (tVS Φ .stop) := .no fun D σ H ⟨m0, H0, m, A, ρ, o, x, re, e, q⟩ => by
  rw [exH] at e
  cases e
theorem s_ife {t : Expr} {a b : List Stmt} {t' : XE} {a' b' : XSs} (ht : PT X t (tVT Φ t')) (ha : PSs X a (tVSs Φ a')) (hb : PSs X b (tVSs Φ b')) : PS X (.If t a b pos) (tVS Φ (.ife t' a' b')) := (ps_if ht ha hb).imp fun D σ H ⟨m0, H0, m, A, ρ, o, x, re, e, q⟩ => by
  rw [exH] at e
  split at e
  · rename_i A1 h1
    exact ⟨m, A, ρ, true, A1, re, h1, fun m' H' e1 g1 => iteT ⟨m0, H0, m', A1, ρ, o, x.trans e1, re.ex e1 g1, e, q⟩⟩
  · rename_i A1 h1
    exact ⟨m, A, ρ, false, A1, re, h1, fun m' H' e1 g1 => iteF ⟨m0, H0, m', A1, ρ, o, x.trans e1, re.ex e1 g1, e, q⟩⟩
  · cases e
theorem s_ret {e : Expr} {e' : XE} (he : PE X e (tV Φ e')) : PS X (.Return (some e) pos) (tVS Φ (.ret e')) := (ps_ret he).imp fun D σ H ⟨m0, H0, m, A, ρ, o, x, re, e, q⟩ => by
  rw [exH] at e
  split at e
  · rename_i w A1 h1
    cases e
    exact ⟨m, A, ρ, w, A1, re, h1, fun v m' H' e1 g1 r => q v m' H' (x.trans e1) g1 r⟩
  · cases e
theorem s_exp {e : Expr} {e' : XE} (he : PE X e (tV Φ e')) (hs : swapsWith e none pos.line X.env = pure false) : PS X (.Expr e pos) (tVS Φ (.exp e')) := (ps_expr he hs).imp fun D σ H ⟨m0, H0, m, A, ρ, o, x, re, e, q⟩ => by
  rw [exH] at e
  split at e
  · rename_i w A1 h1
    cases e
    exact ⟨m, A, ρ, w, A1, re, h1, fun v m' H' e1 g1 r => q m' σ H' (x.trans e1) (re.ex e1 g1)⟩
  · cases e

theorem asg_val {i : Nat} {e' : XE} : ∀ D σ H, tVS Φ (.asg (.nm i) e') D σ H → tAsg (tV Φ e') (gName i) D σ H := by
  intro D σ H ⟨m0, H0, m, A, ρ, o, x, re, e, q⟩
  rw [exH] at e
  split at e
  · rename_i w A1 h1
    obtain ⟨ρ', h2, rfl⟩ := Option.map_eq_some_iff.mp e
    unfold setTW at h2
    dsimp only at h2
    split at h2
    · rename_i hi
      cases h2
      exact ⟨m, A, ρ, w, A1, re, h1, fun v m' H' e1 g1 r => q m' _ H' (x.trans e1) ((re.ex e1 g1).put hi r)⟩
    · cases h2
  · cases e
theorem lc_parts {n : Nat} {elt : Expr} {gs : List Comprehension} {scope : Scope} {p : Pos} {e' : XE} (h : trE (n + 1) c (.ListComp elt gs scope p) = some e') :
    ∃ tg iter ifs it tg' t' e'', gs = [⟨tg, iter, ifs, 0⟩] ∧ blkC c.N c.sc scope (ownOf c.N scope) = true ∧ trI n c iter tg = some it ∧ trTg ⟨c.N, relSc scope c.sc, fun x => scope.names.lookup x == some .cell, c.gc⟩ tg = some tg' ∧
      (match ifs with
        | [] => some (XE.cst (.bool true))
        | [t] => if plainE t then trE n ⟨c.N, relSc scope c.sc, fun x => scope.names.lookup x == some .cell, c.gc⟩ t else none
        | _ => none : Option XE) = some t' ∧
      trE n ⟨c.N, relSc scope c.sc, fun x => scope.names.lookup x == some .cell, c.gc⟩ elt = some e'' ∧ tgIn tg' ((ownOf c.N scope).map (·.2)) = true ∧ e' = .lc ((ownOf c.N scope).map (·.2)) tg' it t' e'' := by
  match gs with
  | [⟨tg, iter, ifs, 0⟩] =>
    simp only [trE] at h
    split at h
    · rename_i hb
      split at h
      · rename_i it tg' t' e'' h1 h2 h3 h4
        split at h
        · rename_i hv
          cases h
          exact ⟨tg, iter, ifs, it, tg', t', e'', rfl, hb, h1, h2, h3, h4, hv, rfl⟩
        · cases h
      · cases h
    · cases h
  | [] => simp only [trE] at h; cases h
  | [⟨tg, iter, ifs, (n + 1 : Nat)⟩] => simp only [trE] at h; cases h
  | [⟨tg, iter, ifs, Int.negSucc n⟩] => simp only [trE] at h; cases h
  | _ :: _ :: _ => simp only [trE] at h; cases h
theorem s_asg (ok : Cok Φ c k X) {n : Nat} {x : Str} {px : Pos} {i : Nat} {e : Expr} {e' : XE} (hl : locB c x = true) (hi : ixS x c.N = some i) (h : trE n c e = some e') : PS X (.Assign [.Name x px] e pos) (tVS Φ (.asg (.nm i) e')) := by
  obtain ⟨l1, l2⟩ := locB_ok ok hl
  have hN : X.N[i]? = some x := by rw [ok.hN]; exact ixS_get hi
  have he := (sound Φ n).e c X k ok e e' h
  cases e with
  | ListComp elt gs scope p =>
    have hsw : ∃ b, swapsWith (.ListComp elt gs scope p) (some (.Name x px)) pos.line X.env = pure b ∧ (b = true → X.env.scope.names.lookup x = some .local) := by
      refine ⟨_, rfl, fun hb => ?_⟩
      simp only [Bool.and_eq_true] at hb
      exact beq_iff_eq.mp hb.1.1.2
    obtain ⟨b, hsw, hb⟩ := hsw
    cases b with
    | false => exact (ps_set ok.nd hN l1 he hsw l2).imp asg_val
    | true =>
      cases n with
      | zero => simp only [trE] at h; cases h
      | succ n =>
        obtain ⟨tg, iter, ifs, it, tg', t', e'', rfl, hbk, h1, h2, h3, h4, hv, rfl⟩ := lc_parts h
        have S := sound Φ n
        obtain ⟨pi, pp⟩ := S.i c X k ok iter tg it h1
        have bk := blkOk_by hbk
        refine (ps_setLc (tt := tVT Φ t') ok.calm ok.nd hN (hb rfl) hsw pi (by rw [ok.hN, ok.hsc]; exact bk) (fun s H C cl fp => s_tg (ok.blk hbk s H C cl fp) h2) (fun s H C cl fp => ?_) (fun s H C cl fp => S.e _ _ k (ok.blk hbk s H C cl fp) elt e'' h4) (folded_plain pp X.env)).imp fun D σ H q => lc_in hv σ H _ (asg_val D σ H q)
        cases ifs with
        | nil =>
          cases h3
          exact pts_nil.imp fun σ H Q ⟨m, A, ρ, b, A', re, e, kk⟩ => by
            rw [evH] at e
            cases e
            exact kk m H re.hr.refl re.hr
        | cons t r =>
          cases r with
          | nil =>
            dsimp only at h3
            split at h3
            · exact pts_one (S.t _ _ k (ok.blk hbk s H C cl fp) t t' h3)
            · cases h3
          | cons _ _ => cases h3
  | _ =>
    have hp := plain_of h
    first
      | (exact (ps_set ok.nd hN l1 he rfl l2).imp asg_val)
      | cases hp
theorem s_strs (ok : Cok Φ c k X) {n : Nat} {x : Str} {px pf cp : Pos} {i : Nat} {a : Expr} {a' : XE} (hg : glB c.sc "str" = true) (hp : plainE a = true) (hl : locB c x = true) (hi : ixS x c.N = some i) (h : trE n c a = some a') :
    PS X (.Assign [.Name x px] (.Call (.Name "str" pf) [a] [] cp) pos) (tVS Φ (.strs i a')) := by
  obtain ⟨l1, l2⟩ := locB_ok ok hl
  have hN : X.N[i]? = some x := by rw [ok.hN]; exact ixS_get hi
  have ha := (sound Φ n).e c X k ok a a' h
  have hg' : Gl X "str" := glB_ok (by rw [ok.hsc]; exact hg)
  refine (ps_set ok.nd hN l1 (pe_callTy (call_str_int.or (call_str_pair (by have := ok.hu; omega))) hg' (ok.blt _ (by decide)) bt_str (pa_cons ha pa_nil (star_plain hp [] X.env)) (by decide) rfl (star_plain hp [] X.env) (star_any fun e' he => by cases he)) rfl l2).imp fun D σ H ⟨m0, H0, m, A, ρ, o, x, re, e, q⟩ => ?_
  rw [exH] at e
  split at e
  · rename_i z A1 h1
    split at e
    · rename_i hh
      cases e
      refine ⟨m, A, ρ, _, A1, re, h1, fun v m' H' e1 g1 r => ?_⟩
      exact .inl ⟨z, by rw [r.theInt], hh.2, q m' _ H' (x.trans e1) ((re.ex e1 g1).put hh.1 (.str _))⟩
    · cases e
  · rename_i y z A1 h1
    split at e
    · rename_i hh
      cases e
      refine ⟨m, A, ρ, _, A1, re, h1, fun v m' H' e1 g1 r => ?_⟩
      cases r with
      | tup t1 t2 t3 =>
        have t4 := t3.ints (ns := [y, z]) rfl
        subst t4
        refine .inr ⟨_, y, z, rfl, SqT.of t1, hh.2.1, hh.2.2, fun w => q m' _ H' (x.trans e1) ?_⟩
        have re1 := re.ex e1 g1
        refine ⟨re1.hr, by rw [List.length_set, List.length_set]; exact re1.len, fun j u hj => ?_⟩
        rw [List.getElem?_set] at hj
        split at hj
        · split at hj <;> cases hj
        · rename_i hne
          obtain ⟨v', a1, b1⟩ := re1.get j u hj
          exact ⟨v', by rw [List.getElem?_set_ne hne]; exact a1, b1⟩
    · cases e
  · cases e
theorem s_asgT (ok : Cok Φ c k X) {n : Nat} {ts : List Expr} {kk : Nat} {tp : Pos} {js : List Nat} {e : Expr} {e' : XE} (ht : trTg c (.Tuple ts kk tp) = some (.tp js)) (h : trE n c e = some e') (hs : swappedStores [.Tuple ts kk tp] e X.env = pure none) :
    PS X (.Assign [.Tuple ts kk tp] e pos) (tVS Φ (.asg (.tp js) e')) := by
  have he := (sound Φ n).e c X k ok e e' h
  have hp := plain_of h
  have h1 : swapsWithSole [.Tuple ts kk tp] e pos.line X.env = pure false := by
    cases e <;> first | rfl | cases hp
  refine (ps_asg he (s_tg ok ht) h1 hs rfl).imp fun D σ H ⟨m0, H0, m, A, ρ, o, x, re, e, q⟩ => ?_
  rw [exH] at e
  split at e
  · rename_i w A1 hd
    rw [Option.map_eq_some_iff] at e
    obtain ⟨ρ', e1, rfl⟩ := e
    refine ⟨m, A, ρ, w, A1, re, hd, fun v m' H' e2 g2 r => ?_⟩
    exact tgV_ok (re.ex e2 g2) e1 r fun σ' re' _ => q m' σ' H' (x.trans e2) re'
  · cases e

def nmF (env : PySem.Env) (line : Nat) : Expr → Option Str := fun x => match x with
  | .Name id pos => if (env.kindOf id == some NameKind.local && pos.line == line) = true then some id else none
  | _ => none
def stB : Expr → Bool := fun | .Starred .. => true | _ => false
theorem sw_eq (ts vs : List Expr) (kk k2 : Nat) (tp p2 : Pos) (env : PySem.Env) : swappedStores [.Tuple ts kk tp] (.Tuple vs k2 p2) env =
  if (!(ts.length == 2 || ts.length == 3) || vs.length != ts.length || env.blockKind != .function) = true then pure none
  else if (vs.any stB) = true then pure none
  else if ((ts.filterMap (nmF env ((ts.head?.map (·.pos.line)).getD 0))).length != ts.length || (ts.filterMap (nmF env ((ts.head?.map (·.pos.line)).getD 0))).eraseDups.length != (ts.filterMap (nmF env ((ts.head?.map (·.pos.line)).getD 0))).length) = true then pure none
    else if vs.all (foldedForSure 8) = true then pure none
    else if vs.all (constantsAlone 8) = true then (do unsupported "assign.tuple-of-constant-expressions:order-of-the-stores"; pure (some (ts.filterMap (nmF env ((ts.head?.map (·.pos.line)).getD 0)))))
    else pure (some (ts.filterMap (nmF env ((ts.head?.map (·.pos.line)).getD 0)))) := rfl
theorem sw_cases {ts vs : List Expr} {kk k2 : Nat} {tp p2 : Pos} {env : PySem.Env} (hck : vs.all (constantsAlone 8) = false ∨ vs.all (foldedForSure 8) = true) : swappedStores [.Tuple ts kk tp] (.Tuple vs k2 p2) env = pure none ∨
    ((ts.length = 2 ∨ ts.length = 3) ∧ vs.length = ts.length ∧ (ts.filterMap (nmF env ((ts.head?.map (·.pos.line)).getD 0))).length = ts.length ∧
      (ts.filterMap (nmF env ((ts.head?.map (·.pos.line)).getD 0))).eraseDups.length = ts.length ∧ swappedStores [.Tuple ts kk tp] (.Tuple vs k2 p2) env = pure (some (ts.filterMap (nmF env ((ts.head?.map (·.pos.line)).getD 0))))) := by
  rw [sw_eq]
  split
  · exact .inl rfl
  rename_i h1
  split
  · exact .inl rfl
  split
  · exact .inl rfl
  rename_i h3
  split
  · exact .inl rfl
  rename_i h4
  split
  · rename_i h5
    exact (hck.elim (fun z => by rw [z] at h5; cases h5) fun z => h4 z).elim
  simp only [Bool.or_eq_true, Bool.not_eq_true', bne_iff_ne, not_or, Bool.or_eq_false_iff, beq_eq_false_iff_ne, not_and, Decidable.not_not] at h1 h3
  refine .inr ⟨?_, h1.1.2, h3.1, h3.2.trans h3.1, rfl⟩
  by_cases q : ts.length = 2
  · exact .inl q
  · exact .inr (h1.1.1 q)
theorem par_none {js : List Nat} {as' : XEs} {K : PySem.W.Frag} : ∀ D σ H, tVS Φ (.par js as') D σ H → tAsg (tV Φ (.tup as')) (tgV K (.tp js)) D σ H := by
  intro D σ H ⟨m0, H0, m, A, ρ, o, x, re, e, q⟩
  rw [exH] at e
  split at e
  · rename_i ws A1 hd
    split at e
    · rename_i hh
      rw [Option.map_eq_some_iff] at e
      obtain ⟨ρ', e1, rfl⟩ := e
      refine ⟨m, A, ρ, .tup ws, A1, re, by rw [evH, hd]; simp only [hh, if_true], fun v m' H' e2 g2 r => ?_⟩
      exact tgV_ok (t := .tp js) (d := .tup ws) (re.ex e2 g2) e1 r fun σ' re' _ => q m' σ' H' (x.trans e2) re'
    · cases e
  · cases e
theorem par_some {js : List Nat} {as' : XEs} {D : Ends} {σ : L2.St} {H : Hp} (h : tVS Φ (.par js as') D σ H) : tVA Φ as' σ H fun vs H1 => vs.length = js.length ∧ gNs js vs σ H1 D.nx := by
  obtain ⟨m0, H0, m, A, ρ, o, x, re, e, q⟩ := h
  rw [exH] at e
  split at e
  · rename_i ws A1 hd
    split at e
    · rename_i hh
      rw [Option.map_eq_some_iff] at e
      obtain ⟨ρ', e1, rfl⟩ := e
      refine ⟨m, A, ρ, ws, A1, re, hd, fun vs m1 H1 e2 g2 r => ?_⟩
      exact ⟨by rw [r.len]; exact (setAllW_len _ _ _ _ e1).symm, gNs_ok (re.ex e2 g2) e1 r fun σ' re' _ => q m1 σ' H1 (x.trans e2) re'⟩
    · cases e
  · cases e
theorem nmF_some {env : PySem.Env} {line : Nat} {x y : Str} {p : Pos} (h : nmF env line (.Name x p) = some y) : y = x ∧ env.scope.names.lookup x = some .local := by
  unfold nmF at h
  dsimp only at h
  split at h
  · rename_i hh
    rw [Bool.and_eq_true] at hh
    cases h
    exact ⟨rfl, beq_iff_eq.mp hh.1⟩
  · cases h
theorem tVA_mono {as' : XEs} {σ : L2.St} {H : Hp} {Q Q' : List V → Hp → Prop} (h : tVA Φ as' σ H Q) (k : ∀ vs H, Q vs H → Q' vs H) : tVA Φ as' σ H Q' := by
  obtain ⟨m, A, ρ, ws, A', re, e, q⟩ := h
  exact ⟨m, A, ρ, ws, A', re, e, fun vs m' H' e1 g1 r => k _ _ (q vs m' H' e1 g1 r)⟩
theorem edl : ∀ (n : Nat) (l : List Str), l.length ≤ n → l.eraseDups.length ≤ l.length
  | _, [], _ => by simp
  | 0, _ :: _, h => by simp at h
  | n + 1, a :: l, h => by
    rw [List.eraseDups_cons, List.length_cons, List.length_cons]
    have h1 := List.length_filter_le (fun b => !b == a) l
    have h2 := edl n (l.filter fun b => !b == a) (by simp at h; omega)
    omega
theorem ed3 {x y z : Str} (h : [x, y, z].eraseDups.length = 3) : x ≠ y ∧ x ≠ z ∧ y ≠ z := by
  have key : ∀ (a : Str) (l : List Str), (a :: l).eraseDups.length ≤ (l.filter fun b => !b == a).length + 1 := fun a l => by
    rw [List.eraseDups_cons, List.length_cons]
    have := edl _ (l.filter fun b => !b == a) (Nat.le_refl _)
    omega
  refine ⟨fun e => ?_, fun e => ?_, fun e => ?_⟩
  · subst e
    have k := key x [x, z]
    have : (List.filter (fun b => !b == x) [x, z]).length ≤ 1 := by
      rw [List.filter_cons_of_neg (by simp)]
      exact List.length_filter_le _ _
    omega
  · subst e
    have k := key x [y, x]
    have : (List.filter (fun b => !b == x) [y, x]).length ≤ 1 := by
      rw [List.filter_cons]
      split
      · simp
      · simp
    omega
  · subst e
    rw [List.eraseDups_cons, List.length_cons] at h
    by_cases q : y = x
    · subst q
      simp at h
    · rw [List.filter_cons_of_pos (by simp [q]), List.filter_cons_of_pos (by simp [q])] at h
      have k := key y [y]
      have : (List.filter (fun b => !b == y) [y]).length = 0 := by simp
      have e : List.filter (fun b => !b == x) [] = ([] : List Str) := rfl
      rw [e] at h
      omega
theorem s_par (ok : Cok Φ c k X) {n : Nat} {ts es : List Expr} {kk k2 : Nat} {tp p2 : Pos} {js : List Nat} {as' : XEs} (ht : trNs c ts = some js) (h : trEs n c es = some as') (hck : es.all (constantsAlone 8) = false ∨ es.all (foldedForSure 8) = true) :
    PS X (.Assign [.Tuple ts kk tp] (.Tuple es k2 p2) pos) (tVS Φ (.par js as')) := by
  have S := sound Φ n
  obtain ⟨pa, pp⟩ := S.a c X k ok es as' h
  rcases sw_cases (ts := ts) (vs := es) (kk := kk) (k2 := k2) (tp := tp) (p2 := p2) (env := X.env) hck with hs | ⟨hlen, hvl, hnl, hnd, hs⟩
  · have htg : trTg c (.Tuple ts kk tp) = some (.tp js) := by simp only [trTg, ht]; rfl
    exact (ps_asg (s_tup pa) (s_tg ok htg) rfl hs rfl).imp par_none
  · have loc : ∀ {x : Str} {i : Nat}, ixS x c.N = some i → X.N[i]? = some x := fun h => by rw [ok.hN]; exact ixS_get h
    have one : ∀ {e : Expr} {es : List Expr} {js : List Nat}, trNs c (e :: es) = some js → ∃ x p i js', e = .Name x p ∧ ixS x c.N = some i ∧ trNs c es = some js' ∧ js = i :: js' := by
      intro e es js h
      cases e with
      | Name x p =>
        simp only [trNs] at h
        split at h
        · split at h
          · rename_i i is h1 h2
            cases h
            exact ⟨x, p, i, is, rfl, h1, h2, rfl⟩
          · cases h
        · cases h
      | _ => simp only [trNs] at h; cases h
    have fm : ∀ {f : Expr → Option Str} {l : List Expr}, (l.filterMap f).length = l.length → ∀ e ∈ l, ∃ y, f e = some y := by
      intro f l
      induction l with
      | nil => intro _ e he; cases he
      | cons a l ih =>
        intro hl e he
        have hle : (l.filterMap f).length ≤ l.length := List.length_filterMap_le f l
        cases hf : f a with
        | none =>
          rw [List.filterMap_cons_none hf, List.length_cons] at hl
          omega
        | some y =>
          rw [List.filterMap_cons_some hf, List.length_cons, List.length_cons] at hl
          rcases List.mem_cons.mp he with rfl | he
          · exact ⟨y, hf⟩
          · exact ih (by omega) e he
    rcases hlen with hlen | hlen
    · match ts, es, hlen, hvl with
      | [t1, t2], [e1, e2], _, _ =>
        obtain ⟨x, px, i, js1, rfl, hi, ht1, rfl⟩ := one ht
        obtain ⟨y, py, j, js2, rfl, hj, ht2, rfl⟩ := one ht1
        cases ht2
        obtain ⟨x', hx⟩ := fm hnl (.Name x px) (by simp)
        obtain ⟨y', hy⟩ := fm hnl (.Name y py) (by simp)
        obtain ⟨rfl, lx⟩ := nmF_some hx
        obtain ⟨rfl, ly⟩ := nmF_some hy
        have hnames : ([Expr.Name x' px, .Name y' py].filterMap (nmF X.env (([Expr.Name x' px, .Name y' py].head?.map (·.pos.line)).getD 0))) = [x', y'] := by
          rw [List.filterMap_cons_some hx, List.filterMap_cons_some hy]
          rfl
        rw [hnames] at hs hnd
        have hxy : x' ≠ y' := by
          rintro rfl
          simp [List.eraseDups_cons] at hnd
        have hij : i ≠ j := by
          rintro rfl
          exact hxy (Option.some.inj ((loc hi).symm.trans (loc hj)))
        refine (ps_par ok.calm ok.nd (loc hi) (loc hj) hij lx ly pa hs).imp fun D σ H q => ?_
        refine tVA_mono (par_some q) fun vs H1 ⟨hl, g⟩ => ?_
        match vs, hl with
        | [v, w], _ =>
          obtain ⟨_, r, e, g⟩ := g
          cases e
          obtain ⟨_, r, e, g⟩ := g
          cases e
          obtain ⟨_, g⟩ := g
          exact ⟨v, w, rfl, g⟩
    · match ts, es, hlen, hvl with
      | [t1, t2, t3], [e1, e2, e3], _, _ =>
        obtain ⟨x, px, i, js1, rfl, hi, ht1, rfl⟩ := one ht
        obtain ⟨y, py, j, js2, rfl, hj, ht2, rfl⟩ := one ht1
        obtain ⟨z, pz, l, js3, rfl, hl, ht3, rfl⟩ := one ht2
        cases ht3
        obtain ⟨x', hx⟩ := fm hnl (.Name x px) (by simp)
        obtain ⟨y', hy⟩ := fm hnl (.Name y py) (by simp)
        obtain ⟨z', hz⟩ := fm hnl (.Name z pz) (by simp)
        obtain ⟨rfl, lx⟩ := nmF_some hx
        obtain ⟨rfl, ly⟩ := nmF_some hy
        obtain ⟨rfl, lz⟩ := nmF_some hz
        have hnames : ([Expr.Name x' px, .Name y' py, .Name z' pz].filterMap (nmF X.env (([Expr.Name x' px, .Name y' py, .Name z' pz].head?.map (·.pos.line)).getD 0))) = [x', y', z'] := by
          rw [List.filterMap_cons_some hx, List.filterMap_cons_some hy, List.filterMap_cons_some hz]
          rfl
        rw [hnames] at hs hnd
        obtain ⟨hxy, hxz, hyz⟩ := ed3 hnd
        have ne : ∀ {x y : Str} {i j : Nat}, ixS x c.N = some i → ixS y c.N = some j → x ≠ y → i ≠ j := by
          rintro x y i j h1 h2 h3 rfl
          exact h3 (Option.some.inj ((loc h1).symm.trans (loc h2)))
        refine (ps_par3 ok.calm ok.nd (loc hi) (loc hj) (loc hl) (ne hi hj hxy) (ne hi hl hxz) (ne hj hl hyz) lx ly lz pa hs).imp fun D σ H q => ?_
        refine tVA_mono (par_some q) fun vs H1 ⟨hl, g⟩ => ?_
        match vs, hl with
        | [v, w, u], _ =>
          obtain ⟨_, r, e, g⟩ := g
          cases e
          obtain ⟨_, r, e, g⟩ := g
          cases e
          obtain ⟨_, r, e, g⟩ := g
          cases e
          obtain ⟨_, g⟩ := g
          exact ⟨v, w, u, rfl, g⟩
end
end VI
set_option Elab.async false
set_option linter.all false
set_option maxRecDepth 100000
set_option maxHeartbeats 4000000
namespace VI
open PySem PySem.Spec PyProof.Rows L2
section
variable {X : Cx} {Φ : Fns} {c : Co} {k : Nat} {pos : Pos}
theorem putW_some {x : W} {f : List W → Option (List W)} {A A' : AH} (h : putW x f A = some A') : ∃ n ws ws', x = .ref n ∧ A[n]? = some ws ∧ f ws = some ws' ∧ A' = A.set n ws' := by
  unfold putW at h
  split at h
  · rename_i n
    split at h
    · rename_i ws hw
      obtain ⟨ws', h1, rfl⟩ := Option.map_eq_some_iff.mp h
      exact ⟨n, ws, ws', rfl, hw, h1, rfl⟩
    · cases h
  · cases h
theorem sub_plain {l kk : Expr} (hpk : plainE kk = true) (sp : Pos) (env : PySem.Env) (v : Value) : assign (.Subscript l kk sp) env v = (do
      let ov ← holding [v] (eval l env)
      let iv ← holding [v, ov] (eval kk env)
      standAt sp
      holding [v, ov, iv] (setItem ov iv v)
      release [v, ov, iv] []) := by
  cases kk <;> first | rfl | cases hpk
theorem set_in {m : List Addr} {A A' : AH} {H : Hp} {x j w : W} {vo vi v : V} {Q : Hp → Prop} (g : HR m A H) (ro : Rv m H vo x) (ri : Rv m H vi j) (rv : Rv m H v w) (e : putW x (setN j w) A = some A') (q : ∀ H', Ex m H m H' → HR m A' H' → Q H') : rSetL vo vi v H Q := by
  obtain ⟨n, ws, ws', rfl, h1, h2, rfl⟩ := putW_some e
  unfold setN at h2
  split at h2
  rotate_left
  · cases h2
  obtain ⟨p, hp, rfl⟩ := Option.map_eq_some_iff.mp h2
  cases ro with
  | ref ro =>
  obtain ⟨vs, q1, q2, q3⟩ := g.cell _ _ _ ro h1
  obtain ⟨e1, g1⟩ := put_cell g ro (by rw [List.length_set]; exact q2) (q3.set p rv)
  exact ⟨_, vs, _, p, rfl, ri.theInt, q1, by rw [q3.len]; exact hp, q _ e1 g1⟩
theorem s_setx {l kk e : Expr} {sp : Pos} {a' k' e' : XE} (hl : PE X l (tV Φ a')) (hk : PE X kk (tV Φ k')) (he : PE X e (tV Φ e')) (hpk : plainE kk = true) (hp : plainE e = true) : PS X (.Assign [.Subscript l kk sp] e pos) (tVS Φ (.setx a' k' e')) := by
  have h1 : swapsWithSole [.Subscript l kk sp] e pos.line X.env = pure false := by
    cases e <;> first | rfl | cases hp
  have h2 : swappedStores [.Subscript l kk sp] e X.env = pure none := by
    cases e <;> first | rfl | cases hp
  refine (ps_asg he (pg_sub hl hk set_list (sub_plain hpk sp X.env)) h1 h2 rfl).imp fun D σ H ⟨m0, H0, m, A, ρ, o, x, re, ee, q⟩ => ?_
  rw [exH] at ee
  split at ee
  rotate_left
  · cases ee
  rename_i w A1 hd
  split at ee
  rotate_left
  · cases ee
  rename_i y A2 hy
  split at ee
  rotate_left
  · cases ee
  rename_i j A3 hj
  obtain ⟨A4, h4, rfl⟩ := Option.map_eq_some_iff.mp ee
  refine ⟨m, A, ρ, w, A1, re, hd, fun v m1 H1 e1 g1 r1 => ⟨m1, A1, ρ, y, A2, re.ex e1 g1, hy, fun vo m2 H2 e2 g2 r2 => ⟨m2, A2, ρ, j, A3, (re.ex e1 g1).ex e2 g2, hj, fun vi m3 H3 e3 g3 r3 => ?_⟩⟩⟩
  refine set_in g3 (r2.ex g2 e3) r3 ((r1.ex g1 e2).ex g2 e3) h4 fun H' e4 g4 => ?_
  exact q m3 σ H' (((x.trans e1).trans e2).trans (e3.trans e4)) ((((re.ex e1 g1).ex e2 g2).ex e3 g3).ex e4 g4)
theorem s_swp {l l2 k1 k2 e1 e2 : Expr} {sp sp2 tp p2 : Pos} {q1 q2 : Nat} {a1' a2' k1' k2' e1' e2' : XE} (hl : PE X l (tV Φ a1')) (hl2 : PE X l2 (tV Φ a2')) (hk1 : PE X k1 (tV Φ k1')) (hk2 : PE X k2 (tV Φ k2')) (he1 : PE X e1 (tV Φ e1')) (he2 : PE X e2 (tV Φ e2'))
    (ok : Cok Φ c k X) (pk1 : plainE k1 = true) (pk2 : plainE k2 = true) (pe1 : plainE e1 = true) (pe2 : plainE e2 = true) : PS X (.Assign [.Tuple [.Subscript l k1 sp, .Subscript l2 k2 sp2] q1 tp] (.Tuple [e1, e2] q2 p2) pos) (tVS Φ (.swp a1' k1' a2' k2' e1' e2')) := by
  have h2 : swappedStores [.Tuple [.Subscript l k1 sp, .Subscript l2 k2 sp2] q1 tp] (.Tuple [e1, e2] q2 p2) X.env = pure none := by
    rw [sw_eq]
    split
    · rfl
    split
    · rfl
    exact if_pos (by rfl)
  refine (ps_asg (pe_tup (pa_cons he1 (pa_cons he2 pa_nil (star_plain pe2 _ _)) (star_plain pe1 _ _))) (pg_tup ok.calm (pgs_cons (pg_sub hl hk1 set_list (sub_plain pk1 sp X.env)) (pgs_cons (pg_sub hl2 hk2 set_list (sub_plain pk2 sp2 X.env)) pgs_nil))) rfl h2 rfl).imp fun D σ H ⟨m0, H0, m, A, ρ, o, x, re, ee, q⟩ => ?_
  rw [exH] at ee
  split at ee
  rotate_left
  · cases ee
  rename_i w1 A1 c1
  split at ee
  rotate_left
  · cases ee
  rename_i w2 A2 c2
  split at ee
  rotate_left
  · cases ee
  rename_i x1 A3 c3
  split at ee
  rotate_left
  · cases ee
  rename_i j1 A4 c4
  split at ee
  rotate_left
  · cases ee
  rename_i A5 c5
  split at ee
  rotate_left
  · cases ee
  rename_i x2 A6 c6
  split at ee
  rotate_left
  · cases ee
  rename_i j2 A7 c7
  obtain ⟨A8, c8, rfl⟩ := Option.map_eq_some_iff.mp ee
  refine ⟨m, A, ρ, w1, A1, re, c1, fun v1 m1 H1 s1 g1 r1 => ⟨m1, A1, ρ, w2, A2, re.ex s1 g1, c2, fun v2 m2 H2 s2 g2 r2 => ⟨by show 2 ≤ sizeLine; decide, fun T nT => ?_⟩⟩⟩
  obtain ⟨s3, g3⟩ := Ex.other (o := .tup [v1, v2]) g2 nT
  have re3 := ((re.ex s1 g1).ex s2 g2).ex s3 g3
  have r1' := (r1.ex g1 s2).ex g2 s3
  have r2' := r2.ex g2 s3
  refine ⟨T, [v1, v2], rfl, SqT.of upd_same, rfl, v1, [v2], rfl, ?_⟩
  refine ⟨m2, A2, ρ, x1, A3, re3, c3, fun o1 m4 H4 s4 g4 r4 => ⟨m4, A3, ρ, j1, A4, re3.ex s4 g4, c4, fun i1 m5 H5 s5 g5 r5 => ?_⟩⟩
  refine set_in g5 (r4.ex g4 s5) r5 ((r1'.ex g3 s4).ex g4 s5) c5 fun H6 s6 g6 => ?_
  have re6 := ((re3.ex s4 g4).ex s5 g5).ex s6 g6
  refine ⟨v2, [], rfl, ⟨m5, A5, ρ, x2, A6, re6, c6, fun o2 m7 H7 s7 g7 r7 => ⟨m7, A6, ρ, j2, A7, re6.ex s7 g7, c7, fun i2 m8 H8 s8 g8 r8 => ?_⟩⟩⟩
  refine set_in g8 (r7.ex g7 s8) r8 (((((r2'.ex g3 s4).ex g4 s5).ex g5 s6).ex g6 s7).ex g7 s8) c8 fun H9 s9 g9 => ⟨rfl, ?_⟩
  exact q m8 σ H9 ((((x.trans s1).trans s2).trans s3).trans (s4.trans (s5.trans (s6.trans (s7.trans (s8.trans s9)))))) (((re6.ex s7 g7).ex s8 g8).ex s9 g9)
theorem s_aug (ok : Cok Φ c k X) {x : Str} {px : Pos} {i : Nat} {op : Operator} {e : Expr} {e' : XE} (hl : locB c x = true) (hi : ixS x c.N = some i) (he : PE X e (tV Φ e')) (hop : op = .Add ∨ op = .Sub) : PS X (.AugAssign (.Name x px) op e pos) (tVS Φ (.aug i op e')) := by
  obtain ⟨l1, l2⟩ := locB_ok ok hl
  have hN : X.N[i]? = some x := by rw [ok.hN]; exact ixS_get hi
  have key : ∀ (f : Int → Int → Int) (D : Ends) (σ : L2.St) (H : Hp), (∃ m0 H0 m A A1 ρ a b, Ex m0 H0 m H ∧ RE m A ρ σ H ∧ ρ[i]? = some (some (.int a)) ∧ evH Φ e' ρ A = some (.int b, A1) ∧ ∀ m σ H, Ex m0 H0 m H → RE m A1 (ρ.set i (some (.int (f a b)))) σ H → D.nx σ H) → tAug i (tV Φ e') (ipI f) D σ H := by
    intro f D σ H ⟨m0, H0, m, A, A1, ρ, a, b, x, re, h1, h2, q⟩
    obtain ⟨v, g1, g2⟩ := re.get _ _ h1
    refine ⟨v, g1, m, A, ρ, .int b, A1, re, h2, fun w m1 H1 s1 g3 r1 => ⟨a, b, g2.theInt, r1.theInt, ?_⟩⟩
    exact q m1 _ _ (x.trans s1) ((re.ex s1 g3).put (List.getElem?_eq_some_iff.mp h1).1 (.int _))
  rcases hop with rfl | rfl
  · refine (ps_aug ok.nd hN l1 he ip_add l2).imp fun D σ H ⟨m0, H0, m, A, ρ, o, x, re, ee, q⟩ => key _ D σ H ?_
    rw [exH] at ee
    split at ee
    · rename_i a h1
      split at ee
      · rename_i b A1 h2
        cases ee
        exact ⟨m0, H0, m, A, A1, ρ, a, b, x, re, h1, h2, q⟩
      · cases ee
    · cases ee
  · refine (ps_aug ok.nd hN l1 he ip_sub l2).imp fun D σ H ⟨m0, H0, m, A, ρ, o, x, re, ee, q⟩ => key _ D σ H ?_
    rw [exH] at ee
    split at ee
    · rename_i a h1
      split at ee
      · rename_i b A1 h2
        cases ee
        exact ⟨m0, H0, m, A, A1, ρ, a, b, x, re, h1, h2, q⟩
      · cases ee
    · cases ee
theorem recv_base {l : Expr} (h : recvB l = true) (name : Str) (env : PySem.Env) : attributeBase l name env (eval l env) = eval l env := by
  cases l <;> first | rfl | cases h
theorem few1 {e : Expr} (hp : plainE e = true) (cpos : Pos) (env : PySem.Env) : ((backTo cpos (starEach [e] env)).all (fun x => !x.1) && (backToKw cpos (keywordEach [] env)).all (fun x => x.1.isSome)
      && decide (([e] : List Expr).length + ([] : List Keyword).length + (if ([] : List Keyword).isEmpty then 0 else 1) < 30)) = true := by
  rw [star_plain hp]
  rfl
theorem few2 {e f : Expr} (hp : plainE e = true) (hp2 : plainE f = true) (cpos : Pos) (env : PySem.Env) : ((backTo cpos (starEach [e, f] env)).all (fun x => !x.1) && (backToKw cpos (keywordEach [] env)).all (fun x => x.1.isSome)
      && decide (([e, f] : List Expr).length + ([] : List Keyword).length + (if ([] : List Keyword).isEmpty then 0 else 1) < 30)) = true := by
  rw [star_plain hp, star_plain hp2]
  rfl
theorem s_app {l e : Expr} {ap cp : Pos} {a' e' : XE} (hl : PE X l (tV Φ a')) (hr : recvB l = true) (he : PE X e (tV Φ e')) (hp : plainE e = true) (hline : (ap.endLine == cp.line) = true) : PS X (.Expr (.Call (.Attribute l "append" ap) [e] [] cp) pos) (tVS Φ (.app a' e')) := by
  refine (ps_expr (pe_bm PySem.F.plainAttrs_list PySem.F.slot_list_append PySem.F.type_list_append mt_append hl (pa_cons he pa_nil (star_plain hp _ _)) (recv_base hr _ _) (few1 hp cp X.env) hline (star_plain hp _ _) rfl)).imp fun D σ H ⟨m0, H0, m, A, ρ, o, x, re, ee, q⟩ => ?_
  rw [exH] at ee
  split at ee
  rotate_left
  · cases ee
  rename_i y A1 h1
  split at ee
  rotate_left
  · cases ee
  rename_i w A2 h2
  obtain ⟨A3, h3, rfl⟩ := Option.map_eq_some_iff.mp ee
  obtain ⟨n, ws, ws', rfl, h4, h5, rfl⟩ := putW_some h3
  unfold appN at h5
  split at h5 <;> cases h5
  rename_i hlen
  refine ⟨m, A, ρ, _, A1, re, h1, fun vo m1 H1 s1 g1 r1 => ?_⟩
  cases r1 with
  | ref r1 =>
  obtain ⟨_, us, _, q1, _⟩ := g1.lst r1
  refine ⟨.inl ⟨rfl, _, SqL.of q1⟩, m1, A1, ρ, w, A2, re.ex s1 g1, h2, fun v m2 H2 s2 g2 r2 => ?_⟩
  have r1' := s2.pre _ _ r1
  obtain ⟨vs, p1, p2, p3⟩ := g2.cell _ _ _ r1' h4
  have hlen' : vs.length < lim := by rw [p3.len]; exact hlen
  obtain ⟨e3, g3⟩ := put_cell g2 r1' (vs := vs ++ [v]) (ws := ws ++ [w]) (by rw [List.length_append, List.length_singleton]; exact hlen') (p3.app (.cons r2 .nil))
  exact ⟨_, vs, v, rfl, rfl, p1, limLt (Nat.le_of_lt hlen'), q m2 σ _ ((x.trans s1).trans (s2.trans e3)) (((re.ex s1 g1).ex s2 g2).ex e3 g3)⟩
theorem s_ins {l kk e : Expr} {ap cp : Pos} {a' k' e' : XE} (hl : PE X l (tV Φ a')) (hr : recvB l = true) (hk : PE X kk (tV Φ k')) (he : PE X e (tV Φ e')) (hpk : plainE kk = true) (hp : plainE e = true) (hline : (ap.endLine == cp.line) = true) :
    PS X (.Expr (.Call (.Attribute l "insert" ap) [kk, e] [] cp) pos) (tVS Φ (.ins a' k' e')) := by
  refine (ps_expr (pe_bm PySem.F.plainAttrs_list PySem.F.slot_list_insert PySem.F.type_list_insert mt_insert hl (pa_cons hk (pa_cons he pa_nil (star_plain hp _ _)) (star_plain hpk _ _)) (recv_base hr _ _) (few2 hpk hp cp X.env) hline (star_plain hpk _ _) (star_any fun z hz => by simp at hz; subst hz; exact hp))).imp fun D σ H ⟨m0, H0, m, A, ρ, o, x, re, ee, q⟩ => ?_
  rw [exH] at ee
  split at ee
  rotate_left
  · cases ee
  rename_i y A1 h1
  split at ee
  rotate_left
  · cases ee
  rename_i j A2 h2
  split at ee
  rotate_left
  · cases ee
  rename_i w A3 h2b
  obtain ⟨A4, h3, rfl⟩ := Option.map_eq_some_iff.mp ee
  obtain ⟨n, ws, ws', rfl, h4, h5, rfl⟩ := putW_some h3
  unfold insN at h5
  split at h5
  rotate_left
  · cases h5
  rename_i jj
  split at h5 <;> cases h5
  rename_i hh
  refine ⟨m, A, ρ, _, A1, re, h1, fun vo m1 H1 s1 g1 r1 => ?_⟩
  cases r1 with
  | ref r1 =>
  obtain ⟨_, us, _, q1, _⟩ := g1.lst r1
  refine ⟨.inl ⟨rfl, _, SqL.of q1⟩, m1, A1, ρ, _, A2, re.ex s1 g1, h2, fun vj m2 H2 s2 g2 r2 => ⟨m2, A2, ρ, w, A3, (re.ex s1 g1).ex s2 g2, h2b, fun v m3 H3 s3 g3 r3 => ?_⟩⟩
  have r1' := s3.pre _ _ (s2.pre _ _ r1)
  obtain ⟨vs, p1, p2, p3⟩ := g3.cell _ _ _ r1' h4
  have hlen' : vs.length < lim := by rw [p3.len]; exact hh.1
  obtain ⟨e3, g4⟩ := put_cell g3 r1' (vs := vs.take jj.toNat ++ [v] ++ vs.drop jj.toNat) (ws := ws.take jj.toNat ++ [w] ++ ws.drop jj.toNat) (by simp only [List.length_append, List.length_take, List.length_drop, List.length_singleton]; omega) (((p3.take jj.toNat).app (.cons r3 .nil)).app (p3.drop jj.toNat))
  refine ⟨_, vs, jj, v, rfl, by rw [r2.theInt], p1, limLt (Nat.le_of_lt hlen'), hh.2.1, by have := hh.2.2; omega, ?_⟩
  exact q m3 σ _ ((x.trans s1).trans (s2.trans (s3.trans e3))) ((((re.ex s1 g1).ex s2 g2).ex s3 g3).ex e3 g4)
theorem len_eraseV {α : Type} (xs : List α) (j : Nat) : (xs.eraseIdx j).length ≤ xs.length := by
  rw [List.length_eraseIdx]
  split <;> omega
theorem s_pop (ok : Cok Φ c k X) {x : Str} {px : Pos} {l kk : Expr} {ap cp : Pos} {i : Nat} {a' k' : XE} (hlx : locB c x = true) (hi : ixS x c.N = some i) (hl : PE X l (tV Φ a')) (hr : recvB l = true) (hk : PE X kk (tV Φ k')) (hpk : plainE kk = true) (hline : (ap.endLine == cp.line) = true) :
    PS X (.Assign [.Name x px] (.Call (.Attribute l "pop" ap) [kk] [] cp) pos) (tVS Φ (.pop i a' k')) := by
  obtain ⟨l1, l2⟩ := locB_ok ok hlx
  have hN : X.N[i]? = some x := by rw [ok.hN]; exact ixS_get hi
  refine (ps_set ok.nd hN l1 (pe_bm PySem.F.plainAttrs_list PySem.F.slot_list_pop PySem.F.type_list_pop mt_popAt hl (pa_cons hk pa_nil (star_plain hpk _ _)) (recv_base hr _ _) (few1 hpk cp X.env) hline (star_plain hpk _ _) rfl) rfl l2).imp fun D σ H ⟨m0, H0, m, A, ρ, o, x, re, ee, q⟩ => ?_
  rw [exH] at ee
  split at ee
  rotate_left
  · cases ee
  rename_i n A1 h1
  split at ee
  rotate_left
  · cases ee
  rename_i j A2 h2
  split at ee
  rotate_left
  · cases ee
  rename_i ws hws
  split at ee
  rotate_left
  · cases ee
  rename_i hh
  split at ee
  rotate_left
  · cases ee
  rename_i w hw
  cases ee
  refine ⟨m, A, ρ, _, A1, re, h1, fun vo m1 H1 s1 g1 r1 => ?_⟩
  cases r1 with
  | ref r1 =>
  obtain ⟨_, us, _, q1, _⟩ := g1.lst r1
  refine ⟨.inl ⟨rfl, _, SqL.of q1⟩, m1, A1, ρ, _, A2, re.ex s1 g1, h2, fun vj m2 H2 s2 g2 r2 => ?_⟩
  have r1' := s2.pre _ _ r1
  obtain ⟨vs, p1, p2, p3⟩ := g2.cell _ _ _ r1' hws
  obtain ⟨v, y1, y2⟩ := p3.get hw
  have hml : j.toNat < vs.length := (List.getElem?_eq_some_iff.mp y1).1
  obtain ⟨e3, g3⟩ := put_cell g2 r1' (vs := vs.eraseIdx j.toNat) (ws := ws.eraseIdx j.toNat) (Nat.le_trans (len_eraseV vs j.toNat) p2) (p3.erase j.toNat)
  refine ⟨_, vs, j, j.toNat, v, rfl, by rw [r2.theInt], p1, by omega, by have := limOk p2; rw [sizeLine_eq] at this; omega, PySem.StrLaws.seqIndex_nonneg hh.1 (by omega), y1, ?_⟩
  exact q m2 _ _ ((x.trans s1).trans (s2.trans e3)) ((((re.ex s1 g1).ex s2 g2).ex e3 g3).put hh.2.2 (y2.ex g2 e3))
def rRemD (K : PySem.W.Frag) : V → List V → Hp → VK → Prop := fun x xs H Q => ∃ (a : Addr) (y : V) (d : PyData) (vs : List V) (ds : List PyData) (j : Nat) (z : PyData), x = V.ref a ∧ xs = [y] ∧ H a = some (.lst vs) ∧ DpAll K H vs ds ∧ Dp K H y d ∧
  SeqAt.shaped (.list ds) = true ∧ SeqAt.shaped d = true ∧ ds[j]? = some z ∧ PyData.eqv z d = true ∧ (∀ (m : Nat) (z' : PyData), m < j → ds[m]? = some z' → PyData.eqv z' d = false) ∧ Q .non (upd H a (.lst (vs.eraseIdx j)))
theorem mt_removeD (hu : X.A.units + 65 < cLine) : MtM X "list.remove" (rRemD X.K) := by
  intro pins s σ H x xs v us Q I rx rxs h
  obtain ⟨a, y, d, vs, ds, j, z, rfl, rfl, hH, ha, hy, sl, sd, hz, hzj, hno, q⟩ := h
  cases rx
  obtain ⟨uy, rfl, ry⟩ := rxs.one
  obtain ⟨bs, r1⟩ := Dp.reads I d y uy hy ry
  have hxs : PyData.canLayAll0 ds = true := SeqAt.canLay_of_shaped sl
  have hroom : X.A.units + 1 + min (PyData.depthAll ds) d.depth < cLine := room_in_shaped sd hu
  obtain ⟨zz, its, n, rv, hlv, ho⟩ := I.lstM hH
  obtain ⟨as, h4⟩ := Dp.readsAll I ds _ its ha rv
  have hn : its.length = ds.length := SeqAt.ReadsAll.length ds its as h4
  have hmap : its.map (SeqAt.readOf s.heap) = ds := SeqAt.readsAll_map ds its as hxs h4
  have hsl := sizeLine_eq
  obtain ⟨hjd, _⟩ := List.getElem?_eq_some_iff.mp hz
  have hjl : j < its.length := by omega
  have hj : j < its.toArray.size := by simpa using hjl
  have at_ : ∀ (m : Nat) (hm : m < its.toArray.size) (z' : PyData), ds[m]? = some z' → SeqAt.readOf s.heap its.toArray[m] = z' := by
    intro m hm z' hz'
    have hml : m < its.length := by simpa using hm
    rw [← hmap, List.getElem?_map, List.getElem?_eq_getElem hml] at hz'
    have e1 : SeqAt.readOf s.heap its[m] = z' := Option.some.inj (show some (SeqAt.readOf s.heap its[m]) = some z' from hz')
    simpa using e1
  refine call_meets PySem.F.slot_list_remove ⟨_, ho, rfl⟩ PySem.F.entry_list_remove (PySem.F.args_list_remove_2 _ _)
    (SeqAt.list_removeAt a its.toArray n none #[] uy (fun u => PyData.eqv (SeqAt.readOf s.heap u) d) j hj ?_ ?_ (by rw [List.size_toArray]; omega)) ⟨ho, SeqAt.items_eqAt (vs := its.toArray) (show ReadsAll s.heap its.toArray.toList ds as from h4) r1 hxs (SeqAt.canLay_of_shaped sd) hroom, ?_⟩
  · show PyData.eqv (SeqAt.readOf s.heap its.toArray[j]) d = true
    rw [at_ j hj z hz]
    exact hzj
  · intro m hm hmj
    have hmd : m < ds.length := by omega
    have hz' : ds[m]? = some ds[m] := List.getElem?_eq_getElem hmd
    show PyData.eqv (SeqAt.readOf s.heap its.toArray[m]) d = false
    rw [at_ m hm _ hz']
    exact hno m _ hmj hz'
  · refine ⟨.non, _, I.lset (its' := its.eraseIdx j) (t' := s.toks) hH ho ?_ (rv.eraseIdx j) ?_, rfl, q⟩
    · show its.toArray.eraseIdxIfInBounds j = (its.eraseIdx j).toArray
      rw [List.eraseIdxIfInBounds_toArray]
    · have := len_erase vs j
      omega
theorem plD_ok {d : D} : ∀ {ds : List D} {j : Nat}, plD d ds = some j → ∃ z, ds[j]? = some z ∧ PyData.eqv z d = true ∧ ∀ (m : Nat) (z' : D), m < j → ds[m]? = some z' → PyData.eqv z' d = false
  | [], _, h => by cases h
  | x :: xs, j, h => by
    unfold plD at h
    split at h
    · rename_i hx
      cases h
      exact ⟨x, rfl, hx, fun m _ hm => absurd hm (Nat.not_lt_zero m)⟩
    · rename_i hx
      rw [Option.map_eq_some_iff] at h
      obtain ⟨j', h1, rfl⟩ := h
      obtain ⟨z, h2, h3, h4⟩ := plD_ok h1
      refine ⟨z, by simpa using h2, h3, fun m z' hm hz => ?_⟩
      cases m with
      | zero =>
        simp at hz
        subst hz
        simpa using hx
      | succ m => exact h4 m z' (by omega) (by simpa using hz)
theorem s_rem (ok : Cok Φ c k X) {l e : Expr} {ap cp : Pos} {a' e' : XE} (hl : PE X l (tV Φ a')) (hr : recvB l = true) (he : PE X e (tV Φ e')) (hp : plainE e = true) (hline : (ap.endLine == cp.line) = true) : PS X (.Expr (.Call (.Attribute l "remove" ap) [e] [] cp) pos) (tVS Φ (.rem a' e')) := by
  have hu : X.A.units + 65 < cLine := by
    have := ok.room.un
    omega
  refine (ps_expr (pe_bm PySem.F.plainAttrs_list PySem.F.slot_list_remove PySem.F.type_list_remove (mt_removeD hu) hl (pa_cons he pa_nil (star_plain hp _ _)) (recv_base hr _ _) (few1 hp cp X.env) hline (star_plain hp _ _) rfl)).imp fun D σ H ⟨m0, H0, m, A, ρ, o, x, re, ee, q⟩ => ?_
  rw [exH] at ee
  split at ee
  rotate_left
  · cases ee
  rename_i y A1 h1
  split at ee
  rotate_left
  · cases ee
  rename_i w A2 h2
  obtain ⟨A3, h3, rfl⟩ := Option.map_eq_some_iff.mp ee
  obtain ⟨n, ws, ws', rfl, h4, h5, rfl⟩ := putW_some h3
  unfold remN at h5
  split at h5
  rotate_left
  · cases h5
  rename_i ds d hds hd
  split at h5
  rotate_left
  · cases h5
  rename_i hsh
  rw [Bool.and_eq_true] at hsh
  obtain ⟨j, hj, rfl⟩ := Option.map_eq_some_iff.mp h5
  obtain ⟨z, hz, hzj, hno⟩ := plD_ok hj
  refine ⟨m, A, ρ, _, A1, re, h1, fun vo m1 H1 s1 g1 r1 => ?_⟩
  cases r1 with
  | ref r1 =>
  obtain ⟨_, us, _, q1, _⟩ := g1.lst r1
  refine ⟨.inl ⟨rfl, _, SqL.of q1⟩, m1, A1, ρ, w, A2, re.ex s1 g1, h2, fun v m2 H2 s2 g2 r2 => ?_⟩
  have r1' := s2.pre _ _ r1
  obtain ⟨vs, p1, p2, p3⟩ := g2.cell _ _ _ r1' h4
  obtain ⟨e3, g3⟩ := put_cell g2 r1' (vs := vs.eraseIdx j) (ws := ws.eraseIdx j) (Nat.le_trans (len_eraseV vs j) p2) (p3.erase j)
  exact ⟨_, v, d, vs, ds, j, z, rfl, rfl, p1, RvL.dp g2 (denL_some hds) p3, r2.dp g2 (den_some hd), hsh.1, hsh.2, hz, hzj, hno, q m2 σ _ ((x.trans s1).trans (s2.trans e3)) (((re.ex s1 g1).ex s2 g2).ex e3 g3)⟩
end
end VI
set_option Elab.async false
set_option linter.all false
set_option maxRecDepth 100000
set_option maxHeartbeats 4000000
namespace VI
open PySem PySem.Spec PyProof.Rows L2
def whlN (t : HEnv → AH → Option (W × AH)) (f : HEnv → AH → Option OutH) : Nat → HEnv → AH → Option OutH
  | 0, _, _ => none
  | n + 1, ρ, A => match t ρ A with
    | some (.bl true, A1) => match f ρ A1 with
      | some (.nx ρ' A') => whlN t f n ρ' A'
      | some (.ct ρ' A') => whlN t f n ρ' A'
      | some (.bk ρ' A') => some (.nx ρ' A')
      | some (.rt x A') => some (.rt x A')
      | none => none
    | some (.bl false, A1) => some (.nx ρ A1)
    | _ => none
theorem whl_n (t : HEnv → AH → Option (W × AH)) (f : HEnv → AH → Option OutH) : ∀ (ρ : HEnv) (A : AH) (o : OutH), whlH t f ρ A = some o → ∃ n, whlN t f n ρ A = some o := by
  apply whlH.partial_correctness t f (fun ρ A o => ∃ n, whlN t f n ρ A = some o)
  intro g ih ρ A o h
  split at h
  · rename_i h1
    split at h
    · rename_i ρ' A' h2
      obtain ⟨n, hn⟩ := ih _ _ _ h
      exact ⟨n + 1, by simp only [whlN, h1, h2, hn]⟩
    · rename_i ρ' A' h2
      obtain ⟨n, hn⟩ := ih _ _ _ h
      exact ⟨n + 1, by simp only [whlN, h1, h2, hn]⟩
    · rename_i ρ' A' h2
      exact ⟨1, by simp only [whlN, h1, h2, h]⟩
    · rename_i x A' h2
      cases h
      exact ⟨1, by simp only [whlN, h1, h2]⟩
    · cases h
  · rename_i h1
    exact ⟨1, by simp only [whlN, h1, h]⟩
  · cases h
section
variable {X : Cx} {Φ : Fns} {c : Co} {k : Nat} {pos : Pos}
theorem passes (ok : Cok Φ c k X) : PassesOwn (model X.prog X.w) X.A X.env X.xe := by
  rw [ok.xe]
  exact PassesOwn.never
theorem s_whl (ok : Cok Φ c k X) {t : Expr} {b : List Stmt} {t' : XE} {b' : XSs} (ht : PT X t (tVT Φ t')) (hb : PSs X b (tVSs Φ b')) : PS X (.While t b [] pos) (tVS Φ (.whl t' b')) := (ps_while (passes ok) ht hb).imp fun D σ H ⟨m0, H0, m, A, ρ, o, x, re, e, q⟩ => by
  rw [exH] at e
  obtain ⟨n, hn⟩ := whl_n _ _ _ _ _ e
  refine ⟨fun n σ H => ∃ m A ρ, Ex m0 H0 m H ∧ RE m A ρ σ H ∧ whlN (evH Φ t') (exsH Φ b') n ρ A = some o, ⟨n, m, A, ρ, x, re, hn⟩, ?_⟩
  rintro n σ1 H1 ⟨m1, A1, ρ1, x1, re1, h1⟩
  cases n with
  | zero => cases h1
  | succ n =>
    simp only [whlN] at h1
    split at h1
    · rename_i A2 h2
      refine ⟨m1, A1, ρ1, true, A2, re1, h2, fun m2 H2 s2 g2 => iteT ?_⟩
      refine ⟨fun σ' H' => ∃ m' A' ρ', Ex m0 H0 m' H' ∧ RE m' A' ρ' σ' H' ∧ whlN (evH Φ t') (exsH Φ b') n ρ' A' = some o, fun σ' H' z => ⟨n, Nat.lt_succ_self n, z⟩, ?_⟩
      have x2 := x1.trans s2
      have re2 := re1.ex s2 g2
      split at h1
      · rename_i ρ' A' h3
        exact ⟨m0, H0, m2, A2, ρ1, _, x2, re2, h3, fun m' σ' H' y r => ⟨m', A', ρ', y, r, h1⟩⟩
      · rename_i ρ' A' h3
        exact ⟨m0, H0, m2, A2, ρ1, _, x2, re2, h3, fun m' σ' H' y r => ⟨m', A', ρ', y, r, h1⟩⟩
      · rename_i ρ' A' h3
        cases h1
        exact ⟨m0, H0, m2, A2, ρ1, _, x2, re2, h3, fun m' σ' H' y r => q m' σ' H' y r⟩
      · rename_i w A' h3
        cases h1
        exact ⟨m0, H0, m2, A2, ρ1, _, x2, re2, h3, fun v m' H' y g r => q v m' H' y g r⟩
      · cases h1
    · rename_i A2 h2
      cases h1
      exact ⟨m1, A1, ρ1, false, A2, re1, h2, fun m2 H2 s2 g2 => iteF (q m2 σ1 H2 (x1.trans s2) (re1.ex s2 g2))⟩
    · cases h1
noncomputable def forFH (Φ : Fns) (tg : XT) (b : XSs) : W → HEnv → AH → Option OutH := fun w ρ A => match setTW ρ tg w A with
  | some ρ1 => exsH Φ b ρ1 A
  | none => none
theorem exH_for {tg : XT} {it : XI} {b : XSs} {ρ : HEnv} {A : AH} : exH Φ (.for tg it b) ρ A = match eviH Φ it ρ A with
    | some (ws, g, A1) => forH (forFH Φ tg b) g ws ρ A1
    | none => none := by
  rw [exH]
  rfl
theorem forH_guard {f : W → HEnv → AH → Option OutH} {g : Gd} {ws : List W} {ρ : HEnv} {A : AH} {o : OutH} (h : forH f g ws ρ A = some o) : gOk g A := by
  cases ws <;> unfold forH at h <;> split at h <;> first | assumption | cases h
theorem for_core {K : PySem.W.Frag} {m0 m1 : List Addr} {H0 H1 : Hp} {A1 : AH} {ρ : HEnv} {σ : L2.St} {tg' : XT} {b' : XSs} {J : It} {ws : List W} {g : Gd} {o : OutH} {D : Ends} (x1 : Ex m0 H0 m1 H1) (re1 : RE m1 A1 ρ σ H1) (wk : Wk m1 H1 J ws g) (e : forH (forFH Φ tg' b') g ws ρ A1 = some o) (q : PostO m0 H0 D o) :
    ∃ W : Nat → Nat → L2.St → Hp → Prop, (∃ n, W 0 n σ H1) ∧ ∀ i n σ H, W i n σ H →
      (J.stop i H ∧ D.nx σ H) ∨ (J.go i H ∧ ∃ N : L2.St → Hp → Prop, (∀ σ' H', N σ' H' → ∃ m', m' < n ∧ W (i + 1) m' σ' H') ∧ ∀ x H', J.yld i H x H' → tgV K tg' x σ H' fun σ2 H2 => tVSs Φ b' { D with nx := N, ct := N, bk := D.nx } σ2 H2) := by
  refine ⟨fun i n σ H => n = ws.length - i ∧ i ≤ ws.length ∧ ∃ m A ρi, Ex m1 H1 m H ∧ RE m A ρi σ H ∧ forH (forFH Φ tg' b') g (ws.drop i) ρi A = some o, ⟨ws.length, by simp, Nat.zero_le _, m1, A1, ρ, re1.hr.refl, re1, by simpa using e⟩, ?_⟩
  rintro i n σi Hi ⟨rfl, hi, m, A, ρi, xi, rei, hgo⟩
  obtain ⟨w1, w2, w3⟩ := wk i m A Hi xi rei.hr (forH_guard hgo)
  by_cases hlt : i < ws.length
  · refine .inr ⟨w1 hlt, fun σ' H' => ∃ m' A' ρ', Ex m1 H1 m' H' ∧ RE m' A' ρ' σ' H' ∧ forH (forFH Φ tg' b') g (ws.drop (i + 1)) ρ' A' = some o, fun σ' H' z => ⟨ws.length - (i + 1), by omega, rfl, hlt, z⟩, fun x H' hy => ?_⟩
    have hd : ws[i]? = some ws[i] := List.getElem?_eq_getElem hlt
    obtain ⟨s2, g2, rx⟩ := w3 x H' hy _ hd
    rw [List.drop_eq_getElem_cons hlt] at hgo
    unfold forH at hgo
    split at hgo
    rotate_left
    · cases hgo
    have re2 := rei.ex s2 g2
    have x2 := xi.trans s2
    generalize hF : forFH Φ tg' b' ws[i] ρi A = r at hgo
    unfold forFH at hF
    cases hs : setTW ρi tg' ws[i] A with
    | none => rw [hs] at hF; subst hF; cases hgo
    | some ρ1 =>
      rw [hs] at hF
      have hF : exsH Φ b' ρ1 A = r := hF
      refine tgV_ok re2 hs rx fun σ2 re3 _ => ?_
      cases r with
      | none => cases hgo
      | some r =>
        refine ⟨m1, H1, m, A, ρ1, r, x2, re3, hF, ?_⟩
        cases r with
        | nx ρ' A' => exact fun m' σ' H' y r => ⟨m', A', ρ', y, r, hgo⟩
        | ct ρ' A' => exact fun m' σ' H' y r => ⟨m', A', ρ', y, r, hgo⟩
        | bk ρ' A' =>
          cases hgo
          exact fun m' σ' H' y r => q m' σ' H' (x1.trans y) r
        | rt w A' =>
          cases hgo
          exact fun v m' H' y g r => q v m' H' (x1.trans y) g r
  · have hi' : i = ws.length := by omega
    subst hi'
    refine .inl ⟨w2 (Nat.le_refl _), ?_⟩
    rw [List.drop_length] at hgo
    unfold forH at hgo
    split at hgo <;> cases hgo
    exact q m σi Hi (x1.trans xi) rei
theorem s_for (ok : Cok Φ c k X) {tg it : Expr} {b : List Stmt} {tg' : XT} {it' : XI} {b' : XSs} (hi : PI X tg it (tVI Φ it')) (hp : plainE it = true) (hg : PG X tg (tgV X.K tg')) (hb : PSs X b (tVSs Φ b')) : PS X (.For tg it b [] pos) (tVS Φ (.for tg' it' b')) := by
  refine (ps_for (passes ok) ok.calm hi hg hb (folded_plain hp X.env)).imp fun D σ H ⟨m0, H0, m, A, ρ, o, x, re, e, q⟩ => ?_
  rw [exH_for] at e
  split at e
  rotate_left
  · cases e
  rename_i ws g A1 hds
  exact ⟨m, A, ρ, ws, g, A1, re, hds, fun J m1 H1 s1 g1 wk => for_core (x.trans s1) (re.ex s1 g1) wk e q⟩

structure SndS (Φ : Fns) (n : Nat) : Prop where
  s : ∀ c X k, Cok Φ c k X → ∀ s s', trS n c s = some s' → PS X s (tVS Φ s')
  ss : ∀ c X k, Cok Φ c k X → ∀ s s', trSs n c s = some s' → PSs X s (tVSs Φ s')
theorem snd_s {n : Nat} (S : SndS Φ n) (ok : Cok Φ c k X) {s : Stmt} {s' : XS} (h : trS (n + 1) c s = some s') : PS X s (tVS Φ s') := by
  have E := sound Φ n
  cases s with
  | Return e p =>
    cases e with
    | none => simp only [trS] at h; cases h
    | some e =>
      simp only [trS] at h
      split at h
      · rename_i hp
        rw [Option.map_eq_some_iff] at h
        obtain ⟨e', h1, rfl⟩ := h
        exact s_ret (E.e c X k ok e e' h1)
      · cases h
  | If t a b p =>
    simp only [trS] at h
    split at h
    · split at h
      · rename_i t' a' b' h1 h2 h3
        cases h
        exact s_ife (E.t c X k ok t t' h1) (S.ss c X k ok a a' h2) (S.ss c X k ok b b' h3)
      · cases h
    · cases h
  | While t b e p =>
    cases e with
    | cons _ _ => simp only [trS] at h; cases h
    | nil =>
      simp only [trS] at h
      split at h
      · split at h
        · rename_i t' b' h1 h2
          cases h
          exact s_whl ok (E.t c X k ok t t' h1) (S.ss c X k ok b b' h2)
        · cases h
      · cases h
  | For tg it b e p =>
    cases e with
    | cons _ _ => simp only [trS] at h; cases h
    | nil =>
      simp only [trS] at h
      split at h
      · rename_i hp
        split at h
        · rename_i it' tg' b' h1 h2 h3
          cases h
          exact s_for ok (E.i c X k ok it tg it' h1).1 hp (s_tg ok h2) (S.ss c X k ok b b' h3)
        · cases h
      · cases h
  | Continue p => simp only [trS] at h; cases h; exact s_cont
  | Break p => simp only [trS] at h; cases h; exact s_brk
  | Pass p => simp only [trS] at h; cases h; exact s_pass
  | Raise a b p => simp only [trS] at h; cases h; exact s_stop
  | AugAssign tg op e p =>
    cases tg with
    | Name x q =>
      simp only [trS] at h
      split at h
      · rename_i hp
        split at h
        · rename_i i e' h1 h2
          split at h
          · rename_i hop
            cases h
            exact s_aug ok hp.2 h1 (E.e c X k ok e e' h2) hop
          · cases h
        · cases h
      · cases h
    | _ => simp only [trS] at h; cases h
  | Expr v p =>
    cases v with
    | Call f as kw cp =>
      cases kw with
      | cons _ _ => cases f <;> simp only [trS] at h <;> cases h
      | nil =>
        cases f with
        | Name f q =>
          simp only [trS] at h
          rw [Option.map_eq_some_iff] at h
          obtain ⟨e', h1, rfl⟩ := h
          exact s_exp (E.e c X k ok _ e' h1) rfl
        | Attribute l m ap =>
          simp only [trS] at h
          split at h
          · cases h
          rename_i hline
          have hline : (ap.endLine == cp.line) = true := by simpa using hline
          split at h
          · rename_i hm
            subst hm
            split at h
            · split at h
              · rename_i e hp
                split at h
                · rename_i a' e' h1 h2
                  cases h
                  exact s_app (E.e c X k ok _ a' h1) hp.1 (E.e c X k ok _ e' h2) hp.2 hline
                · cases h
              · cases h
            · cases h
          · split at h
            · rename_i hm
              subst hm
              split at h
              · split at h
                · rename_i hp
                  split at h
                  · rename_i a' k' e' h1 h2 h3
                    cases h
                    exact s_ins (E.e c X k ok _ a' h1) hp.1 (E.e c X k ok _ k' h2) (E.e c X k ok _ e' h3) hp.2.1 hp.2.2 hline
                  · cases h
                · cases h
              · cases h
            · split at h
              · rename_i hm
                subst hm
                split at h
                · split at h
                  · rename_i e hp
                    split at h
                    · rename_i a' e' h1 h2
                      cases h
                      exact s_rem ok (E.e c X k ok _ a' h1) hp.1 (E.e c X k ok _ e' h2) hp.2 hline
                    · cases h
                  · cases h
                · cases h
              · cases h
        | _ => simp only [trS] at h; cases h
    | _ => simp only [trS] at h; cases h
  | Assign ts e p =>
    simp only [trS] at h
    unfold trA at h
    split at h
    · split at h
      · rename_i hm
        subst hm
        split at h
        · rename_i hh
          split at h
          · rename_i i a' k' h1 h2 h3
            cases h
            obtain ⟨hl, hk, p1, p2⟩ := hh
            exact s_pop ok hk h1 (E.e c X k ok _ a' h2) p1 (E.e c X k ok _ k' h3) p2 hl
          · cases h
        · cases h
      · split at h
        · rename_i hk
          split at h
          · rename_i i e' h1 h2
            cases h
            exact s_asg ok hk h1 h2
          · cases h
        · cases h
    · split at h
      · rename_i hm
        subst hm
        split at h
        · rename_i hh
          split at h
          · rename_i i a' h1 h2
            cases h
            exact s_strs ok hh.1 hh.2.1 hh.2.2 h1 h2
          · cases h
        · cases h
      · split at h
        · rename_i hk
          split at h
          · rename_i i e' h1 h2
            cases h
            exact s_asg ok hk h1 h2
          · cases h
        · cases h
    · split at h
      · rename_i hh
        split at h
        · rename_i i e' h1 h2
          cases h
          exact s_asg ok hh.2 h1 h2
        · cases h
      · cases h
    · split at h
      · rename_i js h1
        split at h
        · rename_i hck
          rw [Option.map_eq_some_iff] at h
          obtain ⟨as', h2, rfl⟩ := h
          exact s_par ok h1 h2 hck
        · cases h
      · split at h
        · split at h
          · rename_i hh
            split at h
            · rename_i a1 a2 k1' k2' e1' e2' h1 h2 h3 h4 h5 h6
              cases h
              obtain ⟨p1, p2, p3, p4⟩ := hh
              exact s_swp (E.e c X k ok _ a1 h1) (E.e c X k ok _ a2 h2) (E.e c X k ok _ k1' h3) (E.e c X k ok _ k2' h4) (E.e c X k ok _ e1' h5) (E.e c X k ok _ e2' h6) ok p1 p2 p3 p4
            · cases h
          · cases h
        · cases h
    · rename_i ts a b hne
      split at h
      · rename_i hp
        split at h
        · rename_i js e' h1 h2
          cases h
          have htg : trTg c (.Tuple ts a b) = some (.tp js) := by simp only [trTg, h1]; rfl
          refine s_asgT ok htg h2 ?_
          cases e <;> first | rfl | cases hp | skip
          rename_i es kk tp
          exact (hne es kk tp rfl).elim
        · cases h
      · cases h
    · split at h
      · rename_i hp
        split at h
        · rename_i a' k' e' h1 h2 h3
          cases h
          exact s_setx (E.e c X k ok _ a' h1) (E.e c X k ok _ k' h2) (E.e c X k ok _ e' h3) hp.1 hp.2
        · cases h
      · cases h
    · cases h
  | _ => simp only [trS] at h; cases h
theorem snd_ss {n : Nat} (S : SndS Φ n) (ok : Cok Φ c k X) {s : List Stmt} {s' : XSs} (h : trSs (n + 1) c s = some s') : PSs X s (tVSs Φ s') := by
  cases s with
  | nil => simp only [trSs] at h; cases h; exact s_snil
  | cons s ss =>
    simp only [trSs] at h
    split at h
    · rename_i a b h1 h2
      cases h
      exact s_scons (S.s c X k ok s a h1) (S.ss c X k ok ss b h2)
    · cases h
theorem soundS (Φ : Fns) : ∀ n, SndS Φ n
  | 0 => ⟨fun c X k ok s s' h => (by simp only [trS] at h; cases h), fun c X k ok s s' h => (by simp only [trSs] at h; cases h)⟩
  | n + 1 => ⟨fun c X k ok s s' h => snd_s (soundS Φ n) ok h, fun c X k ok s s' h => snd_ss (soundS Φ n) ok h⟩
end
theorem start_get {N : List Str} {vs : List V} {i : Nat} {v : V} (h : vs[i]? = some v) : (L2.start N vs)[i]? = some (some v) := by
  unfold L2.start
  rw [List.getElem?_append_left (by simpa using (List.getElem?_eq_some_iff.mp h).1), List.getElem?_map, h]
  rfl
theorem startW_get {n : Nat} {ws : List W} {i : Nat} {w : W} (h : (startW n ws)[i]? = some (some w)) : ws[i]? = some w := by
  unfold startW at h
  by_cases hi : i < ws.length
  · rw [List.getElem?_append_left (by simpa using hi), List.getElem?_map, Option.map_eq_some_iff] at h
    obtain ⟨d', h1, h2⟩ := h
    cases h2
    exact h1
  · rw [List.getElem?_append_right (by simpa using hi)] at h
    obtain ⟨_, h⟩ := List.getElem?_eq_some_iff.mp h
    rw [List.getElem_replicate] at h
    cases h
theorem RE.start {m : List Addr} {A : AH} {H : Hp} {N : List Str} {vs : List V} {ws : List W} (h : HR m A H) (r : RvL m H vs ws) (hn : ws.length ≤ N.length) : RE m A (startW N.length ws) (L2.start N vs) H := by
  refine ⟨h, ?_, fun i w q => ?_⟩
  · unfold startW L2.start
    rw [List.length_append, List.length_append, List.length_map, List.length_map, List.length_replicate, List.length_replicate, r.len]
  · obtain ⟨v, a, b⟩ := r.get (startW_get q)
    exact ⟨v, start_get a, b⟩
theorem cok_of {P : Program} {w : World} {K : PySem.W.Frag} {mg : Str → Option Value} {base : Heap} {N ps : List Str} {qual : Str} {sc : Scope} {f : Addr} {cd : Value} {A : Around} {outer : List PySem.Env} {s : Shared} {H : Hp} {E : XK} {k : Nat} {Φ : Fns} {gc : List (Str × D)}
    (S : FnScope N ps sc) (hr : Room k (A.deeper (envOfC qual sc s.heap.objs.size f cd))) (tab : ∀ f φ, Φ f = some φ → FnH P w K mg base k f φ) (blt : ∀ x ∈ bnames, mg x = none) (hs : SeerK K) (ht : P.given.tree = none) (hk : 34 ≤ k) (hgc : GcOk gc mg := by exact GcOk.nil) :
    Cok Φ ⟨N, sc, fun _ => true, gc⟩ k (cxOf CX0 P w K mg base N qual sc f cd A outer s H E).nox :=
  ⟨rfl, rfl, rfl, rfl, S.nd, S.kind, hr, tab, blt, rfl, ⟨hs, ht, ⟨_, _, rfl, S.gen, S.co, rfl, rfl⟩, by
    have := hr.dp
    show (A.deeper (envOfC qual sc s.heap.objs.size f cd)).depth + 100 < recursionLimit
    omega⟩, hgc⟩
theorem fn_h {P : Program} {w : World} {K : PySem.W.Frag} {mg : Str → Option Value} {base : Heap} {x qual : Str} {st : Stmt} {f : Addr} {fd : FuncData} {N ps : List Str} {k : Nat} {Φ : Fns} {body : XSs} {gc : List (Str × D)}
    (F : FunD K x qual (defArgs st) (defBody st) (defScope st) [] [] f fd) (S : FnScope N ps (defScope st)) (htr : trSs 200 ⟨N, defScope st, fun _ => true, gc⟩ (defBody st) = some body)
    (tab : ∀ f φ, Φ f = some φ → FnH P w K mg base k f φ) (blt : ∀ x ∈ bnames, mg x = none) (hN : ps.length ≤ N.length) (hs : SeerK K) (ht : P.given.tree = none) (hk : 34 ≤ k) (hgc : GcOk gc mg := by exact GcOk.nil) : FnOk P w K mg base CX0 (k + 1) f fd ps (spH (runH Φ N.length ps.length body)) := by
  refine F.ok S (fun vs H Q E h => ?_) (fun cdv A outer s H vs Q E hr h => ?_)
  · obtain ⟨m, A, ws, w, A', h1, h2, h3, _⟩ := h
    unfold runH at h3
    split at h3
    · rename_i hl
      rw [h2.len, hl]
    · cases h3
  · refine ⟨tVSs Φ body, ((soundS Φ 200).ss _ _ k (cok_of S hr tab blt hs ht hk hgc) _ _ htr).nox, ?_⟩
    obtain ⟨m, A, ws, w, A', h1, h2, h3, q⟩ := h
    unfold runH at h3
    split at h3
    rotate_left
    · cases h3
    rename_i hl
    have re := RE.start (N := N) h1 h2 (by rw [hl]; exact hN)
    split at h3
    · rename_i w' A1 h4
      cases h3
      exact ⟨m, H, m, A, _, _, h1.refl, re, h4, fun v m' H' x g r => q v m' H' x g r⟩
    · rename_i ρ A1 h4
      cases h3
      exact ⟨m, H, m, A, _, _, h1.refl, re, h4, fun m' σ' H' x re' => q .non m' H' x re'.hr .non⟩
    · cases h3
def fnsOf : List (Str × Fun) → Fns
  | [], _ => none
  | (x, φ) :: l, f => if f = x then some φ else fnsOf l f
structure AllH (P : Program) (w : World) (K : PySem.W.Frag) (mg : Str → Option Value) (base : Heap) (k : Nat) (l : List (Str × Fun)) : Prop where
  all : ∀ p ∈ l, FnH P w K mg base k p.1 p.2
section
variable {P : Program} {w : World} {K : PySem.W.Frag} {mg : Str → Option Value} {base : Heap} {k : Nat} {l : List (Str × Fun)}
theorem AllH.nil : AllH P w K mg base k [] := ⟨fun p h => by cases h⟩
theorem fns_get {f : Str} {φ : Fun} : ∀ {l : List (Str × Fun)}, fnsOf l f = some φ → (f, φ) ∈ l
  | [], h => by cases h
  | (x, s) :: l, h => by
    unfold fnsOf at h
    split at h
    · rename_i e
      cases h
      subst e
      exact List.mem_cons_self ..
    · exact List.mem_cons_of_mem _ (fns_get h)
theorem AllH.tab (V : AllH P w K mg base k l) : ∀ f φ, fnsOf l f = some φ → FnH P w K mg base k f φ := fun f φ h => V.all _ (fns_get h)
theorem AllH.step {x : Str} {st : Stmt} {f : Addr} {fd : FuncData} {N ps : List Str} {body : XSs} {gc : List (Str × D)} (V : AllH P w K mg base k l) (F : FunD K x x (defArgs st) (defBody st) (defScope st) [] [] f fd)
    (S : FnScope N ps (defScope st)) (htr : trSs 200 ⟨N, defScope st, fun _ => true, gc⟩ (defBody st) = some body) (blt : ∀ x ∈ bnames, mg x = none) (hN : ps.length ≤ N.length) (hs : SeerK K) (ht : P.given.tree = none) (hk : 34 ≤ k)
    (g : mg x = some (.ref f)) (b : Binds K fd ps []) (hgc : GcOk gc mg := by exact GcOk.nil) : AllH P w K mg base (k + 1) ((x, runH (fnsOf l) N.length ps.length body) :: l) := by
  refine ⟨fun p hp => ?_⟩
  cases hp with
  | head => exact ⟨⟨f, fd, ps, g, F.kp, fn_h F S htr V.tab blt hN hs ht hk hgc, b⟩⟩
  | tail _ h => exact (V.all p h).mono (Nat.le_succ k)
end
end VI
set_option Elab.async false
set_option linter.all false
set_option maxRecDepth 100000
set_option maxHeartbeats 4000000
namespace VI
open PySem PySem.Spec PyProof.Rows L2
def scrE : Expr → Option (Str × Nat)
  | .BinOp (.Subscript (.Name s _) (.Slice none (some (.Constant (.int (.ofNat n)) _ _)) none _) _) .Add (.List [.Constant (.int 0) _ _] _) _ => some (s, n)
  | _ => none
def tScr (K : PySem.W.Frag) (n : Nat) : TE := tOp rCat (tSl (rSlL K) (tVar 0) tNoPart (tPart (tC (.int n)))) (tLst (tCons (tC (.int 0)) tNil))
theorem scr_pe {X : Cx} {e : Expr} {s : Str} {n : Nat} (h : scrE e = some (s, n)) (hN : X.N[0]? = some s) (hv : Vis X.env.scope s) (hd : (s == ("__debug__" : Str)) = false) (hcd : (s == ("__classdict__" : Str)) = false) : PE X e (tScr X.K n) ∧ plainE e = true := by
  unfold scrE at h
  split at h
  · cases h
    exact ⟨pe_op op_cat (pe_slice sl_list (pe_var hN hv hd hcd) po_none (po_some pe_int)) (pe_lst (pa_cons pe_int pa_nil)), rfl⟩
  · cases h
theorem cut_take (ns : List Int) (n : Nat) : cutV (ns.map V.int) none (some (n : Int)) = (ns.take n).map V.int := by
  unfold cutV
  rw [HT.sIx_none, HT.sIx_nat, List.drop_zero, Nat.sub_zero, List.length_map, ← List.map_take]
  congr 1
  by_cases h : n ≤ ns.length
  · rw [Nat.min_eq_left h]
  · rw [Nat.min_eq_right (by omega), List.take_of_length_le (Nat.le_refl _), List.take_of_length_le (by omega)]
def cellsOf (ns : List Int) (n : Nat) : List Int := ns.take n ++ [0]
theorem same_new {H : Hp} {p : Addr} {o : HO} (h : H p = none) : Same H (upd H p o) := fun a u e => by
  rw [upd_ne (ne_of_none e h)]
  exact e
theorem scr_in {K : PySem.W.Frag} {n : Nat} {σ : L2.St} {H : Hp} {Q : VK} {a : Addr} {ns : List Int} (h0 : σ[0]? = some (some (.ref a))) (hs : SqL K H a (ns.map V.int)) (hl : ns.length ≤ 1000)
    (k : ∀ p H', Same H H' → H p = none → H' p = some (.lst ((cellsOf ns n).map V.int)) → Q (.ref p) H') : tScr K n σ H Q := by
  refine ⟨_, h0, n, rfl, a, ns.map V.int, rfl, hs, fun p np => ?_⟩
  refine ⟨by show 1 ≤ sizeLine; decide, fun q nq => ?_⟩
  have e1 : Same H (upd H p (.lst (cutV (ns.map V.int) none (some (n : Int))))) := same_new np
  have hpq : p ≠ q := fun z => by rw [← z, upd_same] at nq; cases nq
  have s2 := e1.trans (same_new (o := .lst [V.int 0]) nq)
  have hlen : (cutV (ns.map V.int) none (some (n : Int))).length ≤ 1000 := by
    have := cutV_length (ns.map V.int) none (some (n : Int))
    rw [List.length_map] at this
    omega
  refine ⟨p, q, _, [.int 0], rfl, rfl, by rw [upd_ne hpq]; exact upd_same, upd_same, ?_, fun o no => ?_⟩
  · have hz := sizeLine_eq
    rw [List.length_singleton]
    omega
  · refine k o _ (s2.trans (same_new no)) (s2.free no) ?_
    rw [upd_same, cut_take]
    unfold cellsOf
    rw [List.map_append]
    rfl
def Asked (ns : List Int) : Prop := ns.length ≤ 63 ∧ ∀ z ∈ ns, Builtin.Int.intBits z ≤ 1048576
def spLaw (K : PySem.W.Frag) : Sp := fun vs H Q _ => ∃ (a : Addr) (ns : List Int), vs = [.ref a] ∧ SqL K H a (ns.map V.int) ∧ Asked ns ∧ ∀ H', Q (.bl true) H'
inductive LawB where
  | cells (i n : Nat) (rest : XSs)
  | walk (tg : XT) (n : Nat) (b rest : XSs)
def trLaw (c : Co) : List Stmt → Option LawB
  | .Assign [.Name x _] e _ :: r => match scrE e with
    | some (s, n) => if c.N[0]? = some s ∧ visB c.sc s ∧ (s == ("__debug__" : Str)) = false ∧ (s == ("__classdict__" : Str)) = false ∧ locB c x then match ixS x c.N, trSs 200 c r with
      | some i, some r' => some (.cells i n r')
      | _, _ => none else none
    | none => none
  | .For tg e b [] _ :: r => match scrE e with
    | some (s, n) => if c.N[0]? = some s ∧ visB c.sc s ∧ (s == ("__debug__" : Str)) = false ∧ (s == ("__classdict__" : Str)) = false then match trTg c tg, trSs 200 c b, trSs 200 c r with
      | some tg', some b', some r' => some (.walk tg' n b' r')
      | _, _, _ => none else none
    | none => none
  | _ => none
noncomputable def runLaw (Φ : Fns) (m : Nat) (l : LawB) (ns : List Int) : Option OutH := match l with
  | .cells i n r => if i < m then exsH Φ r ((List.replicate m none).set i (some (.ref 0))) [(cellsOf ns n).map .int] else none
  | .walk tg n b r => match forH (forFH Φ tg b) [(0, (cellsOf ns n).map .int)] ((cellsOf ns n).map .int) (List.replicate m none) [(cellsOf ns n).map .int] with
    | some (.nx ρ A) => exsH Φ r ρ A
    | o => o
theorem start_len {N : List Str} {vs : List V} (h : vs.length ≤ N.length) : (L2.start N vs).length = N.length := by
  unfold L2.start
  rw [List.length_append, List.length_map, List.length_replicate]
  omega
theorem cells_len (ns : List Int) (n : Nat) : (cellsOf ns n).length ≤ ns.length + 1 := by
  unfold cellsOf
  rw [List.length_append, List.length_take, List.length_singleton]
  omega
theorem RE.first {N : List Str} {v : V} {H : Hp} {p : Addr} {ns : List Int} (hN1 : 1 ≤ N.length) (hl : ns.length ≤ lim) (hp : H p = some (.lst (ns.map V.int))) : RE [p] [ns.map W.int] (List.replicate N.length none) (L2.start N [v]) H := by
  refine ⟨⟨rfl, fun i j a e f => ?_, fun n a ws e f => ?_⟩, by rw [List.length_replicate]; exact start_len hN1, fun i w h => ?_⟩
  · cases i <;> cases j <;> simp at e f <;> rfl
  · cases n with
    | zero =>
      simp at e f
      subst e f
      exact ⟨_, hp, by rw [List.length_map]; exact hl, rvL_ints⟩
    | succ n => simp at e
  · rw [List.getElem?_replicate] at h
    split at h <;> cases h
theorem law_h {P : Program} {w : World} {K : PySem.W.Frag} {mg : Str → Option Value} {base : Heap} {x qual scr : Str} {st : Stmt} {f : Addr} {fd : FuncData} {N : List Str} {k : Nat} {Φ : Fns} {l : LawB}
    (F : FunD K x qual (defArgs st) (defBody st) (defScope st) [] [] f fd) (S : FnScope N [scr] (defScope st)) (htr : trLaw ⟨N, defScope st, fun _ => true, []⟩ (defBody st) = some l)
    (tab : ∀ f φ, Φ f = some φ → FnH P w K mg base k f φ) (blt : ∀ x ∈ bnames, mg x = none) (hsk : SeerK K) (ht : P.given.tree = none) (hk : 34 ≤ k)
    (hφ : ∀ ns : List Int, Asked ns → ∃ A, runLaw Φ N.length l ns = some (.rt (.bl true) A)) : FnOk P w K mg base CX0 (k + 1) f fd [scr] (spLaw K) := by
  have hN1 : 1 ≤ N.length := by
    have := congrArg List.length S.pre
    rw [List.length_take, List.length_singleton] at this
    omega
  refine F.ok S (fun vs H Q E h => ?_) (fun cdv A outer s H vs Q E hr h => ?_)
  · obtain ⟨a, ns, rfl, _⟩ := h
    rfl
  · obtain ⟨a, ns, rfl, hs, has, q⟩ := h
    have hl := has.1
    obtain ⟨A', hrun⟩ := hφ ns has
    have ok := cok_of (Φ := Φ) (E := E) (s := s) (H := H) (outer := outer) S hr tab blt hsk ht hk
    have h0 : (L2.start N [V.ref a])[0]? = some (some (.ref a)) := start_get rfl
    have fin : ∀ (m0 : List Addr) (H0 : Hp), PostO m0 H0 { nx := fun _ H' => Q .non H', rt := Q } (.rt (.bl true) A') := fun m0 H0 v m H' s g r => by
      cases r
      exact q H'
    have hcl : ∀ n, (cellsOf ns n).length ≤ lim := fun n => Nat.le_trans (cells_len ns n) (by unfold lim; omega)
    generalize hb : defBody st = body at htr
    unfold trLaw at htr
    split at htr
    · rename_i y py e p r
      split at htr
      · rename_i sn n hse
        split at htr
        · rename_i hh
          split at htr
          · rename_i i r' h1 h2
            cases htr
            obtain ⟨he, hp⟩ := scr_pe (X := (cxOf CX0 P w K mg base N qual (defScope st) f cdv A outer s H E).nox) hse hh.1 (visB_ok hh.2.1) hh.2.2.1 hh.2.2.2.1
            obtain ⟨l1, l2⟩ := locB_ok ok hh.2.2.2.2
            have hsw : swapsWith e (some (.Name y py)) p.line (cxOf CX0 P w K mg base N qual (defScope st) f cdv A outer s H E).nox.env = pure false := by
              unfold scrE at hse
              split at hse
              · rfl
              · cases hse
            refine ⟨tSeq (tAsg (tScr K n) (gName i)) (tVSs Φ r'), (pss_cons (ps_set S.nd (ixS_get h1) l1 he hsw l2) ((soundS Φ 200).ss _ _ k ok _ _ h2)).nox, ?_⟩
            simp only [runLaw] at hrun
            split at hrun
            · rename_i him
              refine scr_in h0 hs (by omega) fun p H' s1 np hp => ?_
              have re := (RE.first (v := V.ref a) hN1 (hcl n) hp).put (i := i) (v := .ref p) (w := .ref 0) (by rw [List.length_replicate]; exact him) (.ref rfl)
              exact ⟨[p], H', [p], _, _, _, re.hr.refl, re, hrun, fin _ _⟩
            · cases hrun
          · cases htr
        · cases htr
      · cases htr
    · rename_i tg e b p r
      split at htr
      · rename_i sn n hse
        split at htr
        · rename_i hh
          split at htr
          · rename_i tg' b' r' h1 h2 h3
            cases htr
            obtain ⟨he, hp⟩ := scr_pe (X := (cxOf CX0 P w K mg base N qual (defScope st) f cdv A outer s H E).nox) hse hh.1 (visB_ok hh.2.1) hh.2.2.1 hh.2.2.2
            have hf := ps_for (pos := p) (passes ok) ok.calm (pi_list he) (s_tg ok h1) ((soundS Φ 200).ss _ _ k ok _ _ h2) (folded_plain hp _)
            refine ⟨_, (pss_cons hf ((soundS Φ 200).ss _ _ k ok _ _ h3)).nox, ?_⟩
            refine scr_in h0 hs (by omega) fun p H' s1 np hp => ⟨p, rfl, ⟨_, SqL.of hp⟩, ?_⟩
            have re := RE.first (v := V.ref a) hN1 (hcl n) hp
            have wk : Wk [p] H' (Itl K p) ((cellsOf ns n).map W.int) [(0, (cellsOf ns n).map W.int)] := wk_list (n := 0) rfl (by simp)
            simp only [runLaw] at hrun
            cases hfo : forH (forFH Φ tg' b') [(0, (cellsOf ns n).map W.int)] ((cellsOf ns n).map W.int) (List.replicate N.length none) [(cellsOf ns n).map W.int] with
            | none => rw [hfo] at hrun; cases hrun
            | some o =>
              rw [hfo] at hrun
              refine for_core re.hr.refl re wk hfo ?_
              cases o with
              | nx ρ A1 => exact fun m1 σ1 H1 x1 re1 => ⟨[p], H', m1, A1, ρ, _, x1, re1, hrun, fin _ _⟩
              | rt w A1 => cases hrun; exact fin _ _
              | bk ρ A1 => cases hrun
              | ct ρ A1 => cases hrun
          · cases htr
        · cases htr
      · cases htr
    · cases htr
end VI
set_option Elab.async false
set_option linter.all false
set_option maxRecDepth 100000
set_option maxHeartbeats 4000000
namespace VI
open PySem PySem.Spec PyProof.Rows L2
theorem ps_nox {X : Cx} {s : Stmt} {t : TS} (h : PS X.nox s t) : PS X s t := ⟨fun pins s σ H D I hw =>
  wpAny_mono (h.run pins s σ H D (I.wish _) hw) (fun _ _ q => q.unwish) fun _ _ z => False.elim z⟩
theorem cok_ofX {CX : CXT} {P : Program} {w : World} {K : PySem.W.Frag} {mg : Str → Option Value} {base : Heap} {N ps : List Str} {qual : Str} {sc : Scope} {f : Addr} {cd : Value} {A : Around} {outer : List PySem.Env} {s : Shared} {H : Hp} {E : XK} {k : Nat} {Φ : Fns} {gc : List (Str × D)}
    (S : FnScope N ps sc) (hr : Room k (A.deeper (envOfC qual sc s.heap.objs.size f cd))) (tab : ∀ f φ, Φ f = some φ → FnH P w K mg base k f φ) (blt : ∀ x ∈ bnames, mg x = none) (hs : SeerK K) (ht : P.given.tree = none) (hk : 34 ≤ k) (hgc : GcOk gc mg := by exact GcOk.nil) :
    Cok Φ ⟨N, sc, fun _ => true, gc⟩ k (cxOf CX P w K mg base N qual sc f cd A outer s H E).nox :=
  ⟨rfl, rfl, rfl, rfl, S.nd, S.kind, hr, tab, blt, rfl, ⟨hs, ht, ⟨_, _, rfl, S.gen, S.co, rfl, rfl⟩, by
    have := hr.dp
    show (A.deeper (envOfC qual sc s.heap.objs.size f cd)).depth + 100 < recursionLimit
    omega⟩, hgc⟩
def spHX (C : Addr) (φ : Fun) (ψ : List W → AH → Option AH) : Sp := fun vs H Q E => ∃ m A ws, HR m A H ∧ RvL m H vs ws ∧ ((∃ w A', φ ws A = some (w, A') ∧ Kn m H A' w Q) ∨ ∃ A', ψ ws A = some A' ∧ ∀ m' H', Ex m H m' H' → HR m' A' H' → E (.ref C) none H')
section
variable {Φ : Fns}
structure ExcC (K : PySem.W.Frag) (mg : Str → Option Value) (x : Str) (C : Addr) : Prop where
  g : mg x = some (.ref C)
  e : PySem.W.excIn K C He.veBase "ValueError.__new__" = true
  k : PySem.W.keepIn K (.ref C) = true
  b : PySem.W.subIn K (.ref C) (.type "BaseException") = some true
  t : PySem.W.typeIn K (.ref C) = some (.type "type")
structure FnXH (P : Program) (w : World) (K : PySem.W.Frag) (mg : Str → Option Value) (base : Heap) (k : Nat) (f : Str) (C : Addr) (φ : Fun) (ψ : List W → AH → Option AH) : Prop where
  ex : ∃ (a : Addr) (fd : FuncData) (ps : List Str), mg f = some (.ref a) ∧ PySem.W.keepIn K (.ref a) = true ∧ FnOk P w K mg base (L2.CX P w) k a fd ps (spHX C φ ψ) ∧ Binds K fd ps []
theorem RE.putS {m : List Addr} {A : AH} {ρ : HEnv} {σ : L2.St} {H : Hp} (re : RE m A ρ σ H) {i : Nat} {v : V} {w : W} (hi : i < ρ.length) (r : Rv m H v w) : RE m A (ρ.set i (some w)) (σ.set i (some v)) H := by
  refine ⟨re.hr, by rw [List.length_set, List.length_set]; exact re.len, fun j u q => ?_⟩
  rw [List.getElem?_set] at q
  split at q
  · rename_i e
    subst e
    cases q
    exact ⟨v, List.getElem?_set_self (by rw [re.len]; exact hi), r⟩
  · rename_i e
    obtain ⟨v', a, b⟩ := re.get j u q
    exact ⟨v', by rw [List.getElem?_set_ne e]; exact a, b⟩
end
end VI
set_option Elab.async false
set_option linter.all false
set_option maxRecDepth 100000
set_option maxHeartbeats 4000000
namespace VI
open PySem PySem.Spec PyProof.Rows L2
def blkPost (M : Model) (A : Around) (E : Value → Shared → Prop) (use : Option (Value → Sem Unit)) (Q : Value → Shared → Prop) (acc : Value) (ce : PySem.Env) : Result → Shared → Prop
  | .ok f, s' => compPost M A E use Q acc ce.locals (.ok f) s'
  | .error x, s' => ∃ m, s'.heap.Ns ce.locals m ∧ ∀ h', Heap.SameBut ce.locals s'.heap h' → ∀ c2 : PySem.Env, c2.frame = ce.frame → wpAny M A (passOn "comprehension.variables-let-go" x c2 : Sem Value) (fun _ _ => False) E { s' with heap := h' }
theorem comp_blk {M : Model} {A : Around} {E : Value → Shared → Prop} {s : Shared} {env : PySem.Env} {e : Expr} {scope : Scope} {pos : Pos} {mk first : Sem Value} {g : Comprehension} {gs : List Comprehension} {cl : List (Str × Addr)} {use : Option (Value → Sem Unit)} {Q : Value → Shared → Prop}
    (h1 : clausesOf e = g :: gs) (h2 : ∀ x, foldedSetIterable g.iter env x = pure x) (h3 : closureFor scope env = pure cl) (h4 : scope.kind = .function) (h5 : ∀ x ∈ scope.names, x.2 = .local → scope.names.lookup x.1 = some .local)
    (h : wpAny M A first (fun x s₁ => wpAny M A (pyIter x) (fun it s₂ => wpAny M A mk (fun acc s₃ => wpAny M A (newFunctionEnv scope env.globals cl [] env.qual none .none (some env)) (fun ce s₄ =>
        codeAny M A (.compStart e 0 it acc { ce with scope := relabel scope env }) (blkPost M A E use Q acc ce) s₄) E s₃) E s₂) E s₁) E s) :
    wpAny M A (comprehension e scope env pos mk false first use) Q E s := by
  unfold comprehension
  rw [h3, h1]
  have id' : ∀ (v : Value) (z : Shared), E v z → E v z := fun _ _ q => q
  refine wpAny_bind (wpAny_mono h (fun x s₁ q₁ => ?_) id')
  refine wpAny_bind (wpAny_standAt (wpAny_bind (wpAny_of_eq (h2 x) (wpAny_bind (wpAny_holding (wpAny_mono q₁ (fun it s₂ q₂ => ?_) id'))))))
  refine wpAny_standIf (wpAny_bind (wpAny_mono q₂ (fun acc s₃ q₃ => ?_) id'))
  refine wpAny_bind (wpAny_pure (wpAny_bind (wpAny_mono q₃ (fun ce s₄ q₄ => ?_) id')))
  dsimp only
  have k1 : ∀ x ∈ (scope.names.filter fun x => (x.2 == .local || x.2 == .cell) && x.1 != (".0" : Str)).reverse, x.2 = .local → Env.kindOf { ce with scope := relabel scope env } x.1 = some .local := fun x hx hl =>
    lookup_relabel_local (h5 x (List.mem_filter.mp (List.mem_reverse.mp hx)).1 hl)
  have k2 : ∀ x ∈ (scope.names.filter fun x => (x.2 == .local || x.2 == .cell) && x.1 != (".0" : Str)).reverse.drop 1 ++ (scope.names.filter fun x => (x.2 == .local || x.2 == .cell) && x.1 != (".0" : Str)).reverse.take 1, x.2 = .local →
      Env.kindOf { ce with scope := relabel scope env } x.1 = some .local := fun x hx hl => (List.mem_append.mp hx).elim (fun q => k1 x (List.mem_of_mem_drop q) hl) fun q => k1 x (List.mem_of_mem_take q) hl
  refine wpAny_holding (wpAny_bind (wpAny_attempt (wpAny_holding (wpAny_run (codeAny_mono q₄ fun r s' hr => ?_)))))
  cases r with
  | ok f =>
    cases use with
    | none =>
      obtain ⟨m, n1, n2⟩ := hr
      refine wpAny_bind (wpAny_holding ?_)
      exact wpAny_comp_letGo (cenv := { ce with scope := relabel scope env }) h4 _ s' m k1 n1 fun h' m' _ sb => wpAny_pure (n2 h' sb)
    | some u =>
      refine wpAny_bind (wpAny_rule (wpAny_bind (wpAny_holding (wpAny_mono hr (fun _ z ⟨m, n1, n2⟩ => ?_) id'))))
      exact wpAny_bind (wpAny_comp_letGo (cenv := { ce with scope := relabel scope env }) h4 _ z m k2 n1 fun h' m' _ sb => wpAny_pure (n2 h' sb))
  | error x =>
    have hr' : ∃ m, s'.heap.Ns ce.locals m ∧ ∀ h', Heap.SameBut ce.locals s'.heap h' → ∀ c2 : PySem.Env, c2.frame = ce.frame → wpAny M A (passOn "comprehension.variables-let-go" x c2 : Sem Value) (fun _ _ => False) E { s' with heap := h' } := hr
    obtain ⟨m, n1, n2⟩ := hr'
    refine wpAny_bind (wpAny_holding ?_)
    exact wpAny_comp_letGo (cenv := { ce with scope := relabel scope env }) h4 _ s' m k1 n1 fun h' m' _ sb => wpAny_mono (n2 h' sb _ rfl) (fun _ _ f => f.elim) id'
theorem note_same {e : Value} {env env' : PySem.Env} (h : env.frame = env'.frame) : noteFrame e env = noteFrame e env' := by
  unfold noteFrame PySem.frameOf
  rw [h]
theorem funFrames_but {B B' h h' : Heap} {C : Addr} (k : ∀ b o, h.get? b = some o → b ≠ C → h'.get? b = some o) (n : ∀ b, B.get? b = none → B'.get? b = none) : ∀ {l : List PySem.Env}, C ∉ frs l → h.FunFrames B l → h'.FunFrames B' l
  | [], _, _ => trivial
  | env :: l, hC, ⟨q1, ⟨L, o, q2, q3, q4, q5⟩, q6⟩ => by
    refine ⟨q1, ⟨L, o, q2, n L q3, k L o q4 fun z => hC ?_, q5⟩, funFrames_but k n (fun hm => hC ?_) q6⟩
    · rw [← z]
      exact List.mem_filterMap.mpr ⟨env, List.mem_cons_self, q2⟩
    · obtain ⟨e, he, q⟩ := List.mem_filterMap.mp hm
      exact List.mem_filterMap.mpr ⟨e, List.mem_cons_of_mem _ he, q⟩
theorem blk_air {X : Cx} {pins pins' : List (Addr × Obj)} {σ σ8 : L2.St} {H3 H8 : Hp} {s3 s8 s' : Shared} {scope : Scope} {ce : PySem.Env} {fp : List Addr} {xe : Value → Shared → Prop} {E : XK} {W : WX} {u : Value} {use : Option (Value → Sem Unit)} {Qf : Value → Shared → Prop} {acc : Value}
    (hst : X.stack = X.env :: X.outer) (hfr : X.env.frame = some X.env.locals) (tk : Takes X W) (hW : ∀ cls d H', E cls d H' → W cls d σ H')
    (I3 : Inv X pins σ H3 s3) (hfp : ∀ b ∈ fp, FpOk X pins H3 b ∧ b < s3.heap.objs.size) (cL : ce.locals = s3.heap.objs.size) (cF : ce.frame = X.env.frame)
    (I8 : Inv ((X.blk s3 H3 scope ce fp).wish xe) pins' σ8 H8 s8) (c : L2.CX X.prog X.w X.stack H8 s8 E u s') :
    notedBy (model X.prog X.w) X.A ce (fun e z => blkPost (model X.prog X.w) X.A X.xe use Qf acc ce (.error e) z) u s' := by
  obtain ⟨a, B, H', cls, d, rfl, fl, hok, ub, na, os, ag, hE⟩ := c
  have af : X.A.frames = some (X.env :: X.outer) := by rw [I3.ok.frames, hst]
  have U8 : Un (frs X.stack) fp H3 H8 s3.heap s8.heap := I8.base
  have lt3 : ∀ b o, s3.heap.get? b = some o → b ≠ ce.locals := fun b o e z => by
    have := Heap.lt_size e
    rw [z, cL] at this
    exact Nat.lt_irrefl _ this
  have Cfr : ce.locals ∉ frs X.stack := fun hm => by
    obtain ⟨_, o, e, _⟩ := I3.stack.mem hm
    exact lt3 _ o e rfl
  obtain ⟨m, ⟨oC, es, ep, hoC, rC⟩, _⟩ := I8.loc
  have hoC : s8.heap.get? ce.locals = some oC := hoC
  have nC8 : H8 ce.locals = none := I8.free
  have BC : B.get? ce.locals = some oC := ub.keep _ _ hoC nC8 Cfr
  have nC' : H' ce.locals = none := ub.free _ _ hoC nC8
  show wpAny _ X.A (noteFrame (.ref a) ce) _ _ s'
  rw [note_same cF]
  rw [hst] at fl
  refine HandSPX.looks_onZ Zc.steady af hfr fl fun h1 hd1 up1 => ?_
  obtain ⟨k1, k2, k3, oe, vs, T, oT, ts, he, hz, hd, hv1, hnT, hTe, hT, hdT, h3⟩ := hd1
  refine ⟨m, ⟨oC, es, ep, k1 _ _ BC, rC⟩, fun h2 sb c2 hc2 => ?_⟩
  have aC : a ≠ ce.locals := fun z => by rw [z, BC] at k2; cases k2
  have TC : T ≠ ce.locals := fun z => by rw [z, BC] at hnT; cases hnT
  have he2 : h2.get? a = some oe := (sb.2 a aC).trans he
  unfold PySem.passOn
  refine wpAny_bind (wpAny_field he2 hd hv1 ?_)
  rw [if_neg (show ¬ ((Value.ref T == Value.none) = true) from by simp)]
  have gB : ∀ b o, (PySem.W.hideAll B [ce.locals]).get? b = some o → B.get? b = some o ∧ b ≠ ce.locals := fun b o e => ⟨PySem.W.of_hideAll _ e, fun z => by
    rw [z, PySem.W.hideAll_none [ce.locals] List.mem_cons_self] at e
    cases e⟩
  have gB' : ∀ b o, B.get? b = some o → b ≠ ce.locals → (PySem.W.hideAll B [ce.locals]).get? b = some o := fun b o e n => PySem.W.hideAll_get _ e fun hm => n (by simpa using hm)
  have nB : ∀ b, B.get? b = none → (PySem.W.hideAll B [ce.locals]).get? b = none := fun b e => by
    cases q : (PySem.W.hideAll B [ce.locals]).get? b with
    | none => rfl
    | some o =>
      rw [(gB b o q).1] at e
      cases e
  have hh2 : HandSPX.HeldZ (PySem.W.hideAll B [ce.locals]) (X.env :: X.outer) a (Zc cls d) X.env.locals h2 :=
    ⟨fun b o e => (sb.2 b (gB b o e).2).trans (k1 b o (gB b o e).1), nB a k2, funFrames_but (fun b o e n => (sb.2 b n).trans e) nB (by rw [← hst]; exact Cfr) k3,
      oe, vs, T, oT, ts, he2, hz, hd, hv1, nB T hnT, hTe, (sb.2 T TC).trans hT, hdT, h3⟩
  have fin : wpAny (model X.prog X.w) X.A (setFlight (.ref a) c2.frame) (fun _ s4 => wpAny (model X.prog X.w) X.A (throw (.ref a) : Sem Value) (fun _ _ => False) X.xe s4) X.xe { s' with heap := h2 } := by
    rw [hc2, cF, hfr]
    refine HandSPX.setFlight_onZ hh2 fun h4 hh4 up4 => wpAny_throw (tk _ _ ?_)
    have st4 := hh4.1
    obtain ⟨G, g1, g2⟩ := restrict h4 fun b => ((PySem.W.hideAll B [ce.locals]).get? b).isSome || decide (b ∈ frs X.stack)
    have GB : ∀ b o, B.get? b = some o → b ≠ ce.locals → G.get? b = some o := fun b o e n => by
      have z := gB' b o e n
      rw [g1 b (by simp [z])]
      exact st4 b o z
    have GF : ∀ b, b ∈ frs X.stack → G.get? b = h4.get? b := fun b hb => g1 b (by simp [hb])
    have og : ∀ b o, G.get? b = some o → h4.get? b = some o ∧ (((PySem.W.hideAll B [ce.locals]).get? b).isSome = true ∨ b ∈ frs X.stack) := fun b o e => by
      cases q : (((PySem.W.hideAll B [ce.locals]).get? b).isSome || decide (b ∈ frs X.stack)) with
      | false =>
        rw [g2 b q] at e
        cases e
      | true =>
        rw [g1 b q] at e
        exact ⟨e, by simpa [Bool.or_eq_true] using q⟩
    have slot : ∀ b o, s3.heap.get? b = some o → H3 b = none → b ∈ frs X.stack → b ∉ fp → ∃ sl, G.get? b = some { o with slots := sl } := fun b o e n hb hx => by
      obtain ⟨_, o0, e0, nf⟩ := I3.stack.mem hb
      rw [e] at e0
      cases e0
      obtain ⟨l1, e1⟩ := U8.slot b o e n hb hx
      obtain ⟨l2, e2⟩ := ub.slot b _ e1 hb
      obtain ⟨l3, e3⟩ := up1 b _ e2 nf
      obtain ⟨l4, e4⟩ := up4 b _ ((sb.2 b (lt3 b o e)).trans e3) nf
      exact ⟨l4, by rw [GF b hb]; exact e4⟩
    have J : Inv X pins σ H' { s3 with heap := G, gens := s'.gens, drawn := s'.drawn, toks := s'.toks } := by
      refine I3.call (ch := fp) ⟨fun b o e n hb hx => ?_, slot, fun b o e n hx => ?_, fun b o e hx => ?_, fun b xs e => ub.tups _ _ (U8.tups _ _ e), fun b o y e => ub.frzs _ _ _ (U8.frzs _ _ _ e), fun b ps e => ?_⟩ (fun b ob q => ?_) ag
        fun b hb => ⟨(hfp b hb).1.2.2.2.1, (hfp b hb).1.2.1, (hfp b hb).1.2.2.2.2.1, (hfp b hb).1.2.2.2.2.2⟩
      · exact GB b o (ub.keep b o (U8.keep b o e n hb hx) (U8.free b o e n hx) hb) (lt3 b o e)
      · obtain ⟨o8, e8⟩ := U8.there b o e hx
        exact ub.free b o8 e8 (U8.free b o e n hx)
      · by_cases hb : b ∈ frs X.stack
        · obtain ⟨sl, q⟩ := slot b o e (I3.stkFree b hb) hb hx
          exact ⟨_, q⟩
        · obtain ⟨o8, e8⟩ := U8.there b o e hx
          obtain ⟨o', e'⟩ := ub.there b o8 e8 hb
          exact ⟨o', GB b o' e' (lt3 b o e)⟩
      · obtain ⟨x1, e1⟩ := U8.tbls b ps e
        obtain ⟨x2, e2⟩ := ub.tbls b _ e1
        exact ⟨x1 ++ x2, by rw [e2, Array.append_assoc]⟩
      · refine (hok b ob q).stay (fun b2 o2 hb2 e2 => GB b2 o2 e2 fun z => ?_) (fun _ r => r) fun _ _ r => r
        rcases hb2 with hb2 | hb2
        · rw [← hb2, z, nC'] at q
          cases q
        · rw [z, nC'] at hb2
          cases hb2
    refine ⟨a, PySem.W.hideAll B [ce.locals], _, pins, σ, H', cls, d, rfl, J, fun b o e hb => ?_, Heap.UpToSlots.of_keeps fun b o e => (og b o e).1, .inr (.inr (by rw [hst]; exact hh4)), na, ?_, ag, hW _ _ _ hE⟩
    · obtain ⟨e1, h⟩ := og b o e
      rcases h with h | h
      · obtain ⟨o', q⟩ := Option.isSome_iff_exists.mp h
        have z := st4 b o' q
        rw [e1] at z
        cases z
        exact q
      · exact absurd h hb
    · exact os.trans I8.os
  first
    | exact wpAny_bind (wpAny_pure (wpAny_bind fin))
    | exact wpAny_bind fin
section
variable {X : Cx}
abbrev TEE := (L2.St → XK) → TE
theorem lcx_core {pins : List (Addr × Obj)} {s : Shared} {σ : L2.St} {H : Hp} {Q : VK} {W : WX} {elt tg iter : Expr} {scope : Scope} {own : List (Str × Nat)} {pos pos' : Pos} {wi : TI} {g : TG} {te : TEE} {use : Option (Value → Sem Unit)} {Qf : Value → Shared → Prop}
    (hc : X.calm = true) (hN : X.N.Nodup) (hst : X.stack = X.env :: X.outer) (hfr : X.env.frame = some X.env.locals) (tk : Takes X W) (I : Inv X pins σ H s) (hi : PI X tg iter wi) (ok : BlkOk X.N X.env.scope scope own)
    (hg : ∀ (s : Shared) (H : Hp) (C : Addr) (cl : List (Str × Addr)) (fp : List Addr), PG (X.blk s H scope (compEnvC scope cl C X.env) fp) tg g)
    (he : ∀ (s : Shared) (H : Hp) (C : Addr) (cl : List (Str × Addr)) (fp : List Addr) (xe : Value → Shared → Prop) (E : L2.St → XK), (∀ σ', PassesAt (L2.CX X.prog X.w) ((X.blk s H scope (compEnvC scope cl C X.env) fp).wish xe) σ' (E σ')) →
      PE ((X.blk s H scope (compEnvC scope cl C X.env) fp).wish xe) elt (te E))
    (hs : ∀ x, foldedSetIterable iter X.env x = pure x) (h : tLc wi g tYes (te fun _ cls d H' => W cls d σ H') (own.map (·.2)) σ H Q)
    (hRR : ∀ D C s' m H', Inv X pins σ H' s' → Q (.ref D) H' → s'.heap.Ns C m → FpOk X pins H' C → compPost (model X.prog X.w) X.A X.xe use Qf (.ref D) C (.ok .next) s') :
    wpAny (model X.prog X.w) X.A (comprehension (.ListComp elt [⟨tg, iter, [], 0⟩] scope pos) scope X.env pos' (newList []) false (eval iter X.env) use) Qf X.xe s := by
  have hfree : ∀ y ∈ scope.names, y.2 = .free → ∃ c, X.env.cells.lookup y.1 = some c := fun y hy e => (ok.free y hy e).elim (fun k => I.ok.has _ (.inl k)) fun k => I.ok.has _ (.inr k)
  refine comp_blk (use := use) rfl hs (closure_ok hfree) ok.kind (fun y hy e => by rw [ok.uniq y hy, e]) ?_
  refine thn (hi.run pins s σ H _ I h) fun xv s1 hx => thn hx fun itv s2 ⟨it, fp, tn, J, H2, e, I2, T, st2, f2, q⟩ => ?_
  subst e
  refine wpAny_newObj_type (newEnv_comp ?_) (by show 0 ≤ sizeLine; decide)
  generalize hD : s2.heap.objs.size = D
  obtain ⟨W1, ⟨m0, w0⟩, turn⟩ := q D (I2.hok.fresh (Nat.le_of_eq hD))
  generalize hs3 : ({ s2 with heap := s2.heap.push { cls := .type "list", data := .seq ([] : List Value).toArray } } : Shared) = s3
  have h3 : s3.heap = s2.heap.push { cls := .type "list", data := .seq ([] : List Value).toArray } := by rw [← hs3]
  have I3 : Inv X pins σ (upd H2 D (.lst [])) s3 := by
    rw [← hs3]
    refine I2.laid (t' := s2.toks) (fun b o e => Heap.get?_push_of_some _ e) (Nat.le_of_eq hD) ⟨Nat.zero_le _, [], 0, .nil, ?_⟩
    rw [← hD]
    exact Heap.get?_push_size _ rfl
  have f3 : ∀ b ∈ fp, FpOk X pins (upd H2 D (.lst [])) b ∧ b < s3.heap.objs.size := fun b hb => by
    obtain ⟨o, e, _⟩ := T.obj _ _ st2 b hb
    have hlt := Heap.lt_size e
    refine ⟨⟨?_, (f2 b hb).2⟩, by rw [h3, Heap.size_push]; exact Nat.lt_succ_of_lt hlt⟩
    rw [upd_ne (by rw [← hD]; exact Nat.ne_of_lt hlt)]
    exact (f2 b hb).1
  have st3 : tn 0 s3.heap := T.keep _ _ _ st2 fun b _ o e => by rw [h3]; exact Heap.get?_push_of_some _ e
  have I4 := block_start I3 ok hN f3
  have pg := hg s3 (upd H2 D (.lst [])) s3.heap.objs.size (cellsFrom (s3.heap.objs.size + 1) scope.names (cloFrom X.env.cells scope.names [])) fp
  have pe := he s3 (upd H2 D (.lst [])) s3.heap.objs.size (cellsFrom (s3.heap.objs.size + 1) scope.names (cloFrom X.env.cells scope.names [])) fp
  show codeAny _ _ (.compStart (.ListComp elt [⟨tg, iter, [], 0⟩] scope pos) 0 (.ref it) (.ref D) (compEnvC scope (cellsFrom (s3.heap.objs.size + 1) scope.names (cloFrom X.env.cells scope.names [])) s3.heap.objs.size X.env))
    (blkPost (model X.prog X.w) X.A X.xe use Qf (.ref D) (newEnv scope s3.heap.objs.size X.env.globals (cellsFrom (s3.heap.objs.size + 1) scope.names (cloFrom X.env.cells scope.names [])) X.env.qual none .none (some X.env) X.env.builtins)) { s3 with heap := pushCells (s3.heap.push { cls := .type "dict", data := .dict #[] }) scope.names }
  have nfp : ∀ b ∈ fp, (upd H2 D (.lst [])) b = none := fun b hb => (f3 b hb).1.1
  generalize hnv : newEnv scope s3.heap.objs.size X.env.globals (cellsFrom (s3.heap.objs.size + 1) scope.names (cloFrom X.env.cells scope.names [])) X.env.qual none .none (some X.env) X.env.builtins = nv
  have nL : nv.locals = s3.heap.objs.size := by rw [← hnv]; rfl
  have nF : nv.frame = X.env.frame := by rw [← hnv]; rfl
  generalize hce : compEnvC scope (cellsFrom (s3.heap.objs.size + 1) scope.names (cloFrom X.env.cells scope.names [])) s3.heap.objs.size X.env = ce at I4 pg pe ⊢
  have cL : ce.locals = s3.heap.objs.size := by subst hce; rfl
  have cF : ce.frame = X.env.frame := by subst hce; rfl
  have post : ∀ (r : Result) (z : Shared), blkPost (model X.prog X.w) X.A X.xe use Qf (.ref D) ce r z → blkPost (model X.prog X.w) X.A X.xe use Qf (.ref D) nv r z := fun r z q => by
    cases r with
    | ok f =>
      show compPost (model X.prog X.w) X.A X.xe use Qf (.ref D) nv.locals (.ok f) z
      rw [nL, ← cL]
      exact q
    | error x =>
      show ∃ m, z.heap.Ns nv.locals m ∧ ∀ h', Heap.SameBut nv.locals z.heap h' → ∀ c2 : PySem.Env, c2.frame = nv.frame → _
      rw [nL, nF, ← cL, ← cF]
      exact q
  refine codeAny_mono ?_ post
  generalize hH3 : upd H2 D (.lst []) = H3 at I3 I4 pg pe w0 nfp f3
  generalize hs4 : ({ s3 with heap := pushCells (s3.heap.push { cls := .type "dict", data := .dict #[] }) scope.names } : Shared) = s4 at I4 ⊢
  have st4 : tn 0 s4.heap := T.keep _ _ _ st3 fun b _ o e => by rw [← hs4]; exact pushCells_keeps _ _ _ _ (Heap.get?_push_of_some _ e)
  have stat : ∀ {σ' : L2.St} {H' : Hp} {s' : Shared}, Inv (X.blk s3 H3 scope ce fp) [] σ' H' s' → (∀ b ∈ fp, H' b = none) → ∀ b ∈ fp, FpOk (X.blk s3 H3 scope ce fp) [] H' b := fun {σ' H' s'} I' hn b hb =>
    ⟨hn b hb, (I'.ok.exf b hb).1, I'.ok.exfs b hb, .inl hb, fun x c e => (I'.ok.exf b hb).2 x c e, fun p hp => by cases hp⟩
  have pe' := pe (notedBy (model X.prog X.w) X.A ce fun e z => blkPost (model X.prog X.w) X.A X.xe use Qf (.ref D) ce (.error e) z) (fun _ cls d H' => W cls d σ H')
    (fun σ' pins' H8 s8 u s' I8 c => blk_air (scope := scope) (fp := fp) hst hfr tk (fun _ _ _ z => z) I3 f3 cL cF I8 c)
  have loop : codeAny (model X.prog X.w) X.A (.compLoop (.ListComp elt [⟨tg, iter, [], 0⟩] scope pos) 0 (.ref it) (.ref D) ce) (blkPost (model X.prog X.w) X.A X.xe use Qf (.ref D) ce) s4 := by
    refine compLoop_any (fun n s' => ∃ i H', Inv (X.blk s3 H3 scope ce fp) [] (wipe σ (own.map (·.2))) H' s' ∧ tn i s'.heap ∧ (∀ b ∈ fp, H' b = none) ∧ W1 i n H') ?_ m0 ⟨0, H3, I4, st4, nfp, w0⟩
    rintro n s5 ⟨i, H5, I5, st5, n5, w5⟩
    rcases turn i n H5 w5 with ⟨stop, qq⟩ | ⟨go, Nx, hNx, step⟩
    · refine thnF (T.done (X.blk s3 H3 scope ce fp) rfl rfl rfl hc i [] s5 _ H5 (fun _ _ => False) I5 (stat I5 n5) st5 stop) fun r s6 ⟨hr, I6⟩ => ?_
      subst hr
      have I7 : Inv X pins σ H5 s6 := I3.call' (ch := fp) I6.os I6.base I6.hok I6.bare fun b hb => have z := (f3 b hb).1.2; ⟨z.2.2.1, z.1, z.2.2.2.1, z.2.2.2.2⟩
      have nC : H5 ce.locals = none := I6.free
      obtain ⟨m, hn, _⟩ := I6.loc
      have hn : s6.heap.Ns ce.locals m := hn
      exact hRR D ce.locals s6 m H5 I7 qq hn (I3.fpOk (by rw [cL]; exact Nat.le_refl _) nC)
    · refine thnF (T.item (X.blk s3 H3 scope ce fp) rfl rfl rfl hc i [] s5 _ H5 (fun _ _ => False) I5 (stat I5 n5) st5 go) fun r s6 ⟨u, hr, h6⟩ => ?_
      subst hr
      refine thnF h6 fun _ s7 ⟨x, H7, I7, r7, y7, st7, n7⟩ => ?_
      refine thnF (pg.run _ s7 _ H7 x u _ (I7.pinned (stat I7 n7) (T.obj _ _ st7)) r7 (step x H7 y7)) fun _ s8 ⟨σ8, H8, I8, hw8, q8⟩ => ?_
      refine wpAny_tests_nil ?_
      rw [if_pos rfl]
      have q8 : (if true = true then (te fun _ cls d H' => W cls d σ H') σ8 H8 fun y H4 => ∃ acc, H4 D = some (.lst acc) ∧ acc.length < sizeLine ∧ Nx (upd H4 D (.lst (acc ++ [y]))) else Nx H8) := q8
      rw [if_pos rfl] at q8
      refine thn (pe'.run _ s8 σ8 H8 _ (I8.wish _) q8) fun z s10 ⟨yv, H10, I10, r10, acc, hD10, hz10, nx⟩ => ?_
      refine app_ok (X := X.blk s3 H3 scope ce fp) I10.unwish hD10 hz10 r10 fun s11 I11 => ?_
      obtain ⟨m', hm, w'⟩ := hNx _ nx
      have pin' : ∀ b ∈ fp, ∀ o, s7.heap.get? b = some o → s11.heap.get? b = some o ∧ upd H10 D (.lst (acc ++ [yv])) b = none := fun b hb o e =>
        have z := I11.pin (b, o) (List.mem_append_right _ (List.mem_append_right _ (mem_pinsAt hb e)))
        ⟨z.1, z.2.1⟩
      have hl : (wipe σ (own.map (·.2))).length = σ8.length := by rw [← hw8, wipe_length]
      refine ⟨m', hm, i + 1, _, (I11.unpinned (pins := [])).weak hl (fun j v e => ?_), T.keep _ _ _ st7 fun b hb o e => (pin' b hb o e).1, fun b hb => ?_, w'⟩
      · rw [← hw8] at e
        exact (wipe_some e).1
      · obtain ⟨o, e, _⟩ := T.obj _ _ st7 b hb
        exact (pin' b hb o e).2
  exact codeAny_compStart_list loop (T.self X.A 0 _ _ _ st4 loop)
def tLcx (W : WX) (wi : TI) (g : TG) (te : TEE) (vs : List Nat) : TE := fun σ H Q => tLc wi g tYes (te fun _ cls d H' => W cls d σ H') vs σ H Q
theorem pe_lcx {W : WX} {elt tg iter : Expr} {scope : Scope} {own : List (Str × Nat)} {pos : Pos} {wi : TI} {g : TG} {te : TEE}
    (hc : X.calm = true) (hN : X.N.Nodup) (hst : X.stack = X.env :: X.outer) (hfr : X.env.frame = some X.env.locals) (tk : Takes X W) (hi : PI X tg iter wi) (ok : BlkOk X.N X.env.scope scope own)
    (hg : ∀ (s : Shared) (H : Hp) (C : Addr) (cl : List (Str × Addr)) (fp : List Addr), PG (X.blk s H scope (compEnvC scope cl C X.env) fp) tg g)
    (he : ∀ (s : Shared) (H : Hp) (C : Addr) (cl : List (Str × Addr)) (fp : List Addr) (xe : Value → Shared → Prop) (E : L2.St → XK), (∀ σ', PassesAt (L2.CX X.prog X.w) ((X.blk s H scope (compEnvC scope cl C X.env) fp).wish xe) σ' (E σ')) →
      PE ((X.blk s H scope (compEnvC scope cl C X.env) fp).wish xe) elt (te E))
    (hs : ∀ x, foldedSetIterable iter X.env x = pure x := by intro _; rfl) : PE X (.ListComp elt [⟨tg, iter, [], 0⟩] scope pos) (tLcx W wi g te (own.map (·.2))) := by
  refine ⟨fun pins s σ H Q I h => ?_⟩
  rw [eval_ListComp]
  refine lcx_core hc hN hst hfr tk I hi ok hg he hs h fun D C s' m H' I' q hn f => ⟨m, hn, fun h2 sb => ?_⟩
  exact ⟨.ref D, H', I'.turned (t' := s'.toks) (fun b o hb e => (sb.2 b hb).trans e) f.1 f.2.1 f.2.2.2.1 f.2.2.2.2.1 f.2.2.2.2.2, rfl, q⟩
theorem ps_setLcx {i : Nat} {y : Str} {py : Pos} {W : WX} {elt tg iter : Expr} {scope : Scope} {own : List (Str × Nat)} {pos spos : Pos} {wi : TI} {g : TG} {te : TEE}
    (hc : X.calm = true) (hN : X.N.Nodup) (hy : X.N[i]? = some y) (hyl : X.env.scope.names.lookup y = some .local) (hsw : swapsWith (.ListComp elt [⟨tg, iter, [], 0⟩] scope pos) (some (.Name y py)) spos.line X.env = pure true)
    (hst : X.stack = X.env :: X.outer) (hfr : X.env.frame = some X.env.locals) (tk : Takes X W) (hi : PI X tg iter wi) (ok : BlkOk X.N X.env.scope scope own)
    (hg : ∀ (s : Shared) (H : Hp) (C : Addr) (cl : List (Str × Addr)) (fp : List Addr), PG (X.blk s H scope (compEnvC scope cl C X.env) fp) tg g)
    (he : ∀ (s : Shared) (H : Hp) (C : Addr) (cl : List (Str × Addr)) (fp : List Addr) (xe : Value → Shared → Prop) (E : L2.St → XK), (∀ σ', PassesAt (L2.CX X.prog X.w) ((X.blk s H scope (compEnvC scope cl C X.env) fp).wish xe) σ' (E σ')) →
      PE ((X.blk s H scope (compEnvC scope cl C X.env) fp).wish xe) elt (te E))
    (hs : ∀ x, foldedSetIterable iter X.env x = pure x := by intro _; rfl) :
    PS X (.Assign [.Name y py] (.ListComp elt [⟨tg, iter, [], 0⟩] scope pos) spos) (tAsg (tLcx W wi g te (own.map (·.2))) (gName i)) := by
  refine ⟨fun pins s σ H D I h => ?_⟩
  rw [exec_Assign_Name_used _ _ _ _ hsw]
  refine wpAny_bind (wpAny_standAt (wpAny_bind ?_))
  show wpAny _ X.A (do let _ ← comprehension (.ListComp elt [⟨tg, iter, [], 0⟩] scope pos) scope X.env (firstIterPos [⟨tg, iter, [], 0⟩] pos) (newList []) false (eval iter X.env) (some (assign (.Name y py) X.env))) _ _ s
  have h : tLc wi g tYes (te fun _ cls d H' => W cls d σ H') (own.map (·.2)) σ H (fun x H1 => gName i x σ H1 D.nx) := h
  refine wpAny_bind (thn (lcx_core (Qf := fun _ z => SP X pins D .next z) hc hN hst hfr tk I hi ok hg he hs h fun L C s' m H' I' q hn f => ?_) fun _ s' hq => wpAny_pure (wpAny_pure hq))
  show wpAny _ _ (assign (.Name y py) X.env (.ref L)) _ _ _
  refine wpAny_assign_Name (store_ok2 (v := V.ref L) I' hN hy (.inl hyl) rfl (fun s2 I2 ⟨a, sb, ha⟩ => ?_) (.inr hyl))
  have haC : C ≠ a := ha.elim (fun z => by rw [z]; exact f.2.1) fun z e => f.2.2.2.2.1 y a z e.symm
  refine ⟨m, hn.sameBut sb haC, fun h3 sb3 => ⟨_, H', I2.turned (t' := s2.toks) (fun b o hb e => (sb3.2 b hb).trans e) f.1 f.2.1 f.2.2.2.1 f.2.2.2.2.1 f.2.2.2.2.2, q⟩⟩
end
end VI
set_option Elab.async false
set_option linter.all false
set_option maxRecDepth 100000
set_option maxHeartbeats 4000000
namespace VI
open PySem PySem.Spec PyProof.Rows L2
mutual
def okE (p : Str → Bool) : XE → Bool
  | .var _ => true
  | .cst _ => true
  | .bin _ a b => okE p a && okE p b
  | .neg a => okE p a
  | .not a => okE p a
  | .and a b => okE p a && okE p b
  | .or a b => okE p a && okE p b
  | .cmp _ a b => okE p a && okE p b
  | .chn _ _ a b c => okE p a && (okE p b && okE p c)
  | .call f as => p f && okEs p as
  | .bi _ as => okEs p as
  | .isi a _ => okE p a
  | .ix a b => okE p a && okE p b
  | .sl a b c => okE p a && (okE p b && okE p c)
  | .lst as => okEs p as
  | .tup as => okEs p as
  | .lc _ _ it t e => okI p it && (okE p t && okE p e)
def okEs (p : Str → Bool) : XEs → Bool
  | .nil => true
  | .cons a as => okE p a && okEs p as
def okI (p : Str → Bool) : XI → Bool
  | .seq a => okE p a
  | .rng as => okEs p as
  | .zip a b => okE p a && okE p b
  | .enu a => okE p a
  | .enz a b => okE p a && okE p b
end
section
variable {Φ Φ' : Fns} {p : Str → Bool}
mutual
theorem evH_ok (h : ∀ f, p f = true → Φ' f = Φ f) : ∀ (e : XE), okE p e = true → ∀ ρ A, evH Φ' e ρ A = evH Φ e ρ A
  | .var _, _, ρ, A => by rw [evH, evH]
  | .cst _, _, ρ, A => by rw [evH, evH]
  | .bin _ a b, k, ρ, A => by
    simp only [okE, Bool.and_eq_true] at k
    simp only [evH, evH_ok h a k.1, evH_ok h b k.2]
  | .neg a, k, ρ, A => by
    simp only [okE] at k
    simp only [evH, evH_ok h a k]
  | .not a, k, ρ, A => by
    simp only [okE] at k
    simp only [evH, evH_ok h a k]
  | .and a b, k, ρ, A => by
    simp only [okE, Bool.and_eq_true] at k
    simp only [evH, evH_ok h a k.1, evH_ok h b k.2]
  | .or a b, k, ρ, A => by
    simp only [okE, Bool.and_eq_true] at k
    simp only [evH, evH_ok h a k.1, evH_ok h b k.2]
  | .cmp _ a b, k, ρ, A => by
    simp only [okE, Bool.and_eq_true] at k
    simp only [evH, evH_ok h a k.1, evH_ok h b k.2]
  | .chn _ _ a b c, k, ρ, A => by
    simp only [okE, Bool.and_eq_true] at k
    simp only [evH, evH_ok h a k.1, evH_ok h b k.2.1, evH_ok h c k.2.2]
  | .call f as, k, ρ, A => by
    simp only [okE, Bool.and_eq_true] at k
    simp only [evH, h f k.1, evsH_ok h as k.2]
  | .bi _ as, k, ρ, A => by
    simp only [okE] at k
    simp only [evH, evsH_ok h as k]
  | .isi a _, k, ρ, A => by
    simp only [okE] at k
    simp only [evH, evH_ok h a k]
  | .ix a b, k, ρ, A => by
    simp only [okE, Bool.and_eq_true] at k
    simp only [evH, evH_ok h a k.1, evH_ok h b k.2]
  | .sl a b c, k, ρ, A => by
    simp only [okE, Bool.and_eq_true] at k
    simp only [evH, evH_ok h a k.1, evH_ok h b k.2.1, evH_ok h c k.2.2]
  | .lst as, k, ρ, A => by
    simp only [okE] at k
    simp only [evH, evsH_ok h as k]
  | .tup as, k, ρ, A => by
    simp only [okE] at k
    simp only [evH, evsH_ok h as k]
  | .lc _ _ it t e, k, ρ, A => by
    simp only [okE, Bool.and_eq_true] at k
    simp only [evH, eviH_ok h it k.1, evH_ok h t k.2.1, evH_ok h e k.2.2]
theorem evsH_ok (h : ∀ f, p f = true → Φ' f = Φ f) : ∀ (e : XEs), okEs p e = true → ∀ ρ A, evsH Φ' e ρ A = evsH Φ e ρ A
  | .nil, _, ρ, A => by rw [evsH, evsH]
  | .cons a as, k, ρ, A => by
    simp only [okEs, Bool.and_eq_true] at k
    simp only [evsH, evH_ok h a k.1, evsH_ok h as k.2]
theorem eviH_ok (h : ∀ f, p f = true → Φ' f = Φ f) : ∀ (e : XI), okI p e = true → ∀ ρ A, eviH Φ' e ρ A = eviH Φ e ρ A
  | .seq a, k, ρ, A => by
    simp only [okI] at k
    simp only [eviH, evH_ok h a k]
  | .rng as, k, ρ, A => by
    simp only [okI] at k
    simp only [eviH, evsH_ok h as k]
  | .zip a b, k, ρ, A => by
    simp only [okI, Bool.and_eq_true] at k
    simp only [eviH, evH_ok h a k.1, evH_ok h b k.2]
  | .enu a, k, ρ, A => by
    simp only [okI] at k
    simp only [eviH, evH_ok h a k]
  | .enz a b, k, ρ, A => by
    simp only [okI, Bool.and_eq_true] at k
    simp only [eviH, evH_ok h a k.1, evH_ok h b k.2]
end
def okS (p : Str → Bool) : XS → Bool
  | .asg _ e => okE p e
  | .par _ as => okEs p as
  | .app a e => okE p a && okE p e
  | .pass => true
  | _ => false
theorem exH_ok (h : ∀ f, p f = true → Φ' f = Φ f) {s : XS} (k : okS p s = true) (ρ : HEnv) (A : AH) : exH Φ' s ρ A = exH Φ s ρ A ∧ ∀ o, exH Φ s ρ A = some o → ∃ ρ' A', o = .nx ρ' A' := by
  cases s with
  | asg t e =>
    simp only [okS] at k
    refine ⟨by simp only [exH, evH_ok h e k], fun o q => ?_⟩
    rw [exH] at q
    split at q
    · obtain ⟨ρ', _, rfl⟩ := Option.map_eq_some_iff.mp q
      exact ⟨_, _, rfl⟩
    · cases q
  | par js as =>
    simp only [okS] at k
    refine ⟨by simp only [exH, evsH_ok h as k], fun o q => ?_⟩
    rw [exH] at q
    split at q
    · split at q
      · obtain ⟨ρ', _, rfl⟩ := Option.map_eq_some_iff.mp q
        exact ⟨_, _, rfl⟩
      · cases q
    · cases q
  | app a e =>
    simp only [okS, Bool.and_eq_true] at k
    refine ⟨by simp only [exH, evH_ok h a k.1, evH_ok h e k.2], fun o q => ?_⟩
    rw [exH] at q
    split at q
    · split at q
      · obtain ⟨ρ', _, rfl⟩ := Option.map_eq_some_iff.mp q
        exact ⟨_, _, rfl⟩
      · cases q
    · cases q
  | pass => exact ⟨by rw [exH, exH], fun o q => by rw [exH] at q; cases q; exact ⟨_, _, rfl⟩⟩
  | _ => cases k
end
def Gh (N : List Str) (sc : Scope) (σ σ' : L2.St) : Prop := σ'.length = σ.length ∧ ∀ (i : Nat) (x : Str), N[i]? = some x → Vis sc x → σ'[i]? = σ[i]?
section
variable {N : List Str} {sc : Scope} {σ σ' σ2 : L2.St}
theorem Gh.rfl' : Gh N sc σ σ := ⟨rfl, fun _ _ _ _ => rfl⟩
theorem Gh.symm (g : Gh N sc σ σ') : Gh N sc σ' σ := ⟨g.1.symm, fun i x h v => (g.2 i x h v).symm⟩
theorem Gh.trans (g : Gh N sc σ σ') (h : Gh N sc σ' σ2) : Gh N sc σ σ2 := ⟨h.1.trans g.1, fun i x e v => (h.2 i x e v).trans (g.2 i x e v)⟩
theorem Gh.both (g : Gh N sc σ σ') (i : Nat) (o : Option V) : Gh N sc (σ.set i o) (σ'.set i o) := ⟨by rw [List.length_set, List.length_set, g.1], fun j x e v => by
  by_cases h : i = j
  · subst h
    rw [List.getElem?_set, List.getElem?_set, if_pos rfl, if_pos rfl, g.1]
  · rw [List.getElem?_set_ne h, List.getElem?_set_ne h]
    exact g.2 j x e v⟩
theorem Gh.one (g : Gh N sc σ σ') {i : Nat} (o : Option V) (h : ∀ x, N[i]? = some x → ¬ Vis sc x) : Gh N sc σ (σ'.set i o) := ⟨by rw [List.length_set, g.1], fun j x e v => by
  rw [List.getElem?_set_ne (fun z => h x (by rw [z]; exact e) v)]
  exact g.2 j x e v⟩
end
section
variable {X : Cx} {pins : List (Addr × Obj)} {σ σ' : L2.St} {H : Hp} {s : Shared}
theorem Inv_gh (I : Inv X pins σ H s) (g : Gh X.N X.env.scope σ σ') : Inv X pins σ' H s where
  ok := I.ok
  os := I.os
  bare := I.bare
  base := I.base
  loc := by
    obtain ⟨m, h1, h2⟩ := I.loc
    exact ⟨m, h1, fun i x v e1 e2 e3 => h2 i x v e1 (by rw [← g.2 i x e1 e3]; exact e2) e3⟩
  cell := I.cell
  free := I.free
  freeC := I.freeC
  pin := I.pin
  hok := I.hok
  len := g.1.trans I.len
abbrev ghE (X : Cx) (t : TE) : TE := fun σ H Q => ∃ σ', Gh X.N X.env.scope σ σ' ∧ t σ' H Q
theorem PE_gh {e : Expr} {t : TE} (h : PE X e t) : PE X e (ghE X t) := ⟨fun pins s σ H Q I ⟨σ', g, q⟩ =>
  thn (h.run pins s σ' H Q (Inv_gh I g) q) fun _ _ ⟨v, H', I', r, q⟩ => ⟨v, H', Inv_gh I' g.symm, r, q⟩⟩
theorem PT_gh {e : Expr} {t : TT} (h : PT X e t) : PT X e (fun σ H Q => ∃ σ', Gh X.N X.env.scope σ σ' ∧ t σ' H Q) := ⟨fun pins s σ H Q I ⟨σ', g, q⟩ =>
  thn (h.run pins s σ' H Q (Inv_gh I g) q) fun _ _ ⟨H', I', q⟩ => ⟨H', Inv_gh I' g.symm, q⟩⟩
theorem PS_gh {st : Stmt} {t : TS} (h : PS X st t) : PS X st (fun D σ H => ∃ σ', Gh X.N X.env.scope σ σ' ∧ t D σ' H) := ⟨fun pins s σ H D I ⟨σ', g, q⟩ => h.run pins s σ' H D (Inv_gh I g) q⟩
theorem PI_gh {tg e : Expr} {t : TI} (h : PI X tg e t) : PI X tg e (fun σ H R => ∃ σ', Gh X.N X.env.scope σ σ' ∧ t σ' H R) := ⟨fun pins s σ H R I ⟨σ', g, q⟩ =>
  thn (h.run pins s σ' H R (Inv_gh I g) q) fun _ _ q1 => thn q1 fun _ _ ⟨it, fp, tn, J, H', e, I', T, st, f, r⟩ => ⟨it, fp, tn, J, H', e, Inv_gh I' g.symm, T, st, f, r⟩⟩
theorem PI_nox {tg e : Expr} {t : TI} (h : PI X.nox tg e t) : PI X tg e t := ⟨fun pins s σ H R I q => thnF (h.run pins s σ H R (I.wish _) q) fun _ _ q1 => thnF q1 fun _ _ ⟨it, fp, tn, J, H', e, I', T, st, f, r⟩ => ⟨it, fp, tn, J, H', e, I'.unwish, T, st, f, r⟩⟩
theorem PG_nox {e : Expr} {t : TG} (h : PG X.nox e t) : PG X e t := ⟨fun pins s σ H v u Q I r q => thnF (h.run pins s σ H v u Q (I.wish _) r q) fun _ _ ⟨σ', H', I', q⟩ => ⟨σ', H', I'.unwish, q⟩⟩
theorem PA_nox {es : List Expr} {t : TA} (h : PA X.nox es t) : PA X es t := ⟨fun pos pins s σ H Q I q => thnF (h.run pos pins s σ H Q (I.wish _) q) fun _ _ ⟨vs, H', I', r, q⟩ => ⟨vs, H', I'.unwish, r, q⟩⟩
end
def PostR (C : Addr) (E : XK) (m : List Addr) (H : Hp) (A' : AH) (Q : VK) : W → Prop
  | .non => ∀ m' H', Ex m H m' H' → HR m' A' H' → E (.ref C) none H'
  | w => Kn m H A' w Q
theorem PostR.val {C : Addr} {E : XK} {m : List Addr} {H : Hp} {A' : AH} {Q : VK} {w : W} (h : PostR C E m H A' Q w) (n : w ≠ .non) : Kn m H A' w Q := by
  cases w <;> first | exact (n rfl).elim | exact h
theorem PostR.of {C : Addr} {E : XK} {m : List Addr} {H : Hp} {A' : AH} {Q : VK} {w : W} (h : w ≠ .non → Kn m H A' w Q) (h0 : w = .non → ∀ m' H', Ex m H m' H' → HR m' A' H' → E (.ref C) none H') : PostR C E m H A' Q w := by
  cases w with
  | non => exact h0 rfl
  | _ => exact h (fun z => nomatch z)
def spX (C : Addr) (φ : Fun) : Sp := fun vs H Q E => ∃ m A ws w A', HR m A H ∧ RvL m H vs ws ∧ φ ws A = some (w, A') ∧ PostR C E m H A' Q w
structure FnXR (P : Program) (w : World) (K : PySem.W.Frag) (mg : Str → Option Value) (base : Heap) (k : Nat) (f : Str) (C : Addr) (φ : Fun) : Prop where
  ex : ∃ (a : Addr) (fd : FuncData) (ps : List Str), mg f = some (.ref a) ∧ PySem.W.keepIn K (.ref a) = true ∧ FnOk P w K mg base (L2.CX P w) k a fd ps (spX C φ) ∧ Binds K fd ps []
theorem FnXR.mono {P : Program} {w : World} {K : PySem.W.Frag} {mg : Str → Option Value} {base : Heap} {j k : Nat} {f : Str} {C : Addr} {φ : Fun} (F : FnXR P w K mg base j f C φ) (h : j ≤ k) : FnXR P w K mg base k f C φ :=
  let ⟨a, fd, ps, h1, h2, h3, h4⟩ := F.ex
  ⟨a, fd, ps, h1, h2, h3.mono h, h4⟩
def GE (N : List Str) (sc : Scope) (m : List Addr) (A : AH) (ρ : HEnv) (σ : L2.St) (H : Hp) : Prop := ∃ σ', Gh N sc σ σ' ∧ RE m A ρ σ' H
section
variable {N : List Str} {sc : Scope} {m m' : List Addr} {A A' : AH} {ρ : HEnv} {σ σ' : L2.St} {H H' : Hp}
theorem GE.of (r : RE m A ρ σ H) : GE N sc m A ρ σ H := ⟨σ, Gh.rfl', r⟩
theorem GE.ex (g : GE N sc m A ρ σ H) (e : Ex m H m' H') (h : HR m' A' H') : GE N sc m' A' ρ σ H' := let ⟨σ', g1, r⟩ := g; ⟨σ', g1, r.ex e h⟩
theorem GE.hr (g : GE N sc m A ρ σ H) : HR m A H := let ⟨_, _, r⟩ := g; r.hr
theorem GE.put (g : GE N sc m A ρ σ H) {i : Nat} {v : V} {w : W} (hi : i < ρ.length) (r : Rv m H v w) : GE N sc m A (ρ.set i (some w)) (σ.set i (some v)) H :=
  let ⟨σ', g1, re⟩ := g
  ⟨_, g1.both i _, re.putS hi r⟩
theorem GE.putG (g : GE N sc m A ρ σ H) {i : Nat} {v : V} {w : W} (h : ∀ x, N[i]? = some x → ¬ Vis sc x) (hi : i < ρ.length) (r : Rv m H v w) : GE N sc m A (ρ.set i (some w)) σ H :=
  let ⟨σ', g1, re⟩ := g
  ⟨_, g1.one _ h, re.putS hi r⟩
end
structure Fx where
  N : List Str
  sc : Scope
  C : Addr
  E : XK
def PostX (F : Fx) (m0 : List Addr) (H0 : Hp) (D : Ends) : OutH → Prop
  | .nx ρ A => ∀ m σ H, Ex m0 H0 m H → GE F.N F.sc m A ρ σ H → D.nx σ H
  | .rt w A => PostR F.C F.E m0 H0 A D.rt w
  | .bk ρ A => ∀ m σ H, Ex m0 H0 m H → GE F.N F.sc m A ρ σ H → D.bk σ H
  | .ct ρ A => ∀ m σ H, Ex m0 H0 m H → GE F.N F.sc m A ρ σ H → D.ct σ H
def tX (Φ : Fns) (F : Fx) (s : XSs) : TS := fun D σ H => ∃ m0 H0 m A ρ o, Ex m0 H0 m H ∧ GE F.N F.sc m A ρ σ H ∧ exsH Φ s ρ A = some o ∧ PostX F m0 H0 D o
def appS : XSs → XSs → XSs
  | .nil, t => t
  | .cons s r, t => .cons s (appS r t)
theorem exsH_app {Φ : Fns} : ∀ (a b : XSs) (ρ : HEnv) (A : AH), exsH Φ (appS a b) ρ A = match exsH Φ a ρ A with
    | some (.nx ρ' A') => exsH Φ b ρ' A'
    | o => o
  | .nil, b, ρ, A => by simp only [appS, exsH]
  | .cons s r, b, ρ, A => by
    simp only [appS, exsH]
    cases h : exH Φ s ρ A with
    | none => rfl
    | some o =>
      cases o with
      | nx ρ' A' => exact exsH_app r b ρ' A'
      | _ => rfl
structure Xok (Φ Φ' : Fns) (R : Str → Bool) (c : Co) (k : Nat) (X : Cx) (F : Fx) : Prop where
  ok : Cok Φ c k X.nox
  fn : F.N = c.N
  fs : F.sc = c.sc
  tk : Takes X (fun cls d _ H => F.E cls d H)
  st : X.stack = X.env :: X.outer
  fr : X.env.frame = some X.env.locals
  pa : PassesOwn (model X.prog X.w) X.A X.env X.xe
  hp : ∀ f, R f = false → Φ' f = Φ f
  hr : ∀ f φ, R f = true → Φ' f = some φ → FnXR X.prog X.w X.K X.mg X.base k f F.C φ
  has : ∀ f, R f = true → ∃ φ, Φ' f = some φ
section
variable {Φ Φ' : Fns} {R : Str → Bool} {c : Co} {k : Nat} {X : Cx} {F : Fx}
theorem Xok.gh (o : Xok Φ Φ' R c k X F) {σ σ' : L2.St} (g : Gh F.N F.sc σ σ') : Gh X.N X.env.scope σ σ' := by
  have h1 : X.N = c.N := o.ok.hN
  have h2 : X.env.scope = c.sc := o.ok.hsc
  rw [h1, h2, ← o.fn, ← o.fs]
  exact g
theorem Xok.p (o : Xok Φ Φ' R c k X F) : ∀ f, (!R f) = true → Φ' f = Φ f := fun f h => o.hp f (by simpa using h)
abbrev pl (R : Str → Bool) : Str → Bool := fun f => !R f
theorem x_snil : PSs X [] (tX Φ' F .nil) := pss_nil.imp fun D σ H ⟨m0, H0, m, A, ρ, o, x, re, e, q⟩ => by
  rw [exsH] at e
  cases e
  exact q m σ H x re
theorem x_scons {s : Stmt} {ss : List Stmt} {a b : XSs} (h1 : PS X s (tX Φ' F a)) (h2 : PSs X ss (tX Φ' F b)) : PSs X (s :: ss) (tX Φ' F (appS a b)) := (pss_cons h1 h2).imp fun D σ H ⟨m0, H0, m, A, ρ, o, x, re, e, q⟩ => by
  rw [exsH_app] at e
  split at e
  · rename_i ρ' A' h
    exact ⟨m0, H0, m, A, ρ, _, x, re, h, fun m' σ' H' x' re' => ⟨m0, H0, m', A', ρ', o, x', re', e, q⟩⟩
  · rename_i hn
    refine ⟨m0, H0, m, A, ρ, o, x, re, e, ?_⟩
    cases o with
    | nx ρ' A' => exact (hn _ _ e).elim
    | _ => exact q
theorem x_plain (ok : Xok Φ Φ' R c k X F) {n : Nat} {s : Stmt} {s' : XS} (h : trS n c s = some s') (hs : okS (pl R) s' = true) : PS X s (tX Φ' F (.cons s' .nil)) :=
  (PS_gh (ps_nox ((soundS Φ n).s c X.nox k ok.ok s s' h))).imp fun D σ H ⟨m0, H0, m, A, ρ, o, x, ⟨σ', g, re⟩, e, q⟩ => by
  obtain ⟨e1, e2⟩ := exH_ok ok.p hs ρ A
  rw [exsH, e1] at e
  cases h1 : exH Φ s' ρ A with
  | none => rw [h1] at e; cases e
  | some o1 =>
    obtain ⟨ρ', A', rfl⟩ := e2 _ h1
    rw [h1] at e
    simp only [exsH] at e
    cases e
    exact ⟨σ', ok.gh g, m0, H0, m, A, ρ, _, x, re, h1, fun m' σ2 H' x' re' => q m' σ2 H' x' (.of re')⟩
theorem x_ife (ok : Xok Φ Φ' R c k X F) {n : Nat} {t : Expr} {a b : List Stmt} {t' : XE} {a' b' : XSs} {pos : Pos} (h : trE n c t = some t') (hs : okE (pl R) t' = true) (ha : PSs X a (tX Φ' F a')) (hb : PSs X b (tX Φ' F b')) :
    PS X (.If t a b pos) (tX Φ' F (.cons (.ife t' a' b') .nil)) := (ps_if (PT_gh (PT.nox ((sound Φ n).t c X.nox k ok.ok t t' h))) ha hb).imp fun D σ H ⟨m0, H0, m, A, ρ, o, x, ⟨σ', g, re⟩, e, q⟩ => by
  rw [exsH, exH, evH_ok ok.p t' hs] at e
  have fin : ∀ {r : Option OutH}, (match r with
      | some (.nx ρ' A') => exsH Φ' .nil ρ' A'
      | z => z) = some o → r = some o := by
    intro r hr
    cases r with
    | none => cases hr
    | some z =>
      cases z with
      | nx ρ' A' => simp only [exsH] at hr; exact hr
      | _ => exact hr
  have e := fin e
  split at e
  · rename_i A1 h1
    exact ⟨σ', ok.gh g, m, A, ρ, true, A1, re, h1, fun m' H' e1 g1 => iteT ⟨m0, H0, m', A1, ρ, o, x.trans e1, ⟨σ', g, re.ex e1 g1⟩, e, q⟩⟩
  · rename_i A1 h1
    exact ⟨σ', ok.gh g, m, A, ρ, false, A1, re, h1, fun m' H' e1 g1 => iteF ⟨m0, H0, m', A1, ρ, o, x.trans e1, ⟨σ', g, re.ex e1 g1⟩, e, q⟩⟩
  · cases e
def nnE : XE → Bool
  | .tup _ => true
  | .lst _ => true
  | .neg _ => true
  | .bin .. => true
  | .cst (.int _) => true
  | .cst (.bool _) => true
  | .cst (.str _) => true
  | .bi .int _ => true
  | _ => false
theorem newL_ref {ws : List W} {A A' : AH} {w : W} (h : newL ws A = some (w, A')) : w = .ref A.length ∧ A' = A ++ [ws] ∧ ws.length ≤ lim := by
  unfold newL at h
  split at h
  · rename_i hl
    cases h
    exact ⟨rfl, rfl, hl⟩
  · cases h
theorem nnE_ok {e : XE} {ρ : HEnv} {A A' : AH} {w : W} (h : nnE e = true) (q : evH Φ e ρ A = some (w, A')) : w ≠ .non := by
  cases e with
  | tup as =>
    rw [evH] at q
    split at q
    · split at q
      · cases q
        exact fun z => nomatch z
      · cases q
    · cases q
  | lst as =>
    rw [evH] at q
    split at q
    · rw [(newL_ref q).1]
      exact fun z => nomatch z
    · cases q
  | neg a =>
    rw [evH] at q
    split at q
    · cases q
      exact fun z => nomatch z
    · cases q
  | bin op a b =>
    rw [evH] at q
    split at q
    · split at q
      · unfold binW at q
        split at q
        · obtain ⟨k, _, e⟩ := Option.map_eq_some_iff.mp q
          cases e
          exact fun z => nomatch z
        · split at q
          · split at q
            · rw [(newL_ref q).1]
              exact fun z => nomatch z
            · cases q
          · cases q
        · split at q
          · split at q
            · cases q
              exact fun z => nomatch z
            · cases q
          · cases q
        · cases q
      · cases q
    · cases q
  | cst d =>
    cases d with
    | int i => rw [evH] at q; cases q; exact fun z => nomatch z
    | bool i => rw [evH] at q; cases q; exact fun z => nomatch z
    | str i => rw [evH] at q; cases q; exact fun z => nomatch z
    | _ => cases h
  | bi f as =>
    cases f with
    | int =>
      rw [evH] at q
      split at q
      · rename_i ws A1 _
        match ws, q with
        | [], q => simp [biW] at q
        | _ :: _ :: _, q => simp [biW] at q
        | [x], q =>
          cases x with
          | non => simp [biW] at q
          | bl b => simp only [biW] at q; cases q; exact fun z => nomatch z
          | int i => simp only [biW] at q; cases q; exact fun z => nomatch z
          | str x =>
            simp only [biW] at q
            split at q
            · obtain ⟨k, _, e⟩ := Option.map_eq_some_iff.mp q
              cases e
              exact fun z => nomatch z
            · cases q
          | tup ws => simp [biW] at q
          | ref n => simp [biW] at q
      · cases q
    | _ => cases h
  | _ => cases h
def noNone (i : Nat) : XS := .ife (.cmp .Is (.var i) (.cst .none)) (.cons .stop .nil) .nil
def ckNone (i : Nat) : XS := .ife (.cmp .Is (.var i) (.cst .none)) (.cons (.ret (.cst .none)) .nil) .nil
theorem hx_ck {i : Nat} {r : XSs} {ρ : HEnv} {A : AH} {o : OutH} (h : exsH Φ (.cons (ckNone i) r) ρ A = some o) : ∃ w, ρ[i]? = some (some w) ∧ ((w = .non ∧ o = .rt .non A) ∨ (w ≠ .non ∧ exsH Φ r ρ A = some o)) := by
  simp only [exsH, ckNone, exH, evH] at h
  cases h1 : ρ[i]? with
  | none => rw [h1] at h; cases h
  | some w =>
    cases w with
    | none => rw [h1] at h; cases h
    | some w =>
      refine ⟨w, rfl, ?_⟩
      rw [h1] at h
      cases w with
      | non =>
        simp only [cstW, cmpW, Option.map_some, exsH, exH, evH] at h
        cases h
        exact .inl ⟨rfl, rfl⟩
      | _ =>
        simp only [cstW, cmpW, Option.map_some, exsH] at h
        exact .inr ⟨(fun z => nomatch z), h⟩
theorem hx_no {i : Nat} {r : XSs} {ρ : HEnv} {A : AH} {o : OutH} (h : exsH Φ (.cons (noNone i) r) ρ A = some o) : ∃ w, ρ[i]? = some (some w) ∧ w ≠ .non ∧ exsH Φ r ρ A = some o := by
  simp only [exsH, noNone, exH, evH] at h
  cases h1 : ρ[i]? with
  | none => rw [h1] at h; cases h
  | some w =>
    cases w with
    | none => rw [h1] at h; cases h
    | some w =>
      refine ⟨w, rfl, ?_⟩
      rw [h1] at h
      cases w with
      | non =>
        simp only [cstW, cmpW, Option.map_some, exsH, exH] at h
        cases h
      | _ =>
        simp only [cstW, cmpW, Option.map_some, exsH] at h
        exact ⟨(fun z => nomatch z), h⟩
theorem hx_asg {i : Nat} {e : XE} {r : XSs} {ρ : HEnv} {A : AH} {o : OutH} (h : exsH Φ (.cons (.asg (.nm i) e) r) ρ A = some o) : ∃ w A1, evH Φ e ρ A = some (w, A1) ∧ i < ρ.length ∧ exsH Φ r (ρ.set i (some w)) A1 = some o := by
  rw [exsH, exH] at h
  cases h1 : evH Φ e ρ A with
  | none => rw [h1] at h; cases h
  | some q =>
    obtain ⟨w, A1⟩ := q
    rw [h1] at h
    simp only [setTW] at h
    by_cases hi : i < ρ.length
    · rw [if_pos hi] at h
      exact ⟨w, A1, rfl, hi, h⟩
    · rw [if_neg hi] at h
      cases h
theorem hx_ret {e : XE} {r : XSs} {ρ : HEnv} {A : AH} {o : OutH} (h : exsH Φ (.cons (.ret e) r) ρ A = some o) : ∃ w A1, evH Φ e ρ A = some (w, A1) ∧ o = .rt w A1 := by
  rw [exsH, exH] at h
  cases h1 : evH Φ e ρ A with
  | none => rw [h1] at h; cases h
  | some q =>
    obtain ⟨w, A1⟩ := q
    rw [h1] at h
    cases h
    exact ⟨w, A1, rfl, rfl⟩
theorem ev_call_some {f : Str} {as : XEs} {ρ : HEnv} {A A' : AH} {w : W} (h : evH Φ (.call f as) ρ A = some (w, A')) : ∃ φ ws A1, Φ f = some φ ∧ evsH Φ as ρ A = some (ws, A1) ∧ φ ws A1 = some (w, A') := by
  rw [evH] at h
  split at h
  · rename_i φ ws A1 h1 h2
    exact ⟨φ, ws, A1, h1, h2, h⟩
  · cases h
def tCl (Φ : Fns) (F : Fx) (f : Str) (as : XEs) : TE := fun σ H Q => ∃ m A ρ w A', GE F.N F.sc m A ρ σ H ∧ evH Φ (.call f as) ρ A = some (w, A') ∧ PostR F.C F.E m H A' Q w
theorem x_call (ok : Xok Φ Φ' R c k X F) {n : Nat} {f : Str} {pf pc : Pos} {es : List Expr} {as' : XEs} (h : trEs n c es = some as') (hs : okEs (pl R) as' = true) (hR : R f = true) (hne : es ≠ []) (hg : glB c.sc f = true) (hd : (f == ("__debug__" : Str)) = false) :
    PE X (.Call (.Name f pf) es [] pc) (tCl Φ' F f as') := by
  refine ⟨fun pins s σ H Q I ⟨m, A, ρ, w, A', ⟨σ', g, re⟩, e, q⟩ => ?_⟩
  obtain ⟨φ, ws, A1, e1, e2, e3⟩ := ev_call_some e
  obtain ⟨fa, fd, ps, m1, m2, m3, m4⟩ := (ok.hr f φ hR e1).ex
  obtain ⟨pa, pp⟩ := (sound Φ n).a c X.nox k ok.ok es as' h
  cases es with
  | nil => exact (hne rfl).elim
  | cons e0 es =>
    have z := PE_gh (pe_callS m3 ok.ok.room (glB_ok (by rw [show X.env.scope = c.sc from ok.ok.hsc]; exact hg)) m1 m2 m4 (fun σ => passAt ok.tk σ) (PA_nox pa) hd (star_plain (pp e0 List.mem_cons_self) es X.env) (star_any fun e' he => pp e' (List.mem_cons_of_mem _ he)) (pos := pc) (p := pf))
    refine z.run pins s σ H Q I ⟨σ', ok.gh g, ?_⟩
    refine ⟨m, A, ρ, ws, A1, re, by rw [← evsH_ok ok.p as' hs]; exact e2, fun vs m' H' x1 g1 r1 => ⟨m', A1, ws, w, A', g1, r1, e3, PostR.of (fun n1 => (q.val n1).on x1) fun n1 m2' H2 x2 g2 => ?_⟩⟩
    subst n1
    exact q m2' H2 (x1.trans x2) g2
theorem x_raise (ok : Xok Φ Φ' R c k X F) {xc mm : Str} {j : Nat} {p1 p2 p3 p4 : Pos} (hc : ExcC X.K X.mg xc F.C) (hg : glB c.sc xc = true) (hd : (xc == ("__debug__" : Str)) = false) :
    PS X (.Raise (some (.Call (.Name xc p1) [.Constant (.str mm) j p2] [] p3)) none p4) (tX Φ' F (.cons (.ret (.cst .none)) .nil)) :=
  (ps_raise (X := X) (show X.calm = true from ok.ok.calm) ok.tk (pmk_own PySem.F.excBase_ValueError hc.e hc.g hc.k (raises_own hc.b hc.t) (glB_ok (by rw [show X.env.scope = c.sc from ok.ok.hsc]; exact hg)) hd)).imp fun D σ H ⟨m0, H0, m, A, ρ, o, x, re, e, q⟩ => by
  obtain ⟨w, A1, e1, rfl⟩ := hx_ret e
  rw [evH] at e1
  cases e1
  exact q m H x re.hr
theorem x_retC (ok : Xok Φ Φ' R c k X F) {n : Nat} {f : Str} {pf pc pos : Pos} {es : List Expr} {as' : XEs} (h : trEs n c es = some as') (hs : okEs (pl R) as' = true) (hR : R f = true) (hne : es ≠ []) (hg : glB c.sc f = true) (hd : (f == ("__debug__" : Str)) = false) :
    PS X (.Return (some (.Call (.Name f pf) es [] pc)) pos) (tX Φ' F (.cons (.ret (.call f as')) .nil)) := (ps_ret (x_call ok h hs hR hne hg hd)).imp fun D σ H ⟨m0, H0, m, A, ρ, o, x, re, e, q⟩ => by
  obtain ⟨w, A1, e1, rfl⟩ := hx_ret e
  refine ⟨m, A, ρ, w, A1, re, e1, PostR.of (fun n1 => (PostR.val q n1).on x) fun n1 m' H' x' g' => ?_⟩
  subst n1
  exact q m' H' (x.trans x') g'
theorem x_ret (ok : Xok Φ Φ' R c k X F) {n : Nat} {e : Expr} {e' : XE} {pos : Pos} (h : trE n c e = some e') (hs : okE (pl R) e' = true) (hn : nnE e' = true) : PS X (.Return (some e) pos) (tX Φ' F (.cons (.ret e') .nil)) :=
  (ps_ret (PE_gh (PE.nox ((sound Φ n).e c X.nox k ok.ok e e' h)))).imp fun D σ H ⟨m0, H0, m, A, ρ, o, x, ⟨σ', g, re⟩, e, q⟩ => by
  obtain ⟨w, A1, e1, rfl⟩ := hx_ret e
  have z := PostR.val q (nnE_ok hn e1)
  exact ⟨σ', ok.gh g, m, A, ρ, w, A1, re, by rw [← evH_ok ok.p _ hs]; exact e1, z.on x⟩
theorem x_retV (ok : Xok Φ Φ' R c k X F) {n i : Nat} {e : Expr} {pos : Pos} (h : trE n c e = some (.var i)) : PS X (.Return (some e) pos) (tX Φ' F (.cons (noNone i) (.cons (.ret (.var i)) .nil))) :=
  (ps_ret (PE_gh (PE.nox ((sound Φ n).e c X.nox k ok.ok e _ h)))).imp fun D σ H ⟨m0, H0, m, A, ρ, o, x, ⟨σ', g, re⟩, e, q⟩ => by
  obtain ⟨w, hw, nn, e⟩ := hx_no e
  obtain ⟨w', A1, e1, rfl⟩ := hx_ret e
  have e2 := e1
  rw [evH, hw] at e1
  cases e1
  exact ⟨σ', ok.gh g, m, A, ρ, w, A, re, by rw [evH, hw], (PostR.val q nn).on x⟩
theorem x_asgC (ok : Xok Φ Φ' R c k X F) {n i : Nat} {x f : Str} {px pf pc pos : Pos} {es : List Expr} {as' : XEs} (h : trEs n c es = some as') (hs : okEs (pl R) as' = true) (hR : R f = true) (hne : es ≠ []) (hg : glB c.sc f = true) (hd : (f == ("__debug__" : Str)) = false)
    (hl : locB c x = true) (hi : ixS x c.N = some i) : PS X (.Assign [.Name x px] (.Call (.Name f pf) es [] pc) pos) (tX Φ' F (.cons (.asg (.nm i) (.call f as')) (.cons (ckNone i) .nil))) := by
  obtain ⟨l1, l2⟩ := locB_ok ok.ok hl
  refine (ps_set (X := X) (show X.N.Nodup from ok.ok.nd) (by rw [show X.N = c.N from ok.ok.hN]; exact ixS_get hi) l1 (x_call ok h hs hR hne hg hd) rfl l2).imp fun D σ H ⟨m0, H0, m, A, ρ, o, x, re, e, q⟩ => ?_
  obtain ⟨w, A1, e1, hlt, e⟩ := hx_asg e
  obtain ⟨w', e2, e3⟩ := hx_ck e
  rw [List.getElem?_set_self hlt] at e2
  cases e2
  refine ⟨m, A, ρ, w, A1, re, e1, PostR.of (fun n1 => ?_) fun n1 m' H' x' g' => ?_⟩
  · rcases e3 with ⟨z, _⟩ | ⟨_, e3⟩
    · exact (n1 z).elim
    · rw [exsH] at e3
      cases e3
      exact fun v m' H' x' g' r => q m' _ H' (x.trans x') ((re.ex x' g').put hlt r)
  · rcases e3 with ⟨_, rfl⟩ | ⟨z, _⟩
    · exact q m' H' (x.trans x') g'
    · exact (z n1).elim
end
end VI
set_option Elab.async false
set_option linter.all false
set_option maxRecDepth 100000
set_option maxHeartbeats 4000000
namespace VI
open PySem PySem.Spec PyProof.Rows L2
theorem PostR.on {C : Addr} {E : XK} {m m1 : List Addr} {H H1 : Hp} {A : AH} {Q : VK} {w : W} (q : PostR C E m H A Q w) (x : Ex m H m1 H1) : PostR C E m1 H1 A Q w :=
  PostR.of (fun n1 => (q.val n1).on x) fun n1 m' H' x' g' => by
    subst n1
    exact q m' H' (x.trans x') g'
def ghB (c : Co) (i : Nat) : Bool := match c.N[i]? with
  | some x => (c.sc.names.lookup x).isNone
  | none => false
theorem ghB_ok {c : Co} {i : Nat} (h : ghB c i = true) : ∀ x, c.N[i]? = some x → ¬ Vis c.sc x := fun x e v => by
  unfold ghB at h
  rw [e] at h
  simp only [Option.isNone_iff_eq_none] at h
  rcases v with v | v | v <;> rw [h] at v <;> cases v
section
variable {Φ Φ' : Fns} {R : Str → Bool} {c : Co} {k : Nat} {X : Cx} {F : Fx}
theorem Xok.gn (o : Xok Φ Φ' R c k X F) {i : Nat} (h : ghB c i = true) : ∀ x, F.N[i]? = some x → ¬ Vis F.sc x := by
  rw [o.fn, o.fs]
  exact ghB_ok h
theorem ev_tup2 {a b : XE} {ρ : HEnv} {A A' : AH} {w : W} (h : evH Φ (.tup (.cons a (.cons b .nil))) ρ A = some (w, A')) : ∃ x y A1, evH Φ a ρ A = some (x, A1) ∧ evH Φ b ρ A1 = some (y, A') ∧ w = .tup [x, y] := by
  rw [evH] at h
  split at h
  · rename_i ws A1 h1
    split at h
    · cases h
      rw [evsH] at h1
      split at h1
      · rename_i x A2 h2
        rw [evsH] at h1
        cases h3 : evH Φ b ρ A2 with
        | none => rw [h3] at h1; cases h1
        | some q =>
          obtain ⟨y, A3⟩ := q
          rw [h3] at h1
          simp only [evsH] at h1
          cases h1
          exact ⟨x, y, A2, h2, h3, rfl⟩
      · cases h1
    · cases h
  · cases h
theorem ev_var_some {i : Nat} {ρ : HEnv} {A A' : AH} {w : W} (h : evH Φ (.var i) ρ A = some (w, A')) : ρ[i]? = some (some w) ∧ A' = A := by
  rw [evH] at h
  split at h
  · rename_i w' h1
    cases h
    exact ⟨h1, rfl⟩
  · cases h
theorem rv_pair {m : List Addr} {H : Hp} {p : Addr} {v u : V} {a b : W} (np : H p = none) (e : Ex m H m (upd H p (.tup [v, u]))) {A : AH} (g : HR m A H) (r1 : Rv m H v a) (r2 : Rv m H u b) : Rv m (upd H p (.tup [v, u])) (.ref p) (.tup [a, b]) :=
  .tup upd_same (by show 2 ≤ lim; decide) (.cons (r1.ex g e) (.cons (r2.ex g e) .nil))
theorem x_ret2 (ok : Xok Φ Φ' R c k X F) {n n2 t0 : Nat} {f : Str} {pf pc pt pos : Pos} {j : Nat} {es : List Expr} {as' : XEs} {e2 : Expr} {e2' : XE} (h : trEs n c es = some as') (hs : okEs (pl R) as' = true) (hR : R f = true) (hne : es ≠ []) (hg : glB c.sc f = true) (hd : (f == ("__debug__" : Str)) = false)
    (h2 : trE n2 c e2 = some e2') (hs2 : okE (pl R) e2' = true) (hp2 : plainE e2 = true) (hb : ghB c t0 = true) :
    PS X (.Return (some (.Tuple [.Call (.Name f pf) es [] pc, e2] j pt)) pos) (tX Φ' F (.cons (.asg (.nm t0) (.call f as')) (.cons (ckNone t0) (.cons (.ret (.tup (.cons (.var t0) (.cons e2' .nil)))) .nil)))) :=
  (ps_ret (pe_tup (pa_cons (x_call ok h hs hR hne hg hd) (pa_cons (PE_gh (PE.nox ((sound Φ n2).e c X.nox k ok.ok e2 e2' h2))) pa_nil (star_plain hp2 _ _)) (star_plain rfl _ _)))).imp fun D σ H ⟨m0, H0, m, A, ρ, o, x, re, e, q⟩ => by
  obtain ⟨w, A1, e1, hlt, e⟩ := hx_asg e
  obtain ⟨w', e3, e4⟩ := hx_ck e
  rw [List.getElem?_set_self hlt] at e3
  cases e3
  refine ⟨m, A, ρ, w, A1, re, e1, PostR.of (fun n1 v m' H' x1 g1 r1 => ?_) fun n1 m' H' x1 g1 => ?_⟩
  · rcases e4 with ⟨z, _⟩ | ⟨_, e4⟩
    · exact (n1 z).elim
    obtain ⟨w2, A2, e5, rfl⟩ := hx_ret e4
    obtain ⟨a, b, A3, e6, e7, rfl⟩ := ev_tup2 e5
    obtain ⟨e8, rfl⟩ := ev_var_some e6
    rw [List.getElem?_set_self hlt] at e8
    cases e8
    obtain ⟨σ', g', re'⟩ := (re.ex x1 g1).putG (ok.gn hb) hlt r1
    refine ⟨σ', ok.gh g', m', A3, _, b, A2, re', by rw [← evH_ok ok.p _ hs2]; exact e7, fun y m2 H2 x2 g2 r2 => ?_⟩
    refine ⟨by show 2 ≤ sizeLine; decide, fun p np => ?_⟩
    obtain ⟨x3, g3⟩ := Ex.other (o := .tup [v, y]) g2 np
    exact (show Kn m0 H0 A2 (.tup [w, b]) D.rt from q) _ _ _ ((x.trans x1).trans (x2.trans x3)) g3 (rv_pair np x3 g2 (r1.ex g1 x2) r2)
  · rcases e4 with ⟨_, rfl⟩ | ⟨z, _⟩
    · exact q m' H' (x.trans x1) g1
    · exact (z n1).elim
theorem x_asg2 (ok : Xok Φ Φ' R c k X F) {n n2 t0 t1 i : Nat} {x f f2 : Str} {px pf pc pf2 pc2 pt pos : Pos} {j : Nat} {es es2 : List Expr} {as' as2 : XEs} (h : trEs n c es = some as') (hs : okEs (pl R) as' = true) (hR : R f = true) (hne : es ≠ []) (hg : glB c.sc f = true) (hd : (f == ("__debug__" : Str)) = false)
    (h2 : trEs n2 c es2 = some as2) (hs2 : okEs (pl R) as2 = true) (hR2 : R f2 = true) (hne2 : es2 ≠ []) (hg2 : glB c.sc f2 = true) (hd2 : (f2 == ("__debug__" : Str)) = false)
    (hl : locB c x = true) (hi : ixS x c.N = some i) (hb : ghB c t0 = true) (hb1 : ghB c t1 = true) (h01 : t0 ≠ t1) :
    PS X (.Assign [.Name x px] (.Tuple [.Call (.Name f pf) es [] pc, .Call (.Name f2 pf2) es2 [] pc2] j pt) pos)
      (tX Φ' F (.cons (.asg (.nm t0) (.call f as')) (.cons (ckNone t0) (.cons (.asg (.nm t1) (.call f2 as2)) (.cons (ckNone t1) (.cons (.asg (.nm i) (.tup (.cons (.var t0) (.cons (.var t1) .nil)))) .nil)))))) := by
  obtain ⟨l1, l2⟩ := locB_ok ok.ok hl
  refine (ps_set (X := X) (show X.N.Nodup from ok.ok.nd) (by rw [show X.N = c.N from ok.ok.hN]; exact ixS_get hi) l1 (pe_tup (pa_cons (x_call ok h hs hR hne hg hd) (pa_cons (x_call ok h2 hs2 hR2 hne2 hg2 hd2) pa_nil (star_plain rfl _ _)) (star_plain rfl _ _))) rfl l2).imp fun D σ H ⟨m0, H0, m, A, ρ, o, x, re, e, q⟩ => ?_
  obtain ⟨w, A1, e1, hlt, e⟩ := hx_asg e
  obtain ⟨w', e3, e4⟩ := hx_ck e
  rw [List.getElem?_set_self hlt] at e3
  cases e3
  refine ⟨m, A, ρ, w, A1, re, e1, PostR.of (fun n1 v m' H' x1 g1 r1 => ?_) fun n1 m' H' x1 g1 => ?_⟩
  · rcases e4 with ⟨z, _⟩ | ⟨_, e4⟩
    · exact (n1 z).elim
    have re' := (re.ex x1 g1).putG (ok.gn hb) hlt r1
    obtain ⟨u, A2, e5, hlt2, e⟩ := hx_asg e4
    obtain ⟨u', e6, e7⟩ := hx_ck e
    rw [List.getElem?_set_self hlt2] at e6
    cases e6
    refine ⟨m', A1, _, u, A2, re', e5, PostR.of (fun n2 y m2 H2 x2 g2 r2 => ?_) fun n2 m2 H2 x2 g2 => ?_⟩
    · rcases e7 with ⟨z, _⟩ | ⟨_, e7⟩
      · exact (n2 z).elim
      have re2 := (re'.ex x2 g2).putG (ok.gn hb1) hlt2 r2
      obtain ⟨w2, A3, e8, hlt3, e9⟩ := hx_asg e7
      obtain ⟨a, b, A4, f1, f2, rfl⟩ := ev_tup2 e8
      obtain ⟨z1, rfl⟩ := ev_var_some f1
      obtain ⟨z2, rfl⟩ := ev_var_some f2
      rw [List.getElem?_set_ne (Ne.symm h01), List.getElem?_set_self hlt] at z1
      rw [List.getElem?_set_self hlt2] at z2
      cases z1
      cases z2
      rw [exsH] at e9
      cases e9
      refine ⟨by show 2 ≤ sizeLine; decide, fun p np => ?_⟩
      obtain ⟨x3, g3⟩ := Ex.other (o := .tup [v, y]) g2 np
      exact q _ _ _ ((x.trans x1).trans (x2.trans x3)) ((re2.ex x3 g3).put hlt3 (rv_pair np x3 g2 (r1.ex g1 x2) r2))
    · rcases e7 with ⟨_, rfl⟩ | ⟨z, _⟩
      · exact q m2 H2 ((x.trans x1).trans x2) g2
      · exact (z n2).elim
  · rcases e4 with ⟨_, rfl⟩ | ⟨z, _⟩
    · exact q m' H' (x.trans x1) g1
    · exact (z n1).elim
theorem one_out {r : Option OutH} {o : OutH} (h : (match r with
    | some (.nx ρ' A') => exsH Φ .nil ρ' A'
    | z => z) = some o) : r = some o := by
  cases r with
  | none => cases h
  | some z =>
    cases z with
    | nx ρ' A' => simp only [exsH] at h; exact h
    | _ => exact h
theorem x_for (ok : Xok Φ Φ' R c k X F) {n i : Nat} {v : Str} {pv pos : Pos} {it : Expr} {it' : XI} {b : List Stmt} {b' : XSs} (hi : trI n c it (.Name v pv) = some it') (hs : okI (pl R) it' = true) (ht : trTg c (.Name v pv) = some (.nm i)) (hb : PSs X b (tX Φ' F b')) :
    PS X (.For (.Name v pv) it b [] pos) (tX Φ' F (.cons (.for (.nm i) it' b') .nil)) := by
  obtain ⟨pi, pp⟩ := (sound Φ n).i c X.nox k ok.ok it _ it' hi
  refine (ps_for (X := X) ok.pa (show X.calm = true from ok.ok.calm) (PI_gh (PI_nox pi)) (PG_nox (s_tg ok.ok ht)) hb (folded_plain pp X.env)).imp fun D σ H ⟨m0, H0, m, A, ρ, o, x, ⟨σ', g, re⟩, e, q⟩ => ?_
  rw [exsH] at e
  have e := one_out e
  rw [exH_for, eviH_ok ok.p it' hs] at e
  split at e
  rotate_left
  · cases e
  rename_i ws gd A1 hds
  refine ⟨σ', ok.gh g, m, A, ρ, ws, gd, A1, re, hds, fun J m1 H1 s1 g1 wk => ?_⟩
  have x1 := x.trans s1
  refine ⟨fun j n σ H => n = ws.length - j ∧ j ≤ ws.length ∧ ∃ m A ρi, Ex m1 H1 m H ∧ GE F.N F.sc m A ρi σ H ∧ forH (forFH Φ' (.nm i) b') gd (ws.drop j) ρi A = some o, ⟨ws.length, by simp, Nat.zero_le _, m1, A1, ρ, g1.refl, ⟨σ', g, re.ex s1 g1⟩, by simpa using e⟩, ?_⟩
  rintro j n σj Hj ⟨rfl, hj, mj, Aj, ρj, xj, rej, hgo⟩
  obtain ⟨w1, w2, w3⟩ := wk j mj Aj Hj xj rej.hr (forH_guard hgo)
  by_cases hlt : j < ws.length
  · refine .inr ⟨w1 hlt, fun σ' H' => ∃ m' A' ρ', Ex m1 H1 m' H' ∧ GE F.N F.sc m' A' ρ' σ' H' ∧ forH (forFH Φ' (.nm i) b') gd (ws.drop (j + 1)) ρ' A' = some o, fun σ' H' z => ⟨ws.length - (j + 1), by omega, rfl, hlt, z⟩, fun y H' hy => ?_⟩
    obtain ⟨s2, g2, ry⟩ := w3 y H' hy _ (List.getElem?_eq_getElem hlt)
    rw [List.drop_eq_getElem_cons hlt] at hgo
    unfold forH at hgo
    split at hgo
    rotate_left
    · cases hgo
    have re2 := rej.ex s2 g2
    have x2 := xj.trans s2
    generalize hF : forFH Φ' (.nm i) b' ws[j] ρj Aj = r at hgo
    simp only [forFH, setTW] at hF
    by_cases hlt2 : i < ρj.length
    rotate_left
    · rw [if_neg hlt2] at hF
      subst hF
      cases hgo
    rw [if_pos hlt2] at hF
    have hF : exsH Φ' b' (ρj.set i (some ws[j])) Aj = r := hF
    show tX Φ' F b' _ (σj.set i (some y)) H'
    cases r with
    | none => cases hgo
    | some r =>
      refine ⟨m1, H1, mj, Aj, _, r, x2, re2.put hlt2 ry, hF, ?_⟩
      cases r with
      | nx ρ' A' => exact fun m' σ' H' y r => ⟨m', A', ρ', y, r, hgo⟩
      | ct ρ' A' => exact fun m' σ' H' y r => ⟨m', A', ρ', y, r, hgo⟩
      | bk ρ' A' =>
        cases hgo
        exact fun m' σ' H' y r => q m' σ' H' (x1.trans y) r
      | rt w A' =>
        cases hgo
        exact PostR.on q x1
  · have hj' : j = ws.length := by omega
    subst hj'
    refine .inl ⟨w2 (Nat.le_refl _), ?_⟩
    rw [List.drop_length] at hgo
    unfold forH at hgo
    split at hgo <;> cases hgo
    exact q mj σj Hj (x1.trans xj) rej
end
end VI
set_option Elab.async false
set_option linter.all false
set_option maxRecDepth 100000
set_option maxHeartbeats 4000000
namespace VI
open PySem PySem.Spec PyProof.Rows L2
def splE : XE → Bool
  | .bi .split _ => true
  | _ => false
section
variable {Φ Φ' : Fns} {R : Str → Bool} {c : Co} {k : Nat} {X : Cx} {F : Fx}
theorem ev_split {e : XE} {ρ : HEnv} {A A1 : AH} {w : W} (h : splE e = true) (q : evH Φ e ρ A = some (w, A1)) : ∃ n ws, w = .ref n ∧ A1[n]? = some ws := by
  cases e with
  | bi f as =>
    cases f with
    | split =>
      rw [evH] at q
      split at q
      · rename_i ws A0 _
        match ws, q with
        | [], q => simp [biW] at q
        | [_], q => simp [biW] at q
        | _ :: _ :: _ :: _, q => simp [biW] at q
        | [x, y], q =>
          cases x with
          | str a =>
            cases y with
            | str b =>
              simp only [biW] at q
              split at q
              · obtain ⟨h1, h2, _⟩ := newL_ref q
                subst h2
                exact ⟨_, (Txt.split a b).map .str, h1, by simp⟩
              · cases q
            | _ => simp [biW] at q
          | _ => simp [biW] at q
      · cases q
    | _ => cases h
  | _ => cases h
def lcB (t0 t2 : Nat) (f : Str) (as : XEs) : XSs := .cons (.asg (.nm t2) (.call f as)) (.cons (ckNone t2) (.cons (.app (.var t0) (.var t2)) .nil))
def tIt (Φ : Fns) (F : Fx) (e' : XE) : TI := fun σ H Q => ∃ σ', Gh F.N F.sc σ σ' ∧ tVI Φ (.seq e') σ' H Q
def tEl (Φ : Fns) (F : Fx) (sc2 : Scope) (φ : Fun) (as' : XEs) : TEE := fun E' σ H Q => ∃ σ', Gh F.N sc2 σ σ' ∧ tCallS (spX F.C φ) E' (tVA Φ as') σ' H Q
abbrev tLx (Φ : Fns) (F : Fx) (sc2 : Scope) (φ : Fun) (e' : XE) (as' : XEs) (i : Nat) : TE := tLcx (fun cls d _ H => F.E cls d H) (tIt Φ F e') (gName i) (tEl Φ F sc2 φ as') [i]
theorem hx_app1 {t0 t2 : Nat} {ρ : HEnv} {A : AH} {o : OutH} (h : exsH Φ (.cons (.app (.var t0) (.var t2)) .nil) ρ A = some o) : ∃ n w acc, ρ[t0]? = some (some (.ref n)) ∧ ρ[t2]? = some (some w) ∧ A[n]? = some acc ∧ acc.length < lim ∧ o = .nx ρ (A.set n (acc ++ [w])) := by
  rw [exsH] at h
  replace h := one_out h
  rw [exH] at h
  split at h
  rotate_left
  · cases h
  rename_i x A1 h1
  obtain ⟨y1, y2⟩ := ev_var_some h1
  subst y2
  split at h
  rotate_left
  · cases h
  rename_i w A2 h2
  obtain ⟨z1, z2⟩ := ev_var_some h2
  subst z2
  obtain ⟨A3, h3, rfl⟩ := Option.map_eq_some_iff.mp h
  obtain ⟨n, ws, ws', rfl, h4, h5, rfl⟩ := putW_some h3
  unfold appN at h5
  split at h5 <;> cases h5
  rename_i hl
  exact ⟨n, w, ws, y1, z1, h4, hl, rfl⟩
theorem lcx_in (ok : Xok Φ Φ' R c k X F) {sc2 : Scope} {f : Str} {φ : Fun} {e' : XE} {as' : XEs} {i t0 t1 t2 : Nat} {m0 m : List Addr} {H0 H : Hp} {A : AH} {ρ : HEnv} {σ : L2.St} {o : OutH} {rest : XSs} {Q : VK}
    (hs : okE (pl R) e' = true) (hs2 : okEs (pl R) as' = true) (hsp : splE e' = true) (hφ : Φ' f = some φ) (d : [i, t0, t1, t2].Nodup) (gi : ghB c i = true) (g0 : ghB c t0 = true) (g1 : ghB c t1 = true) (g2 : ghB c t2 = true)
    (vb : ∀ (j : Nat) (y : Str), c.N[j]? = some y → Vis sc2 y → j ≠ i → Vis c.sc y) (x : Ex m0 H0 m H) (re : GE F.N F.sc m A ρ σ H)
    (e : exsH Φ' (.cons (.asg (.nm t1) e') (.cons (.asg (.nm t0) (.lst .nil)) (.cons (.for (.nm i) (.seq (.var t1)) (lcB t0 t2 f as')) rest))) ρ A = some o)
    (qx : ∀ Ae, o = .rt .non Ae → ∀ m' H', Ex m0 H0 m' H' → HR m' Ae H' → F.E (.ref F.C) none H')
    (q : ∀ ρe Ae, exsH Φ' rest ρe Ae = some o → ∀ n0 m' H' D, Ex m0 H0 m' H' → GE F.N F.sc m' Ae ρe σ H' → ρe[t0]? = some (some (.ref n0)) → m'[n0]? = some D → Q (.ref D) H') : tLx Φ F sc2 φ e' as' i σ H Q := by
  simp only [List.nodup_cons, List.mem_cons, List.not_mem_nil, or_false, not_or, List.nodup_nil, and_true, not_false_eq_true] at d
  obtain ⟨⟨d1, d2, d3⟩, ⟨d4, d5⟩, d6⟩ := d
  obtain ⟨w, A1, e1, hl1, e⟩ := hx_asg e
  obtain ⟨w0, A2, e2, hl0, e⟩ := hx_asg e
  rw [evH, evsH] at e2
  obtain ⟨rfl, rfl, _⟩ := newL_ref e2
  obtain ⟨n, ws, rfl, hw⟩ := ev_split hsp e1
  have hn : n < A1.length := (List.getElem?_eq_some_iff.mp hw).1
  have ev1 : eviH Φ' (.seq (.var t1)) ((ρ.set t1 (some (.ref n))).set t0 (some (.ref A1.length))) (A1 ++ [[]]) = some (ws, [(n, ws)], A1 ++ [[]]) := by
    rw [eviH, evH, List.getElem?_set_ne d4, List.getElem?_set_self hl1]
    simp only []
    rw [List.getElem?_append_left hn, hw]
  rw [exsH, exH_for, ev1] at e
  simp only [] at e
  cases hf : forH (forFH Φ' (.nm i) (lcB t0 t2 f as')) [(n, ws)] ws ((ρ.set t1 (some (.ref n))).set t0 (some (.ref A1.length))) (A1 ++ [[]]) with
  | none => rw [hf] at e; cases e
  | some oF =>
  rw [hf] at e
  obtain ⟨σ', g, re'⟩ := re
  refine ⟨σ', g, m, A, ρ, ws, [(n, ws)], A1, re', by rw [eviH, ← evH_ok ok.p e' hs, e1]; simp only [hw], fun J m1 H1 s1 h1 wk D nD => ?_⟩
  obtain ⟨s2, h2⟩ := new_cell h1 nD (vs := []) (ws := []) (Nat.zero_le _) .nil
  have hp : n < m1.length := by rw [h1.len]; exact hn
  have re2 : GE F.N F.sc (m1 ++ [D]) (A1 ++ [[]]) ((ρ.set t1 (some (.ref n))).set t0 (some (.ref A1.length))) σ (upd H1 D (.lst [])) :=
    ((GE.ex (GE.ex ⟨σ', g, re'⟩ s1 h1) s2 h2).putG (ok.gn g1) hl1 (.ref (by rw [List.getElem?_append_left hp]; exact List.getElem?_eq_getElem hp) : Rv _ _ (.ref m1[n]) (.ref n))).putG (ok.gn g0) hl0 (.ref (by rw [← h1.len]; simp) : Rv _ _ (.ref D) (.ref A1.length))
  refine ⟨fun j n' H => n' = ws.length - j ∧ j ≤ ws.length ∧ ∃ m A ρj, Ex (m1 ++ [D]) (upd H1 D (.lst [])) m H ∧ GE F.N F.sc m A ρj σ H ∧ ρj[t0]? = some (some (.ref A1.length)) ∧ m[A1.length]? = some D ∧ forH (forFH Φ' (.nm i) (lcB t0 t2 f as')) [(n, ws)] (ws.drop j) ρj A = some oF,
    ⟨ws.length, by simp, Nat.zero_le _, m1 ++ [D], A1 ++ [[]], _, h2.refl, re2, List.getElem?_set_self hl0, by rw [← h1.len]; simp, by simpa using hf⟩, ?_⟩
  rintro j n' Hj ⟨rfl, hj, mj, Aj, ρj, xj, rej, ht0, hD, hgo⟩
  obtain ⟨w1, w2, w3⟩ := wk j mj Aj Hj (s2.trans xj) rej.hr (forH_guard hgo)
  have x1 := x.trans (s1.trans s2)
  by_cases hlt : j < ws.length
  · refine .inr ⟨w1 hlt, fun H' => ∃ m' A' ρ', Ex (m1 ++ [D]) (upd H1 D (.lst [])) m' H' ∧ GE F.N F.sc m' A' ρ' σ H' ∧ ρ'[t0]? = some (some (.ref A1.length)) ∧ m'[A1.length]? = some D ∧ forH (forFH Φ' (.nm i) (lcB t0 t2 f as')) [(n, ws)] (ws.drop (j + 1)) ρ' A' = some oF,
      fun H' z => ⟨ws.length - (j + 1), by omega, rfl, hlt, z⟩, fun y H' hy => ?_⟩
    obtain ⟨s3, h3, ry⟩ := w3 y H' hy _ (List.getElem?_eq_getElem hlt)
    rw [List.drop_eq_getElem_cons hlt] at hgo
    unfold forH at hgo
    split at hgo
    rotate_left
    · cases hgo
    generalize hF : forFH Φ' (.nm i) (lcB t0 t2 f as') ws[j] ρj Aj = r at hgo
    simp only [forFH, setTW] at hF
    by_cases hli : i < ρj.length
    rotate_left
    · rw [if_neg hli] at hF
      subst hF
      cases hgo
    rw [if_pos hli] at hF
    have hF : exsH Φ' (lcB t0 t2 f as') (ρj.set i (some ws[j])) Aj = r := hF
    cases r with
    | none => cases hgo
    | some r =>
    obtain ⟨u, A3, c1, hl2, c2⟩ := hx_asg hF
    obtain ⟨u', c3, c4⟩ := hx_ck c2
    rw [List.getElem?_set_self hl2] at c3
    cases c3
    obtain ⟨φ', us, A4, k1, k2, k3⟩ := ev_call_some c1
    rw [hφ] at k1
    cases k1
    obtain ⟨σj, gj, rj⟩ := id rej
    show (wipe ((wipe σ [i]).set i (some y)) [i] = wipe σ [i]) ∧ _
    refine ⟨by simp [wipe], ?_⟩
    simp only [tYes, if_true]
    have gh2 : Gh F.N sc2 ((wipe σ [i]).set i (some y)) (σj.set i (some y)) := by
      refine ⟨by rw [List.length_set, List.length_set, wipe_length, gj.1], fun j2 z e3 v => ?_⟩
      by_cases hji : i = j2
      · subst hji
        rw [List.getElem?_set, List.getElem?_set, if_pos rfl, if_pos rfl, wipe_length, gj.1]
      · have vz : Vis F.sc z := by
          rw [ok.fs]
          exact vb j2 z (by rw [← ok.fn]; exact e3) v (fun q => hji q.symm)
        rw [List.getElem?_set_ne hji, List.getElem?_set_ne hji, gj.2 j2 z e3 vz]
        simp only [wipe]
        rw [List.getElem?_set_ne hji]
    refine ⟨σj.set i (some y), gh2, mj, Aj, ρj.set i (some ws[j]), us, A4, (rj.ex s3 h3).putS hli ry, by rw [← evsH_ok ok.p as' hs2]; exact k2, fun vs m4 H4 s4 h4 r4 => ⟨m4, A4, us, u, A3, h4, r4, k3, PostR.of (fun n1 v5 m5 H5 s5 h5 r5 => ?_) fun n1 m5 H5 s5 h5 => ?_⟩⟩
    · rcases c4 with ⟨z, _⟩ | ⟨_, c4⟩
      · exact (n1 z).elim
      obtain ⟨n0, u2, acc, z1, z2, z3, z4, rfl⟩ := hx_app1 c4
      rw [List.getElem?_set_ne (Ne.symm d5), List.getElem?_set_ne d1, ht0] at z1
      cases z1
      rw [List.getElem?_set_self hl2] at z2
      cases z2
      have hD5 := s5.pre _ _ (s4.pre _ _ (s3.pre _ _ hD))
      obtain ⟨vs5, p1, p2, p3⟩ := h5.cell _ _ _ hD5 z3
      have hlen' : vs5.length < lim := by rw [p3.len]; exact z4
      obtain ⟨s6, h6⟩ := put_cell h5 hD5 (vs := vs5 ++ [v5]) (ws := acc ++ [u]) (by rw [List.length_append, List.length_singleton]; exact hlen') (p3.app (.cons r5 .nil))
      refine ⟨vs5, p1, limLt (Nat.le_of_lt hlen'), m5, _, _, xj.trans (s3.trans (s4.trans (s5.trans s6))), ?_, ?_, hD5, hgo⟩
      · exact (((((rej.ex s3 h3).putG (ok.gn gi) hli ry).ex s4 h4).ex s5 h5).putG (ok.gn g2) hl2 r5).ex s6 h6
      · rw [List.getElem?_set_ne (Ne.symm d5), List.getElem?_set_ne d1, ht0]
    · rcases c4 with ⟨_, rfl⟩ | ⟨z, _⟩
      · cases hgo
        simp only [Option.some.injEq] at e
        subst e
        exact qx A3 rfl m5 H5 (x1.trans (xj.trans (s3.trans (s4.trans s5)))) h5
      · exact (z n1).elim
  · have hj' : j = ws.length := by omega
    subst hj'
    refine .inl ⟨w2 (Nat.le_refl _), ?_⟩
    rw [List.drop_length] at hgo
    unfold forH at hgo
    split at hgo <;> cases hgo
    exact q ρj Aj e _ mj Hj D (x1.trans xj) rej ht0 hD
end
end VI
set_option Elab.async false
set_option linter.all false
set_option maxRecDepth 100000
set_option maxHeartbeats 4000000
namespace VI
open PySem PySem.Spec PyProof.Rows L2
theorem vis_blk {N : List Str} {sc scope : Scope} {own : List (Str × Nat)} {i : Nat} (b : BlkOk N sc scope own) (ho : own.map (·.2) = [i]) (nd : N.Nodup) : ∀ (j : Nat) (y : Str), N[j]? = some y → Vis (relSc scope sc) y → j ≠ i → Vis sc y := by
  intro j y e v ne
  have key : ∀ k, (relSc scope sc).names.lookup y = some k → (k = .local ∨ k = .cell ∨ k = .free) → Vis sc y := fun k hk hk' => by
    obtain ⟨k', e1, r⟩ := lookup_relS hk
    have own' : (k' = .local ∨ k' = .cell) → False := fun z => by
      rcases b.own _ (PySem.mem_of_lookup e1) z with q | q
      · obtain ⟨p, hp, rfl⟩ := List.mem_map.mp q
        have h1 := b.ix p hp
        have h2 : p.2 ∈ own.map (·.2) := List.mem_map.mpr ⟨p, hp, rfl⟩
        rw [ho, List.mem_singleton] at h2
        rw [h2] at h1
        exact ne (nodup_ix nd e h1)
      · exact q (List.mem_of_getElem? e)
    have free' : k' = .free → Vis sc y := fun z => by
      subst z
      exact (b.free _ (PySem.mem_of_lookup e1) rfl).elim (fun q => .inr (.inl q)) fun q => .inr (.inr q)
    rcases r with rfl | ⟨z, _⟩
    · rcases hk' with z | z | z
      · exact (own' (.inl z)).elim
      · exact (own' (.inr z)).elim
      · exact free' z
    · exact free' z
  rcases v with v | v | v
  · exact key _ v (.inl rfl)
  · exact key _ v (.inr (.inl rfl))
  · exact key _ v (.inr (.inr rfl))
section
variable {Φ Φ' : Fns} {R : Str → Bool} {c : Co} {k : Nat} {X : Cx} {F : Fx}
abbrev blkCo (c : Co) (scope : Scope) : Co := ⟨c.N, relSc scope c.sc, fun x => scope.names.lookup x == some .cell, c.gc⟩
theorem x_lcx (ok : Xok Φ Φ' R c k X F) {n i : Nat} {f v : Str} {φ : Fun} {pf pc pv pos : Pos} {es : List Expr} {as' : XEs} {it : Expr} {e' : XE} {scope : Scope} (hb : blkC c.N c.sc scope (ownOf c.N scope) = true) (ho : (ownOf c.N scope).map (·.2) = [i])
    (hi : trI n c it (.Name v pv) = some (.seq e')) (ht : trTg (blkCo c scope) (.Name v pv) = some (.nm i)) (ha : trEs n (blkCo c scope) es = some as') (hR : R f = true) (hne : es ≠ []) (hg : glB (blkCo c scope).sc f = true) (hd : (f == ("__debug__" : Str)) = false) (hφ : Φ' f = some φ) :
    PE X (.ListComp (.Call (.Name f pf) es [] pc) [⟨.Name v pv, it, [], 0⟩] scope pos) (tLx Φ F (relSc scope c.sc) φ e' as' i) := by
  have bk := blkOk_by hb
  obtain ⟨pi, pp⟩ := (sound Φ n).i c X.nox k ok.ok it _ _ hi
  have e1 : X.N = c.N := ok.ok.hN
  have e2 : X.env.scope = c.sc := ok.ok.hsc
  have pi' : PI X (.Name v pv) it (tIt Φ F e') := ⟨fun pins s σ H Rr I ⟨σ', g, q⟩ => (PI_gh (PI_nox pi)).run pins s σ H Rr I ⟨σ', ok.gh g, q⟩⟩
  obtain ⟨fa, fd, ps, m1, m2, m3, m4⟩ := (ok.hr f φ hR hφ).ex
  have z := pe_lcx (X := X) (W := fun cls d _ H => F.E cls d H) (g := gName i) (te := tEl Φ F (relSc scope c.sc) φ as') (pos := pos) (show X.calm = true from ok.ok.calm) (show X.N.Nodup from ok.ok.nd) ok.st ok.fr ok.tk pi' (by rw [e1, e2]; exact bk)
    (fun s H C cl fp => s_tg (ok.ok.blk hb s H C cl fp) ht) (fun s H C cl fp xe E' hx => (?_ : PE ((X.blk s H scope (compEnvC scope cl C X.env) fp).wish xe) (.Call (.Name f pf) es [] pc) _)) (folded_plain pp X.env)
  · rw [ho] at z
    exact z
  · have okb := ok.ok.blk hb s H C cl fp
    obtain ⟨pa, pq⟩ := (sound Φ n).a _ _ k okb es as' ha
    cases es with
    | nil => exact (hne rfl).elim
    | cons e0 es =>
      have y := PE_gh (X := (X.blk s H scope (compEnvC scope cl C X.env) fp).wish xe) (pe_callS (X := (X.blk s H scope (compEnvC scope cl C X.env) fp).wish xe) (p := pf) (pos := pc) m3 okb.room (glB_ok (by rw [show (compEnvC scope cl C X.env).scope = relSc scope c.sc from okb.hsc]; exact hg)) m1 m2 m4 hx (PA_nox (X := (X.blk s H scope (compEnvC scope cl C X.env) fp).wish xe) pa) hd
        (star_plain (pq e0 List.mem_cons_self) es _) (star_any fun e' he => pq e' (List.mem_cons_of_mem _ he)))
      refine y.imp fun σ H Q ⟨σ', g, q⟩ => ⟨σ', ?_, q⟩
      show Gh X.N (compEnvC scope cl C X.env).scope σ σ'
      rw [show (compEnvC scope cl C X.env).scope = relSc scope c.sc from okb.hsc, e1, ← ok.fn]
      exact g
structure LcOk (R : Str → Bool) (c : Co) (n i t0 t1 t2 : Nat) (f v : Str) (pv : Pos) (es : List Expr) (as' : XEs) (it : Expr) (e' : XE) (scope : Scope) : Prop where
  hb : blkC c.N c.sc scope (ownOf c.N scope) = true
  ho : (ownOf c.N scope).map (·.2) = [i]
  hi : trI n c it (.Name v pv) = some (.seq e')
  ht : trTg (blkCo c scope) (.Name v pv) = some (.nm i)
  ha : trEs n (blkCo c scope) es = some as'
  hR : R f = true
  hne : es ≠ []
  hg : glB (blkCo c scope).sc f = true
  hd : (f == ("__debug__" : Str)) = false
  hs : okE (pl R) e' = true
  hs2 : okEs (pl R) as' = true
  hsp : splE e' = true
  d : [i, t0, t1, t2].Nodup
  gi : ghB c i = true
  g0 : ghB c t0 = true
  g1 : ghB c t1 = true
  g2 : ghB c t2 = true
def lcS (i t0 t1 t2 : Nat) (f : Str) (as' : XEs) (e' : XE) (rest : XSs) : XSs := .cons (.asg (.nm t1) e') (.cons (.asg (.nm t0) (.lst .nil)) (.cons (.for (.nm i) (.seq (.var t1)) (lcB t0 t2 f as')) rest))
theorem LcOk.run {n i t0 t1 t2 : Nat} {f v : Str} {pv : Pos} {es : List Expr} {as' : XEs} {it : Expr} {e' : XE} {scope : Scope} (l : LcOk R c n i t0 t1 t2 f v pv es as' it e' scope) (ok : Xok Φ Φ' R c k X F) {φ : Fun} (hφ : Φ' f = some φ) {m0 m : List Addr} {H0 H : Hp} {A : AH} {ρ : HEnv} {σ : L2.St} {o : OutH} {rest : XSs} {D : Ends} {Q : VK}
    (x : Ex m0 H0 m H) (re : GE F.N F.sc m A ρ σ H) (e : exsH Φ' (lcS i t0 t1 t2 f as' e' rest) ρ A = some o) (p : PostX F m0 H0 D o)
    (q : ∀ ρe Ae, exsH Φ' rest ρe Ae = some o → ∀ n0 m' H' D, Ex m0 H0 m' H' → GE F.N F.sc m' Ae ρe σ H' → ρe[t0]? = some (some (.ref n0)) → m'[n0]? = some D → Q (.ref D) H') : tLx Φ F (relSc scope c.sc) φ e' as' i σ H Q :=
  lcx_in ok l.hs l.hs2 l.hsp hφ l.d l.gi l.g0 l.g1 l.g2 (vis_blk (blkOk_by l.hb) l.ho (by have := ok.ok.nd; rw [show X.nox.N = c.N from ok.ok.hN] at this; exact this)) x re e (fun Ae h m' H' x' g' => by
    subst h
    exact p m' H' x' g') q
theorem LcOk.pe {n i t0 t1 t2 : Nat} {f v : Str} {pv pf pc pos : Pos} {es : List Expr} {as' : XEs} {it : Expr} {e' : XE} {scope : Scope} (l : LcOk R c n i t0 t1 t2 f v pv es as' it e' scope) (ok : Xok Φ Φ' R c k X F) {φ : Fun} (hφ : Φ' f = some φ) :
    PE X (.ListComp (.Call (.Name f pf) es [] pc) [⟨.Name v pv, it, [], 0⟩] scope pos) (tLx Φ F (relSc scope c.sc) φ e' as' i) := x_lcx ok l.hb l.ho l.hi l.ht l.ha l.hR l.hne l.hg l.hd hφ
theorem x_setLc {n i t0 t1 t2 j : Nat} {f v x : Str} {pv pf pc px p pos : Pos} {es : List Expr} {as' : XEs} {it : Expr} {e' : XE} {scope : Scope} (l : LcOk R c n i t0 t1 t2 f v pv es as' it e' scope) (ok : Xok Φ Φ' R c k X F) (hl : locB c x = true) (hj : ixS x c.N = some j) :
    PS X (.Assign [.Name x px] (.ListComp (.Call (.Name f pf) es [] pc) [⟨.Name v pv, it, [], 0⟩] scope p) pos) (tX Φ' F (lcS i t0 t1 t2 f as' e' (.cons (.asg (.nm j) (.var t0)) .nil))) := by
  obtain ⟨φ, hφ⟩ := ok.has f l.hR
  obtain ⟨l1, l2⟩ := locB_ok ok.ok hl
  have e1 : X.N = c.N := ok.ok.hN
  have hN : X.N[j]? = some x := by rw [e1]; exact ixS_get hj
  have fin : ∀ D σ H, tX Φ' F (lcS i t0 t1 t2 f as' e' (.cons (.asg (.nm j) (.var t0)) .nil)) D σ H → tAsg (tLx Φ F (relSc scope c.sc) φ e' as' i) (gName j) D σ H := fun D σ H ⟨m0, H0, m, A, ρ, o, x, re, e, q⟩ => by
    refine l.run ok hφ x re e q fun ρe Ae he n0 m' H' D' x' re' ht hD => ?_
    obtain ⟨w, A', e5, hlt, e6⟩ := hx_asg he
    obtain ⟨y1, y2⟩ := ev_var_some e5
    subst y2
    rw [ht] at y1
    cases y1
    rw [exsH] at e6
    cases e6
    exact q m' _ H' x' (re'.put hlt (.ref hD))
  have hsw : ∃ b, swapsWith (.ListComp (.Call (.Name f pf) es [] pc) [⟨.Name v pv, it, [], 0⟩] scope p) (some (.Name x px)) pos.line X.env = pure b ∧ (b = true → X.env.scope.names.lookup x = some .local) := by
    refine ⟨_, rfl, fun hb => ?_⟩
    simp only [Bool.and_eq_true] at hb
    exact beq_iff_eq.mp hb.1.1.2
  obtain ⟨b, hsw, hb⟩ := hsw
  cases b with
  | false => exact (ps_set (X := X) (show X.N.Nodup from ok.ok.nd) hN l1 (l.pe ok hφ) hsw l2).imp fin
  | true =>
    have bk := blkOk_by l.hb
    have e2 : X.env.scope = c.sc := ok.ok.hsc
    obtain ⟨pi, pp⟩ := (sound Φ n).i c X.nox k ok.ok it _ _ l.hi
    have pi' : PI X (.Name v pv) it (tIt Φ F e') := ⟨fun pins s σ H Rr I ⟨σ', g, q⟩ => (PI_gh (PI_nox pi)).run pins s σ H Rr I ⟨σ', ok.gh g, q⟩⟩
    obtain ⟨fa, fd, ps, m1, m2, m3, m4⟩ := (ok.hr f φ l.hR hφ).ex
    have z := ps_setLcx (X := X) (W := fun cls d _ H => F.E cls d H) (g := gName i) (te := tEl Φ F (relSc scope c.sc) φ as') (show X.calm = true from ok.ok.calm) (show X.N.Nodup from ok.ok.nd) hN (hb rfl) hsw ok.st ok.fr ok.tk pi' (by rw [e1, e2]; exact bk)
      (fun s H C cl fp => s_tg (ok.ok.blk l.hb s H C cl fp) l.ht) (fun s H C cl fp xe E' hx => (?_ : PE ((X.blk s H scope (compEnvC scope cl C X.env) fp).wish xe) (.Call (.Name f pf) es [] pc) _)) (folded_plain pp X.env)
    · rw [l.ho] at z
      exact z.imp fin
    · have okb := ok.ok.blk l.hb s H C cl fp
      obtain ⟨pa, pq⟩ := (sound Φ n).a _ _ k okb es as' l.ha
      have hne := l.hne
      cases es with
      | nil => exact (hne rfl).elim
      | cons e0 es =>
        have y := PE_gh (X := (X.blk s H scope (compEnvC scope cl C X.env) fp).wish xe) (pe_callS (X := (X.blk s H scope (compEnvC scope cl C X.env) fp).wish xe) (p := pf) (pos := pc) m3 okb.room (glB_ok (by rw [show (compEnvC scope cl C X.env).scope = relSc scope c.sc from okb.hsc]; exact l.hg)) m1 m2 m4 hx (PA_nox (X := (X.blk s H scope (compEnvC scope cl C X.env) fp).wish xe) pa) l.hd
          (star_plain (pq e0 List.mem_cons_self) es _) (star_any fun e' he => pq e' (List.mem_cons_of_mem _ he)))
        refine y.imp fun σ H Q ⟨σ', g, q⟩ => ⟨σ', ?_, q⟩
        show Gh X.N (compEnvC scope cl C X.env).scope σ σ'
        rw [show (compEnvC scope cl C X.env).scope = relSc scope c.sc from okb.hsc, e1, ← ok.fn]
        exact g
def isLst (j : Nat) : XS := .ife (.isi (.var j) .list) .nil (.cons .stop .nil)
theorem hx_lst {j : Nat} {r : XSs} {ρ : HEnv} {A : AH} {o : OutH} (h : exsH Φ (.cons (isLst j) r) ρ A = some o) : ∃ n, ρ[j]? = some (some (.ref n)) ∧ exsH Φ r ρ A = some o := by
  simp only [exsH, isLst, exH, evH] at h
  cases h1 : ρ[j]? with
  | none => rw [h1] at h; cases h
  | some w =>
    cases w with
    | none => rw [h1] at h; cases h
    | some w =>
      rw [h1] at h
      cases w with
      | ref n =>
        simp only [isiW, exsH] at h
        exact ⟨n, rfl, h⟩
      | _ =>
        simp only [isiW, exsH, exH] at h
        cases h
theorem x_appLc {n i t0 t1 t2 j : Nat} {f v y : Str} {pv pf pc py p ap cp pos : Pos} {es : List Expr} {as' : XEs} {it : Expr} {e' : XE} {scope : Scope} (l : LcOk R c n i t0 t1 t2 f v pv es as' it e' scope) (ok : Xok Φ Φ' R c k X F) (hv : visB c.sc y = true) (hj : ixS y c.N = some j)
    (hd : (y == ("__debug__" : Str)) = false) (hcd : (y == ("__classdict__" : Str)) = false) (hline : (ap.endLine == cp.line) = true) :
    PS X (.Expr (.Call (.Attribute (.Name y py) "append" ap) [.ListComp (.Call (.Name f pf) es [] pc) [⟨.Name v pv, it, [], 0⟩] scope p] [] cp) pos) (tX Φ' F (.cons (isLst j) (lcS i t0 t1 t2 f as' e' (.cons (.app (.var j) (.var t0)) .nil)))) := by
  obtain ⟨φ, hφ⟩ := ok.has f l.hR
  have e1 : X.N = c.N := ok.ok.hN
  have e2 : X.env.scope = c.sc := ok.ok.hsc
  have hN : c.N[j]? = some y := ixS_get hj
  have vis : Vis c.sc y := visB_ok hv
  refine (ps_expr (pe_bm PySem.F.plainAttrs_list PySem.F.slot_list_append PySem.F.type_list_append mt_append (pe_var (X := X) (by rw [e1]; exact hN) (by rw [e2]; exact vis) hd hcd) (pa_cons (l.pe ok hφ) pa_nil (star_plain rfl _ _)) (recv_base rfl _ _) (few1 rfl cp X.env) hline (star_plain rfl _ _) rfl)).imp fun D σ H ⟨m0, H0, m, A, ρ, o, x, re, e, q⟩ => ?_
  obtain ⟨nj, hnj, e⟩ := hx_lst e
  obtain ⟨σ', g, re'⟩ := id re
  obtain ⟨vj, c1, c2⟩ := re'.get _ _ hnj
  cases c2 with
  | ref c2 =>
  rename_i a
  have hσ : σ[j]? = some (some (.ref a)) := by rw [← g.2 j y (by rw [ok.fn]; exact hN) (by rw [ok.fs]; exact vis)]; exact c1
  obtain ⟨_, us, _, q1, _⟩ := re.hr.lst c2
  refine ⟨.ref a, hσ, .inl ⟨rfl, _, SqL.of q1⟩, l.run ok hφ x re e q fun ρe Ae he n0 m' H' D' x' re2 ht hD => ?_⟩
  obtain ⟨n1, w, acc, z1, z2, z3, z4, rfl⟩ := hx_app1 he
  rw [ht] at z2
  cases z2
  obtain ⟨σ2, g2, r2⟩ := id re2
  obtain ⟨v2, y1, y2⟩ := r2.get _ _ z1
  rw [g2.2 j y (by rw [ok.fn]; exact hN) (by rw [ok.fs]; exact vis), hσ] at y1
  cases y1
  cases y2 with
  | ref y2 =>
  obtain ⟨vs, p1, p2, p3⟩ := re2.hr.cell _ _ _ y2 z3
  have hlen' : vs.length < lim := by rw [p3.len]; exact z4
  obtain ⟨s6, h6⟩ := put_cell re2.hr y2 (vs := vs ++ [.ref D']) (ws := acc ++ [.ref n0]) (by rw [List.length_append, List.length_singleton]; exact hlen') (p3.app (.cons (.ref hD) .nil))
  exact ⟨a, vs, .ref D', rfl, rfl, p1, limLt (Nat.le_of_lt hlen'), q m' σ _ (x'.trans s6) (re2.ex s6 h6)⟩
end
end VI
set_option Elab.async false
set_option linter.all false
set_option maxRecDepth 100000
set_option maxHeartbeats 4000000
namespace VI
open PySem PySem.Spec PyProof.Rows L2
structure TrX where
  R : Str → Bool
  EX : Str
  t0 : Nat
  t1 : Nat
  t2 : Nat
def argsX (T : TrX) (n : Nat) (c : Co) (f : Str) (es : List Expr) : Option XEs := match trEs n c es with
  | some as' => if okEs (pl T.R) as' = true ∧ T.R f = true ∧ es ≠ [] ∧ glB c.sc f = true ∧ (f == ("__debug__" : Str)) = false then some as' else none
  | none => none
def plainX (T : TrX) (n : Nat) (c : Co) (s : Stmt) : Option XSs := match trS n c s with
  | some s' => if okS (pl T.R) s' = true then some (.cons s' .nil) else none
  | none => none
def retX (T : TrX) (n : Nat) (c : Co) (e : Expr) : Option XSs := match trE n c e with
  | some e' => if nnE e' = true then (if okE (pl T.R) e' = true then some (.cons (.ret e') .nil) else none) else match e' with
    | .var i => some (.cons (noNone i) (.cons (.ret (.var i)) .nil))
    | _ => none
  | none => none
def lcX (T : TrX) (n : Nat) (c : Co) (f : Str) (es : List Expr) (v : Str) (pv : Pos) (it : Expr) (scope : Scope) (rest : XSs) : Option XSs :=
  match trI n c it (.Name v pv), trTg (blkCo c scope) (.Name v pv), argsX T n (blkCo c scope) f es, (ownOf c.N scope).map (·.2) with
  | some (.seq e'), some (.nm i), some as', [i'] => if i' = i ∧ blkC c.N c.sc scope (ownOf c.N scope) = true ∧ okE (pl T.R) e' = true ∧ splE e' = true ∧ [i, T.t0, T.t1, T.t2].Nodup ∧ ghB c i = true ∧ ghB c T.t0 = true ∧ ghB c T.t1 = true ∧ ghB c T.t2 = true then some (lcS i T.t0 T.t1 T.t2 f as' e' rest) else none
  | _, _, _, _ => none
def returnX (T : TrX) (n : Nat) (c : Co) : Expr → Option XSs
  | .Call (.Name f pf) es [] pc => match argsX T n c f es with
    | some as' => some (.cons (.ret (.call f as')) .nil)
    | none => retX T n c (.Call (.Name f pf) es [] pc)
  | .Tuple [.Call (.Name f pf) es [] pc, e2] j pt => match argsX T n c f es with
    | some as' => match trE n c e2 with
      | some e2' => if okE (pl T.R) e2' = true ∧ plainE e2 = true ∧ ghB c T.t0 = true then some (.cons (.asg (.nm T.t0) (.call f as')) (.cons (ckNone T.t0) (.cons (.ret (.tup (.cons (.var T.t0) (.cons e2' .nil)))) .nil))) else none
      | none => none
    | none => retX T n c (.Tuple [.Call (.Name f pf) es [] pc, e2] j pt)
  | e => retX T n c e
def assignX (T : TrX) (n : Nat) (c : Co) (x : Str) (px pos : Pos) : Expr → Option XSs
  | .Call (.Name f pf) es [] pc => match argsX T n c f es with
    | some as' => if locB c x = true then match ixS x c.N with
      | some i => some (.cons (.asg (.nm i) (.call f as')) (.cons (ckNone i) .nil))
      | none => none else none
    | none => plainX T n c (.Assign [.Name x px] (.Call (.Name f pf) es [] pc) pos)
  | .Tuple [.Call (.Name f pf) es [] pc, .Call (.Name f2 pf2) es2 [] pc2] j pt => match argsX T n c f es, argsX T n c f2 es2 with
    | some as', some as2 => if locB c x = true ∧ ghB c T.t0 = true ∧ ghB c T.t1 = true ∧ T.t0 ≠ T.t1 then match ixS x c.N with
      | some i => some (.cons (.asg (.nm T.t0) (.call f as')) (.cons (ckNone T.t0) (.cons (.asg (.nm T.t1) (.call f2 as2)) (.cons (ckNone T.t1) (.cons (.asg (.nm i) (.tup (.cons (.var T.t0) (.cons (.var T.t1) .nil)))) .nil)))))
      | none => none else none
    | _, _ => plainX T n c (.Assign [.Name x px] (.Tuple [.Call (.Name f pf) es [] pc, .Call (.Name f2 pf2) es2 [] pc2] j pt) pos)
  | .ListComp (.Call (.Name f pf) es [] pc) [⟨.Name v pv, it, [], 0⟩] scope p => if T.R f = true then (if locB c x = true then match ixS x c.N with
      | some i => lcX T n c f es v pv it scope (.cons (.asg (.nm i) (.var T.t0)) .nil)
      | none => none else none)
    else plainX T n c (.Assign [.Name x px] (.ListComp (.Call (.Name f pf) es [] pc) [⟨.Name v pv, it, [], 0⟩] scope p) pos)
  | e => plainX T n c (.Assign [.Name x px] e pos)
def appX (T : TrX) (n : Nat) (c : Co) (pos : Pos) : Expr → Option XSs
  | .Call (.Attribute (.Name y py) m ap) [.ListComp (.Call (.Name f pf) es [] pc) [⟨.Name v pv, it, [], 0⟩] scope p] [] cp => if m = "append" ∧ T.R f = true ∧ visB c.sc y = true ∧ (y == ("__debug__" : Str)) = false ∧ (y == ("__classdict__" : Str)) = false ∧ (ap.endLine == cp.line) = true then match ixS y c.N with
      | some j => match lcX T n c f es v pv it scope (.cons (.app (.var j) (.var T.t0)) .nil) with
        | some r => some (.cons (isLst j) r)
        | none => none
      | none => none
    else plainX T n c (.Expr (.Call (.Attribute (.Name y py) m ap) [.ListComp (.Call (.Name f pf) es [] pc) [⟨.Name v pv, it, [], 0⟩] scope p] [] cp) pos)
  | e => plainX T n c (.Expr e pos)
mutual
def trX (T : TrX) : Nat → Co → Stmt → Option XSs
  | 0, _, _ => none
  | n + 1, c, s => match s with
    | .Raise (some (.Call (.Name xc _) [.Constant (.str _) _ _] [] _)) none _ => if glB c.sc xc = true ∧ xc = T.EX ∧ (xc == ("__debug__" : Str)) = false then some (.cons (.ret (.cst .none)) .nil) else none
    | .If t a b _ => match trE n c t, trXs T n c a, trXs T n c b with
      | some t', some a', some b' => if okE (pl T.R) t' = true then some (.cons (.ife t' a' b') .nil) else none
      | _, _, _ => none
    | .For (.Name v pv) it b [] _ => match trI n c it (.Name v pv), trTg c (.Name v pv), trXs T n c b with
      | some it', some (.nm i), some b' => if okI (pl T.R) it' = true then some (.cons (.for (.nm i) it' b') .nil) else none
      | _, _, _ => none
    | .Return (some e) _ => returnX T n c e
    | .Assign [.Name x px] e pos => assignX T n c x px pos e
    | .Assign ts e pos => plainX T n c (.Assign ts e pos)
    | .Expr e pos => appX T n c pos e
    | _ => none
def trXs (T : TrX) : Nat → Co → List Stmt → Option XSs
  | 0, _, _ => none
  | _ + 1, _, [] => some .nil
  | n + 1, c, s :: ss => match trX T n c s, trXs T n c ss with
    | some a, some b => some (appS a b)
    | _, _ => none
end
section
variable {Φ Φ' : Fns} {T : TrX} {c : Co} {k : Nat} {X : Cx} {F : Fx}
theorem argsX_ok {n : Nat} {f : Str} {es : List Expr} {as' : XEs} (h : argsX T n c f es = some as') : trEs n c es = some as' ∧ okEs (pl T.R) as' = true ∧ T.R f = true ∧ es ≠ [] ∧ glB c.sc f = true ∧ (f == ("__debug__" : Str)) = false := by
  unfold argsX at h
  split at h
  · rename_i a h1
    split at h
    · rename_i hh
      cases h
      exact ⟨h1, hh⟩
    · cases h
  · cases h
theorem plainX_ok (ok : Xok Φ Φ' T.R c k X F) {n : Nat} {s : Stmt} {s' : XSs} (h : plainX T n c s = some s') : PS X s (tX Φ' F s') := by
  unfold plainX at h
  split at h
  · rename_i a h1
    split at h
    · rename_i hh
      cases h
      exact x_plain ok h1 hh
    · cases h
  · cases h
theorem retX_ok (ok : Xok Φ Φ' T.R c k X F) {n : Nat} {e : Expr} {s' : XSs} {pos : Pos} (h : retX T n c e = some s') : PS X (.Return (some e) pos) (tX Φ' F s') := by
  unfold retX at h
  split at h
  · rename_i a h1
    split at h
    · rename_i hn
      split at h
      · rename_i hh
        cases h
        exact x_ret ok h1 hh hn
      · cases h
    · split at h
      · cases h
        exact x_retV ok h1
      · cases h
  · cases h
theorem lcX_ok {n : Nat} {f v : Str} {es : List Expr} {pv : Pos} {it : Expr} {scope : Scope} {rest r : XSs} (h : lcX T n c f es v pv it scope rest = some r) :
    ∃ i as' e', r = lcS i T.t0 T.t1 T.t2 f as' e' rest ∧ LcOk T.R c n i T.t0 T.t1 T.t2 f v pv es as' it e' scope := by
  unfold lcX at h
  split at h
  · rename_i e' i as' i' h1 h2 h3 h4
    split at h
    · rename_i hh
      obtain ⟨rfl, q1, q2, q3, q4, q5, q6, q7, q8⟩ := hh
      cases h
      obtain ⟨a1, a2, a3, a4, a5, a6⟩ := argsX_ok h3
      exact ⟨_, as', e', rfl, ⟨q1, h4, h1, h2, a1, a3, a4, a5, a6, q2, a2, q3, q4, q5, q6, q7, q8⟩⟩
    · cases h
  · cases h
theorem returnX_ok (ok : Xok Φ Φ' T.R c k X F) {n : Nat} {e : Expr} {s' : XSs} {pos : Pos} (h : returnX T n c e = some s') : PS X (.Return (some e) pos) (tX Φ' F s') := by
  unfold returnX at h
  split at h
  · split at h
    · rename_i a h1
      cases h
      obtain ⟨a1, a2, a3, a4, a5, a6⟩ := argsX_ok h1
      exact x_retC ok a1 a2 a3 a4 a5 a6
    · exact retX_ok ok h
  · split at h
    · rename_i a h1
      obtain ⟨a1, a2, a3, a4, a5, a6⟩ := argsX_ok h1
      split at h
      · rename_i e2' h2
        split at h
        · rename_i hh
          cases h
          exact x_ret2 ok a1 a2 a3 a4 a5 a6 h2 hh.1 hh.2.1 hh.2.2
        · cases h
      · cases h
    · exact retX_ok ok h
  · exact retX_ok ok h
theorem assignX_ok (ok : Xok Φ Φ' T.R c k X F) {n : Nat} {x : Str} {px pos : Pos} {e : Expr} {s' : XSs} (h : assignX T n c x px pos e = some s') : PS X (.Assign [.Name x px] e pos) (tX Φ' F s') := by
  unfold assignX at h
  split at h
  · split at h
    · rename_i a h1
      obtain ⟨a1, a2, a3, a4, a5, a6⟩ := argsX_ok h1
      split at h
      · rename_i hl
        split at h
        · rename_i i hi
          cases h
          exact x_asgC ok a1 a2 a3 a4 a5 a6 hl hi
        · cases h
      · cases h
    · exact plainX_ok ok h
  · split at h
    · rename_i a b h1 h2
      obtain ⟨a1, a2, a3, a4, a5, a6⟩ := argsX_ok h1
      obtain ⟨b1, b2, b3, b4, b5, b6⟩ := argsX_ok h2
      split at h
      · rename_i hh
        split at h
        · rename_i i hi
          cases h
          exact x_asg2 ok a1 a2 a3 a4 a5 a6 b1 b2 b3 b4 b5 b6 hh.1 hi hh.2.1 hh.2.2.1 hh.2.2.2
        · cases h
      · cases h
    · exact plainX_ok ok h
  · split at h
    · split at h
      · rename_i hl
        split at h
        · rename_i i hi
          obtain ⟨i', as', e', rfl, l⟩ := lcX_ok h
          exact x_setLc l ok hl hi
        · cases h
      · cases h
    · exact plainX_ok ok h
  · exact plainX_ok ok h
theorem appX_ok (ok : Xok Φ Φ' T.R c k X F) {n : Nat} {pos : Pos} {e : Expr} {s' : XSs} (h : appX T n c pos e = some s') : PS X (.Expr e pos) (tX Φ' F s') := by
  unfold appX at h
  split at h
  · split at h
    · rename_i hh
      obtain ⟨rfl, hR, hv, hd, hcd, hline⟩ := hh
      split at h
      · rename_i j hj
        split at h
        · rename_i r hr
          cases h
          obtain ⟨i', as', e', rfl, l⟩ := lcX_ok hr
          exact x_appLc l ok hv hj hd hcd hline
        · cases h
      · cases h
    · exact plainX_ok ok h
  · exact plainX_ok ok h
theorem soundX (ok : Xok Φ Φ' T.R c k X F) (hc : ExcC X.K X.mg T.EX F.C) : ∀ n, (∀ s s', trX T n c s = some s' → PS X s (tX Φ' F s')) ∧ ∀ ss ss', trXs T n c ss = some ss' → PSs X ss (tX Φ' F ss')
  | 0 => ⟨fun s s' h => (by simp only [trX] at h; cases h), fun s s' h => (by simp only [trXs] at h; cases h)⟩
  | n + 1 => by
    have ih := soundX ok hc n
    refine ⟨fun s s' h => ?_, fun ss ss' h => ?_⟩
    · unfold trX at h
      split at h
      · split at h
        · rename_i hh
          obtain ⟨h1, rfl, h3⟩ := hh
          cases h
          exact x_raise ok hc h1 h3
        · cases h
      · split at h
        · rename_i t' a' b' h1 h2 h3
          split at h
          · rename_i hh
            cases h
            exact x_ife ok h1 hh (ih.2 _ _ h2) (ih.2 _ _ h3)
          · cases h
        · cases h
      · split at h
        · rename_i it' i b' h1 h2 h3
          split at h
          · rename_i hh
            cases h
            exact x_for ok h1 hh h2 (ih.2 _ _ h3)
          · cases h
        · cases h
      · exact returnX_ok ok h
      · exact assignX_ok ok h
      · exact plainX_ok ok h
      · exact appX_ok ok h
      · cases h
    · cases ss with
      | nil =>
        simp only [trXs] at h
        cases h
        exact x_snil
      | cons s ss =>
        simp only [trXs] at h
        split at h
        · rename_i a b h1 h2
          cases h
          exact x_scons (ih.1 _ _ h1) (ih.2 _ _ h2)
        · cases h
end
def endX (b : XSs) : XSs := appS b (.cons .stop .nil)
theorem fn_xr {P : Program} {w : World} {K : PySem.W.Frag} {mg : Str → Option Value} {base : Heap} {x qual : Str} {st : Stmt} {f : Addr} {fd : FuncData} {N ps : List Str} {k : Nat} {Φ Φ' : Fns} {T : TrX} {C : Addr} {body : XSs} {gc : List (Str × D)}
    (F : FunD K x qual (defArgs st) (defBody st) (defScope st) [] [] f fd) (S : FnScope N ps (defScope st)) (htr : trXs T 200 ⟨N, defScope st, fun _ => true, gc⟩ (defBody st) = some body) (hc : ExcC K mg T.EX C)
    (tab : ∀ f φ, Φ f = some φ → FnH P w K mg base k f φ) (hp : ∀ f, T.R f = false → Φ' f = Φ f) (hr : ∀ f φ, T.R f = true → Φ' f = some φ → FnXR P w K mg base k f C φ) (has : ∀ f, T.R f = true → ∃ φ, Φ' f = some φ)
    (blt : ∀ x ∈ bnames, mg x = none) (hN : ps.length ≤ N.length) (hs : SeerK K) (ht : P.given.tree = none) (hk : 34 ≤ k) (hgc : GcOk gc mg := by exact GcOk.nil) :
    FnOk P w K mg base (L2.CX P w) (k + 1) f fd ps (spX C (runH Φ' N.length ps.length (endX body))) := by
  refine F.ok S (fun vs H Q E h => ?_) (fun cdv A outer s H vs Q E hr0 h => ?_)
  · obtain ⟨m, A, ws, w, A', h1, h2, h3, _⟩ := h
    unfold runH at h3
    split at h3
    · rename_i hl
      rw [h2.len, hl]
    · cases h3
  · have ok := cok_ofX (CX := L2.CX P w) (Φ := Φ) (E := E) (s := s) (H := H) (outer := outer) (f := f) (cd := cdv) (qual := qual) S hr0 tab blt hs ht hk hgc
    have xok : Xok Φ Φ' T.R ⟨N, defScope st, fun _ => true, gc⟩ k (cxOf (L2.CX P w) P w K mg base N qual (defScope st) f cdv A outer s H E) ⟨N, defScope st, C, E⟩ :=
      ⟨ok, rfl, rfl, takes_of rfl rfl rfl rfl, rfl, rfl, passes_of rfl, hp, hr, has⟩
    refine ⟨tX Φ' ⟨N, defScope st, C, E⟩ body, (soundX xok hc 200).2 _ _ htr, ?_⟩
    obtain ⟨m, A0, ws, w', A', h1, h2, h3, q⟩ := h
    unfold runH at h3
    split at h3
    rotate_left
    · cases h3
    rename_i hl
    have re := RE.start (N := N) h1 h2 (by rw [hl]; exact hN)
    unfold endX at h3
    rw [exsH_app] at h3
    cases hb : exsH Φ' body (startW N.length ws) A0 with
    | none => rw [hb] at h3; cases h3
    | some o =>
      rw [hb] at h3
      cases o with
      | nx ρ A1 =>
        simp only [exsH, exH] at h3
        cases h3
      | rt u A1 =>
        simp only [] at h3
        cases h3
        exact ⟨m, H, m, A0, _, _, h1.refl, .of re, hb, q⟩
      | bk ρ A1 => cases h3
      | ct ρ A1 => cases h3
end VI
set_option Elab.async false
set_option linter.all false
set_option maxRecDepth 100000
set_option maxHeartbeats 4000000
namespace VI
open PySem PySem.Spec PyProof.Rows L2
structure RaiT where
  g0 : XT
  e0 : XE
  g1 : XT
  e1 : XE
  c : XE
  r : XSs
  x : Str
structure TryT where
  g0 : XT
  e0 : XE
  g1 : XT
  e1 : XE
  r : XSs
  f : Str
  x : Str
  ia : Nat
  ib : Nat
  iv : Nat
section
variable {K K2 : PySem.W.Frag}
theorem ns_more {N : Addr} {x : Str} {r : Option Value} (e : PySem.W.nsIn K N x = some r) : PySem.W.nsIn (K ++ K2) N x = some r := by
  unfold PySem.W.nsIn at e ⊢
  split at e
  · rename_i ho
    simp only [look_app (K2 := K2) ho]
    exact e
  · cases e
theorem nsOk_more {N : Addr} (e : PySem.W.nsOkIn K N = true) : PySem.W.nsOkIn (K ++ K2) N = true := by
  unfold PySem.W.nsOkIn at e ⊢
  split at e
  · rename_i ho
    simp only [look_app (K2 := K2) ho]
    exact e
  · cases e
theorem tail_more {bm : List Value} : ∀ {l : List Value}, PySem.W.tailIn K bm l = true → PySem.W.tailIn (K ++ K2) bm l = true
  | [], e => by
    unfold PySem.W.tailIn at e ⊢
    exact e
  | v :: r, e => by
    unfold PySem.W.tailIn at e ⊢
    rcases Bool.or_eq_true_iff.mp e with q | q
    · rw [q]; rfl
    · rw [Bool.or_eq_true_iff]
      refine .inr ?_
      split at q
      · split at q
        · rename_i ho
          simp only [look_app (K2 := K2) ho]
          simp only [Bool.and_eq_true, beq_iff_eq] at q ⊢
          exact ⟨⟨nsOk_more q.1.1, ns_more q.1.2⟩, tail_more q.2⟩
        · cases q
      · cases q
theorem exc_more {C : Addr} {bm : List Value} {n : String} (e : PySem.W.excIn K C bm n = true) : PySem.W.excIn (K ++ K2) C bm n = true := by
  unfold PySem.W.excIn at e ⊢
  split at e
  · rename_i ho
    simp only [look_app (K2 := K2) ho]
    split at e
    · rename_i hm hs
      simp only [Bool.and_eq_true, beq_iff_eq] at e ⊢
      obtain ⟨⟨⟨⟨⟨h1, h2⟩, h3⟩, h4⟩, h5⟩, h6⟩ := e
      exact ⟨⟨⟨⟨⟨h1, h2⟩, h3⟩, tail_more h4⟩, nsOk_more h5⟩, ns_more h6⟩
    · cases e
  · cases e
theorem cls_more {C : Addr} {cd : ClassData} (e : PySem.W.clsIn K C = some cd) : PySem.W.clsIn (K ++ K2) C = some cd := by
  unfold PySem.W.clsIn at e ⊢
  split at e
  · rename_i ho
    simp only [look_app (K2 := K2) ho]
    exact e
  · cases e
theorem type_more {a : Addr} {t : Value} (e : PySem.W.typeIn K (.ref a) = some t) : PySem.W.typeIn (K ++ K2) (.ref a) = some t := by
  unfold PySem.W.typeIn at e ⊢
  simp only [] at e ⊢
  obtain ⟨o, h1, h2⟩ := Option.map_eq_some_iff.mp e
  rw [look_app (K2 := K2) h1]
  exact congrArg some h2
theorem sub_more {C : Addr} {b : Value} {r : Bool} (e : PySem.W.subIn K (.ref C) b = some r) : PySem.W.subIn (K ++ K2) (.ref C) b = some r := by
  have e : PySem.W.mroIn K C b = some r := e
  show PySem.W.mroIn (K ++ K2) C b = some r
  unfold PySem.W.mroIn at e ⊢
  obtain ⟨cd, h1, h2⟩ := Option.bind_eq_some_iff.mp e
  rw [cls_more h1]
  exact h2
theorem kit_more {A C : Addr} {r : Bool} (e : PySem.W.kitCls K (.ref A) (.ref C) = some r) : PySem.W.kitCls (K ++ K2) (.ref A) (.ref C) = some r := by
  unfold PySem.W.kitCls at e ⊢
  simp only [] at e ⊢
  split at e
  · rename_i h
    simp only [Bool.and_eq_true, beq_iff_eq] at h
    obtain ⟨h1, h2⟩ := h
    obtain ⟨cd, h3⟩ := Option.isSome_iff_exists.mp h1
    rw [cls_more h3, type_more h2]
    simp only [Option.isSome_some, BEq.rfl, Bool.and_self, if_true]
    exact sub_more e
  · cases e
theorem exm_more {A C : Addr} {r : Bool} (e : PySem.W.exmOne K (.ref A) (.ref C) = some r) : PySem.W.exmOne (K ++ K2) (.ref A) (.ref C) = some r := by
  unfold PySem.W.exmOne at e ⊢
  split at e
  · rename_i h
    rw [beq_iff_eq] at h
    rw [sub_more h]
    simp only [BEq.rfl, if_true]
    exact kit_more e
  · cases e
theorem own_more {x : Str} {v : Value} {r : Option Value} (e : PySem.W.ownIn K x v = some r) : PySem.W.ownIn (K ++ K2) x v = some r := by
  unfold PySem.W.ownIn at e ⊢
  split at e
  · exact e
  · split at e
    · rename_i ho
      simp only [look_app (K2 := K2) ho]
      exact ns_more e
    · cases e
  · exact e
theorem along_more {x : Str} : ∀ {l : List Value} {r : Option Value}, PySem.W.alongIn K x l = some r → PySem.W.alongIn (K ++ K2) x l = some r
  | [], r, e => e
  | c :: l, r, e => by
    unfold PySem.W.alongIn at e ⊢
    split at e
    · rename_i h
      rw [own_more h]
      exact e
    · rename_i h
      rw [own_more h]
      exact along_more e
    · cases e
theorem find_more {t : Value} {x : Str} {r : Option Value} (e : PySem.W.findIn K t x = some r) : PySem.W.findIn (K ++ K2) t x = some r := by
  unfold PySem.W.findIn at e ⊢
  split at e
  · exact e
  · split at e
    · rename_i ho
      simp only [look_app (K2 := K2) ho]
      exact along_more e
    · cases e
  · cases e
theorem keepv_more {a : Addr} (e : PySem.W.keepIn K (.ref a) = true) : PySem.W.keepIn (K ++ K2) (.ref a) = true := by
  unfold PySem.W.keepIn at e ⊢
  simp only [] at e ⊢
  split at e
  · rename_i ho
    simp only [look_app (K2 := K2) ho]
  · rename_i ho
    simp only [look_app (K2 := K2) ho]
    rw [beq_iff_eq] at e ⊢
    unfold PySem.W.specialIn at e ⊢
    obtain ⟨t, h1, h2⟩ := Option.bind_eq_some_iff.mp e
    rw [type_more h1]
    exact find_more h2
  · cases e
end
section
variable {P : Program} {w : World} {K : PySem.W.Frag} {mg : Str → Option Value} {base : Heap}
theorem ExcC.more {K2 : PySem.W.Frag} {x : Str} {C : Addr} (h : ExcC K mg x C) : ExcC (K ++ K2) mg x C := ⟨h.g, exc_more h.e, keepv_more h.k, sub_more h.b, type_more h.t⟩
theorem ExcC.of {x : Str} {C : Addr} (g : mg x = some (.ref C)) (e : PySem.W.excIn K C He.veBase "ValueError.__new__" = true ∧ PySem.W.keepIn K (.ref C) = true ∧ PySem.W.subIn K (.ref C) (.type "BaseException") = some true ∧ PySem.W.typeIn K (.ref C) = some (.type "type")) : ExcC K mg x C :=
  ⟨g, e.1, e.2.1, e.2.2.1, e.2.2.2⟩
theorem FnXH.mono {j k : Nat} {f : Str} {C : Addr} {φ : Fun} {ψ : List W → AH → Option AH} (F : FnXH P w K mg base j f C φ ψ) (h : j ≤ k) : FnXH P w K mg base k f C φ ψ :=
  let ⟨a, fd, ps, h1, h2, h3, h4⟩ := F.ex
  ⟨a, fd, ps, h1, h2, h3.mono h, h4⟩
theorem AllH.cons {k : Nat} {l : List (Str × Fun)} {x : Str} {φ : Fun} (V : AllH P w K mg base k l) (h : FnH P w K mg base (k + 1) x φ) : AllH P w K mg base (k + 1) ((x, φ) :: l) := by
  refine ⟨fun p hp => ?_⟩
  cases hp with
  | head => exact h
  | tail _ h => exact (V.all p h).mono (Nat.le_succ k)
end
end VI
set_option Elab.async false
set_option linter.all false
set_option maxRecDepth 100000
set_option maxHeartbeats 4000000
namespace VI
open PySem PySem.Spec PyProof.Rows L2
abbrev held (X : Cx) (a : Addr) (oe : Obj) : Cx := { X with pn := (a, oe) :: X.pn }
theorem held_ok {X : Cx} (o : X.Ok) (a : Addr) (oe : Obj) : (held X a oe).Ok where
  mod := o.mod
  kind := o.kind
  glob := o.glob
  blt := o.blt
  above := o.above
  inj := o.inj
  has := o.has
  cab := o.cab
  hd := o.hd
  frames := o.frames
  stk := o.stk
  exf := o.exf
  bs := o.bs
  bsz := o.bsz
  noex := o.noex
  exfs := o.exfs
  funs := o.funs
  frf := o.frf
section
variable {X : Cx} {pins : List (Addr × Obj)} {σ : L2.St} {H : Hp} {s : Shared} {a : Addr} {oe : Obj}
theorem inv_held {l : List (Addr × Obj)} (J : Inv (X.suite a ((a, oe) :: (X.pn ++ pins))) l σ H s) (o : X.Ok) : Inv (held X a oe) pins σ H s where
  ok := held_ok o a oe
  os := J.os
  bare := J.bare
  base := J.base
  loc := J.loc
  cell := J.cell
  free := J.free
  freeC := J.freeC
  pin := fun p hp => J.pin p (List.mem_append_left l hp)
  hok := J.hok
  len := J.len
theorem inv_let (J : Inv (held X a oe) pins σ H s) (o : X.Ok) : Inv X pins σ H s where
  ok := o
  os := J.os
  bare := J.bare
  base := J.base
  loc := J.loc
  cell := J.cell
  free := J.free
  freeC := J.freeC
  pin := fun p hp => J.pin p (List.mem_cons_of_mem (a, oe) hp)
  hok := J.hok
  len := J.len
theorem sp_let {D : Ends} {f : Flow} (h : SP (held X a oe) pins D f s) (o : X.Ok) : SP X pins D f s := by
  cases f with
  | ret u =>
    obtain ⟨v, σ', H', J, r, q⟩ := h
    exact ⟨v, σ', H', inv_let J o, r, q⟩
  | _ =>
    obtain ⟨σ', H', J, q⟩ := h
    exact ⟨σ', H', inv_let J o, q⟩
end
def noEnds : Ends := ⟨fun _ _ => False, fun _ _ => False, fun _ _ => False, fun _ _ => False⟩
def wCaught (K : PySem.W.Frag) (c : Value) (i : Nat) (ts tp : Addr → Value → Option Addr → TS) (D : Ends) : WX := fun cls d σ H =>
  PySem.W.exmOne K cls c = some true ∧ ∀ a, H a = none → ts a cls d { noEnds with nx := fun σ' H' => tp a cls d D (σ'.set i none) H' } (σ.set i (some (.ref a))) H
end VI
namespace VI
open PySem PySem.Spec PyProof.Rows L2
section
variable {X : Cx} {a C : Addr} {oe : Obj}
theorem held_inst {pins : List (Addr × Obj)} {σ : L2.St} {H : Hp} {s : Shared} (I : Inv (held X a oe) pins σ H s) (hz : Zc (.ref C) none oe) (hf : ∃ vs, oe.data = .fields vs) : PySem.W.InstAt s.heap a oe C none := by
  obtain ⟨c, d, t, sl⟩ := oe
  obtain ⟨vs, hf⟩ := hf
  obtain ⟨z1, z2⟩ := hz
  dsimp only at z1 z2 hf
  subst z1 z2 hf
  exact ⟨(I.pin _ (List.mem_append_left _ List.mem_cons_self)).1, rfl, rfl, trivial⟩
theorem call_heldE (E : L2.ExcC X.K C) (hz : Zc (.ref C) none oe) (hf : ∃ vs, oe.data = .fields vs) : CallR (held X a oe) (.builtin "isinstance") (rIsE X.K C a) := fun pins s σ H xs us Q I r h => by
  obtain ⟨c, cv, b, rfl, hcv, e, q⟩ := h
  obtain ⟨u1, u2, rfl, r1, r2⟩ := vals2 r
  cases (show u1 = Value.ref a from r1)
  cases hcv _ r2
  exact PySem.W.kia_one (PySem.W.handS_kitx_exc E.hg E.hk E.hs E.hd E.ha E.hn E.ht E.hm) I.kIn (held_inst I hz hf) e (fun z => nomatch z) fun tk => ⟨.bl b, H, I.tok tk, rfl, q⟩
def rIsET (K : PySem.W.Frag) (C a : Addr) : List V → Hp → VK → Prop := fun xs H Q => ∃ (tp : Addr) (cs : List V) (us : List Value) (b : Bool), xs = [.ref a, .ref tp] ∧ H tp = some (.tup cs) ∧ Paired ClsV cs us ∧ PySem.W.kitAny K (.ref C) us = some b ∧ Q (.bl b) H
theorem call_heldT (E : L2.ExcC X.K C) (hz : Zc (.ref C) none oe) (hf : ∃ vs, oe.data = .fields vs) : CallR (held X a oe) (.builtin "isinstance") (rIsET X.K C a) := fun pins s σ H xs us Q I r h => by
  obtain ⟨tp, cs, ws, b, rfl, hT, k, e, q⟩ := h
  obtain ⟨u1, u2, rfl, r1, r2⟩ := vals2 r
  cases (show u1 = Value.ref a from r1)
  cases (show u2 = Value.ref tp from r2)
  obtain ⟨_, its, rv, ⟨oc, od, dt, sl⟩, at1, c1, n, c2⟩ := (show ObjOk X.prog X.w H s.heap tp (.tup cs) from I.hok tp _ hT)
  cases ClsV.all k rv
  dsimp only at c1 c2
  subst c1 c2
  exact PySem.W.kia_tup (PySem.W.handS_kitx_exc E.hg E.hk E.hs E.hd E.ha E.hn E.ht E.hm) I.kIn (held_inst I hz hf) at1 e (fun z => nomatch z) fun tk => ⟨.bl b, H, I.tok tk, rfl, q⟩
end
theorem pss_when {X : Cx} {b : List Stmt} {p : Prop} {t : TS} (h : p → PSs X b t) : PSs X b (fun D σ H => p ∧ t D σ H) := ⟨fun pins s σ H D I ⟨hp, ht⟩ => (h hp).run pins s σ H D I ht⟩
end VI
set_option Elab.async false
set_option linter.all false
set_option maxRecDepth 100000
set_option maxHeartbeats 4000000
namespace VI
open PySem PySem.Spec PyProof.Rows L2
structure RefT where
  f : Str
  m : Str
  x1 : Str
  x2 : Str
  x3 : Str
  x4 : Str
structure ErrC (K : PySem.W.Frag) (C M C1 C2 C3 C4 : Addr) : Prop where
  c : L2.ExcC K C
  m : PySem.W.exmOne K (.ref C) (.ref M) = some true
  n : PySem.W.kitAny K (.ref C) [.ref C1, .ref C2, .ref C3] = some false
  o : PySem.W.kitOne K (.ref C) (.ref C4) = some true
  v : PySem.W.kitOne K (.ref C) (.type "ValueError") = some true
def errB (c m x1 x2 x3 x4 : Str) (K : PySem.W.Frag) : Bool :=
  (He.eqO (PySem.W.findIn K (.ref (He.ga K c)) "__getattribute__") (some (some (.builtin "BaseException.__getattribute__"))) && He.eqO (PySem.W.findIn K (.ref (He.ga K c)) "__getattr__") (some none)
    && decide (PySem.W.subIn K (.ref (He.ga K c)) (.type "BaseException") = some true) && PySem.W.hasDictIn K (He.ga K c) && He.eqO (PySem.W.findIn K (.ref (He.ga K c)) "__class__") (some (some (.builtin "object.__class__")))
    && He.eqO (PySem.W.specialIn K (.builtin "object.__class__") "__get__") (some (some (.builtin "getset_descriptor.__get__"))) && decide (PySem.W.takesIn K (.builtin "object.__class__") = some true) && decide (PySem.W.mroIn K (He.ga K c) (.type "object") = some true))
  && (decide (PySem.W.exmOne K (.ref (He.ga K c)) (.ref (He.ga K m)) = some true) && decide (PySem.W.kitAny K (.ref (He.ga K c)) [.ref (He.ga K x1), .ref (He.ga K x2), .ref (He.ga K x3)] = some false)
    && decide (PySem.W.kitOne K (.ref (He.ga K c)) (.ref (He.ga K x4)) = some true) && decide (PySem.W.kitOne K (.ref (He.ga K c)) (.type "ValueError") = some true))
theorem errB_ok {c m x1 x2 x3 x4 : Str} {K : PySem.W.Frag} (h : errB c m x1 x2 x3 x4 K = true) : ErrC K (He.ga K c) (He.ga K m) (He.ga K x1) (He.ga K x2) (He.ga K x3) (He.ga K x4) := by
  unfold errB at h
  simp only [Bool.and_eq_true, decide_eq_true_eq] at h
  obtain ⟨⟨⟨⟨⟨⟨⟨⟨a1, a2⟩, a3⟩, a4⟩, a5⟩, a6⟩, a7⟩, a8⟩, ⟨⟨b1, b2⟩, b3⟩, b4⟩ := h
  exact ⟨⟨He.eqO_ok a1, He.eqO_ok a2, a3, a4, He.eqO_ok a5, He.eqO_ok a6, a7, a8⟩, b1, b2, b3, b4⟩
section
variable {K K2 : PySem.W.Frag}
theorem typeb_more {n : String} {t : Value} (e : PySem.W.typeIn K (.builtin n) = some t) : PySem.W.typeIn (K ++ K2) (.builtin n) = some t := e
theorem specb_more {n : String} {x : Str} {r : Option Value} (e : PySem.W.specialIn K (.builtin n) x = some r) : PySem.W.specialIn (K ++ K2) (.builtin n) x = some r := by
  unfold PySem.W.specialIn at e ⊢
  obtain ⟨t, h1, h2⟩ := Option.bind_eq_some_iff.mp e
  rw [typeb_more h1]
  exact find_more h2
theorem takesb_more {n : String} {r : Bool} (e : PySem.W.takesIn K (.builtin n) = some r) : PySem.W.takesIn (K ++ K2) (.builtin n) = some r := by
  unfold PySem.W.takesIn at e ⊢
  split at e
  · rename_i h
    rw [specb_more h]
    exact e
  · rename_i h
    obtain ⟨y, h1, h2⟩ := Option.map_eq_some_iff.mp e
    rw [specb_more h, specb_more h1]
    exact congrArg some h2
  · cases e
theorem hasDict_more {C : Addr} (e : PySem.W.hasDictIn K C = true) : PySem.W.hasDictIn (K ++ K2) C = true := by
  unfold PySem.W.hasDictIn at e ⊢
  cases h : PySem.W.clsIn K C with
  | none =>
    rw [h] at e
    cases e
  | some cd =>
    rw [h] at e
    rw [cls_more h]
    exact e
theorem kitOne_more {A : Addr} {c : Value} {r : Bool} (e : PySem.W.kitOne K (.ref A) c = some r) : PySem.W.kitOne (K ++ K2) (.ref A) c = some r := by
  unfold PySem.W.kitOne at e ⊢
  split at e
  · rename_i h
    rw [if_pos h]
    exact e
  · rename_i h
    rw [if_neg h]
    cases c with
    | ref C => exact kit_more e
    | type T =>
      unfold PySem.W.kitCls at e ⊢
      simp only [] at e ⊢
      split at e
      · rename_i h2
        rw [if_pos h2]
        exact sub_more e
      · cases e
    | _ => cases e
theorem kitAny_more {A : Addr} : ∀ {cs : List Value} {r : Bool}, PySem.W.kitAny K (.ref A) cs = some r → PySem.W.kitAny (K ++ K2) (.ref A) cs = some r
  | [], r, e => e
  | c :: cs, r, e => by
    unfold PySem.W.kitAny at e ⊢
    split at e
    · rename_i h
      rw [kitOne_more h]
      exact e
    · rename_i h
      rw [kitOne_more h]
      exact kitAny_more e
    · cases e
theorem ErrC.more {C M C1 C2 C3 C4 : Addr} (h : ErrC K C M C1 C2 C3 C4) : ErrC (K ++ K2) C M C1 C2 C3 C4 :=
  ⟨⟨find_more h.c.hg, find_more h.c.hk, sub_more h.c.hs, hasDict_more h.c.hd, find_more h.c.ha, specb_more h.c.hn, takesb_more h.c.ht, sub_more h.c.hm⟩, exm_more h.m, kitAny_more h.n, kitOne_more h.o, kitOne_more h.v⟩
end
end VI
set_option Elab.async false
set_option linter.all false
set_option maxRecDepth 100000
set_option exponentiation.threshold 2000
set_option maxHeartbeats 4000000
namespace VI.K91
open PySem PySem.Spec PyProof.Rows L2
def top (i : Nat) : Stmt := PySem.Challenge.pw_steermill_k91_tables_as_texts.main.body.getD i (.Pass ⟨0, 0, 0, 0⟩)
abbrev s7 : Stmt := top 7
def d7 : He.DefD := ⟨("divisor", none), "divisor", "divisor", defArgs s7, defBody s7, defScope s7, [], []⟩
abbrev s8 : Stmt := top 8
def d8 : He.DefD := ⟨("lowest", none), "lowest", "lowest", defArgs s8, defBody s8, defScope s8, [], []⟩
abbrev s13 : Stmt := top 13
def d13 : He.DefD := ⟨("read_figures", none), "read_figures", "read_figures", defArgs s13, defBody s13, defScope s13, [], []⟩
abbrev s14 : Stmt := top 14
def d14 : He.DefD := ⟨("read_whole", none), "read_whole", "read_whole", defArgs s14, defBody s14, defScope s14, [], []⟩
abbrev s15 : Stmt := top 15
def d15 : He.DefD := ⟨("read_fraction", none), "read_fraction", "read_fraction", defArgs s15, defBody s15, defScope s15, [], []⟩
abbrev s16 : Stmt := top 16
def d16 : He.DefD := ⟨("read_number", none), "read_number", "read_number", defArgs s16, defBody s16, defScope s16, [], []⟩
abbrev s17 : Stmt := top 17
def d17 : He.DefD := ⟨("read_table", none), "read_table", "read_table", defArgs s17, defBody s17, defScope s17, [], []⟩
abbrev s18 : Stmt := top 18
def d18 : He.DefD := ⟨("show_number", none), "show_number", "show_number", defArgs s18, defBody s18, defScope s18, [], []⟩
abbrev s19 : Stmt := top 19
def d19 : He.DefD := ⟨("show_table", none), "show_table", "show_table", defArgs s19, defBody s19, defScope s19, [], []⟩
abbrev s21 : Stmt := top 21
def d21 : He.DefD := ⟨("_law_mix", none), "_law_mix", "_law_mix", defArgs s21, defBody s21, defScope s21, [], []⟩
abbrev s22 : Stmt := top 22
def d22 : He.DefD := ⟨("_law_divisor", none), "_law_divisor", "_law_divisor", defArgs s22, defBody s22, defScope s22, [], []⟩
abbrev s23 : Stmt := top 23
def d23 : He.DefD := ⟨("_law_is_prime", none), "_law_is_prime", "_law_is_prime", defArgs s23, defBody s23, defScope s23, [], []⟩
abbrev s24 : Stmt := top 24
def d24 : He.DefD := ⟨("_law_kind", none), "_law_kind", "_law_kind", defArgs s24, defBody s24, defScope s24, [], []⟩
abbrev s25 : Stmt := top 25
def d25 : He.DefD := ⟨("_law_number", none), "_law_number", "_law_number", defArgs s25, defBody s25, defScope s25, [], []⟩
abbrev s26 : Stmt := top 26
def d26 : He.DefD := ⟨("_law_table", none), "_law_table", "_law_table", defArgs s26, defBody s26, defScope s26, [], []⟩
abbrev s27 : Stmt := top 27
def d27 : He.DefD := ⟨("_law_text", none), "_law_text", "_law_text", defArgs s27, defBody s27, defScope s27, [], []⟩
abbrev s28 : Stmt := top 28
def d28 : He.DefD := ⟨("_law_odd", none), "_law_odd", "_law_odd", defArgs s28, defBody s28, defScope s28, [], []⟩
abbrev s29 : Stmt := top 29
def d29 : He.DefD := ⟨("_law_spoiled", none), "_law_spoiled", "_law_spoiled", defArgs s29, defBody s29, defScope s29, [], []⟩
abbrev s30 : Stmt := top 30
def d30 : He.DefD := ⟨("_law_figures", none), "_law_figures", "_law_figures", defArgs s30, defBody s30, defScope s30, [], []⟩
abbrev s31 : Stmt := top 31
def d31 : He.DefD := ⟨("_law_told_number", none), "_law_told_number", "_law_told_number", defArgs s31, defBody s31, defScope s31, [], []⟩
abbrev s32 : Stmt := top 32
def d32 : He.DefD := ⟨("_law_told", none), "_law_told", "_law_told", defArgs s32, defBody s32, defScope s32, [], []⟩
abbrev s33 : Stmt := top 33
def d33 : He.DefD := ⟨("_law_is", none), "_law_is", "_law_is", defArgs s33, defBody s33, defScope s33, [], []⟩
abbrev s34 : Stmt := top 34
def d34 : He.DefD := ⟨("_law_right", none), "_law_right", "_law_right", defArgs s34, defBody s34, defScope s34, [], []⟩
abbrev s35 : Stmt := top 35
def d35 : He.DefD := ⟨("law", none), "law", "law", defArgs s35, defBody s35, defScope s35, [], []⟩
def fn : List He.DefD := [d7, d8, d13, d14, d15, d16, d17, d18, d19, d21, d22, d23, d24, d25, d26, d27, d28, d29, d30, d31, d32, d33, d34, d35]
def fa : List He.Fa := [.glo "divisor", .glo "lowest", .glo "read_figures", .glo "read_whole", .glo "read_fraction", .glo "read_number", .glo "read_table", .glo "show_number", .glo "show_table", .glo "_law_mix", .glo "_law_divisor", .glo "_law_is_prime", .glo "_law_kind", .glo "_law_number", .glo "_law_table", .glo "_law_text", .glo "_law_odd", .glo "_law_spoiled", .glo "_law_figures", .glo "_law_told_number", .glo "_law_told", .glo "_law_is", .glo "_law_right", .glo "law", .free "len", .free "abs", .free "int", .free "max", .free "list", .free "tuple", .free "sum", .free "all", .free "any", .free "sorted", .free "isinstance", .free "bool", .free "str", .free "range", .free "zip", .free "enumerate", .glo "NoText", .exc "NoText", .exm "NoText" "NoText" true, .glo "MillError", .glo "NoBack", .glo "NoName", .glo "NoRow", .free "ValueError", .str "__name__" "law_steermill_k91_tables_as_texts", .str "FIGURES" "0123456789", .int "LONGEST" 20, .int "MOST" 12]
def exB : PySem.W.Frag → Bool := errB "NoText" "MillError" "NoBack" "NoName" "NoRow" "NoText"
abbrev R : PySem.W.OpenRow := PySem.W.OpenLaw.row PySem.Challenge.rw_steermill_k91_tables_as_texts
abbrev hk : PySem.W.Hook := He.hookX 4 fa fn [] [] exB
def ob (s : PySem.W.SharedT) : He.AlX := He.obsX 4 fa fn [] [] exB (HandSHeadRun.getT s)
theorem ob_eq (s : PySem.W.SharedT) : ob s = hk.obs s.abs := He.obsX_eq (HandSHeadRun.getT_eq s)
theorem run (w : World) : HandSHeadRun.RunEq R (PySem.W.view R.prog [35]) hk ob 5840 (("divisor" : PySem.Str) :: ("lowest" : PySem.Str) :: ("read_figures" : PySem.Str) :: ("read_whole" : PySem.Str) :: ("read_fraction" : PySem.Str) :: ("read_number" : PySem.Str) :: ("read_table" : PySem.Str) :: ("show_number" : PySem.Str) :: ("show_table" : PySem.Str) :: ("_law_mix" : PySem.Str) :: ("_law_divisor" : PySem.Str) :: ("_law_is_prime" : PySem.Str) :: ("_law_kind" : PySem.Str) :: ("_law_number" : PySem.Str) :: ("_law_table" : PySem.Str) :: ("_law_text" : PySem.Str) :: ("_law_odd" : PySem.Str) :: ("_law_spoiled" : PySem.Str) :: ("_law_figures" : PySem.Str) :: ("_law_told_number" : PySem.Str) :: ("_law_told" : PySem.Str) :: ("_law_is" : PySem.Str) :: ("_law_right" : PySem.Str) :: ("MillError" : PySem.Str) :: ("NoBack" : PySem.Str) :: ("NoText" : PySem.Str) :: ("NoName" : PySem.Str) :: ("NoRow" : PySem.Str) :: ("FIGURES" : PySem.Str) :: ("LONGEST" : PySem.Str) :: ("MOST" : PySem.Str) :: []) w := by
  intro os
  kernel_rfl
end VI.K91
set_option Elab.async false
set_option linter.all false
set_option maxRecDepth 100000
set_option maxHeartbeats 4000000
namespace VI
open PySem PySem.Spec PyProof.Rows L2
theorem pss_caught2 {X : Cx} {x n : Str} {c : Value} {i : Nat} {body suite post : List Stmt} {b0 : Stmt} {np pos pos' : Pos} {tb : WX → TS} {ts tp : Addr → Value → Option Addr → TS} {tn : TS}
    (hst : X.stack = X.env :: X.outer) (hfr : X.env.frame = some X.env.locals) (hN : X.N.Nodup) (hi : X.N[i]? = some n) (hk : X.env.kindOf n = some .local) (hg : Gl X x) (hdb : (x == ("__debug__" : Str)) = false) (hm : X.mg x = some c)
    (hb : ∀ (W : WX) (pn : List (Addr × Obj)) (xe : Value → Shared → Prop), Takes (X.tr pn xe) W → PSs (X.tr pn xe) body (tb W))
    (hsu : ∀ (a : Addr) (oe : Obj) (cls : Value) (d : Option Addr) (pn : List (Addr × Obj)), PSs (X.suite a ((a, oe) :: pn)) (b0 :: suite) (ts a cls d))
    (hp : ∀ (a : Addr) (oe : Obj) (cls : Value) (d : Option Addr), Zc cls d oe → (∃ vs, oe.data = .fields vs) → PSs (held X a oe) post (tp a cls d)) (hn : PSs X post tn) :
    PSs X (.Try body [.ExceptHandler (some (.Name x np)) (some n) (b0 :: suite) pos'] [] [] pos :: post) (fun D σ H => tb (wCaught X.K c i ts tp D) { noEnds with nx := fun σ' H' => tn D σ' H' } σ H) := by
  refine ⟨fun pins s σ H D I h => wpAny_execs_cons (wpAny_Try_except ?_)⟩
  have o := I.ok
  have frames : X.A.frames = some (X.env :: X.outer) := o.frames.trans (congrArg some hst)
  refine wpAny_mono ((hb (wCaught X.K c i ts tp D) (X.pn ++ pins) _ ?_).run [] s σ H _ (I.toTry _) h) (fun f s1 q => ?_) (fun _ _ q => q)
  · rintro _ s1 ⟨a, B, s2, l, σ1, H1, cls, d, rfl, J0, nb, up, sky, na, os, ag, yes, go⟩
    have J1 : Inv X pins σ1 H1 s2 := J0.ofTry o
    refine Sky.land Zc.steady frames hfr (hst ▸ sky) fun h3 fly up3 => ?_
    obtain ⟨oe3, vs3, at3, z3, d3⟩ := fly.there
    have apart : a ∉ frs (X.env :: X.outer) := fun m => by
      obtain ⟨_, o2, e2, nf⟩ := fly.2.2.1.mem m
      rw [at3] at e2
      cases e2
      exact nf vs3 d3
    have aL : a ≠ X.env.locals := fun z => apart (List.mem_filterMap.mpr ⟨X.env, List.mem_cons_self, by rw [hfr, z]⟩)
    have aF : a ∉ X.fs := fun m => by
      obtain ⟨e2, m2, q2⟩ := List.mem_filterMap.mp m
      exact apart (List.mem_filterMap.mpr ⟨e2, List.mem_cons_of_mem _ m2, q2⟩)
    have J3 : Inv X pins σ1 H1 { s1 with heap := h3 } := J1.landed nb fly.1 (up.trans up3) os ag
    refine wpAny_handleBy_cons (codeAny_handlers_test ?_) (fun z => nomatch z)
    have looks : PySem.W.Looks (model X.prog X.w) h3 (typeOf (.ref a)) cls := fun _ _ _ _ k q => wpAny_typeOf_ref (k _ _ at3) (z3.1.symm ▸ q)
    refine ld_glob (X := X.suite a ((a, oe3) :: (X.pn ++ pins))) (J3.suite at3 d3 na aL aF) hg hm ?_ hdb
    refine (PySem.W.exm_one J3.kIn looks yes).here ?_
    refine codeAny_handlers_suite_as (HandSPX.lands_againZ fly fun h4 fly4 up4 => ?_)
    obtain ⟨oe4, vs4, at4, z4, d4⟩ := fly4.there
    have J4 : Inv X pins σ1 H1 { s1 with heap := h4 } := J1.landed nb fly4.1 ((up.trans up3).trans up4) os ag
    refine store_ok (X := X.suite a ((a, oe4) :: (X.pn ++ pins))) (J4.suite at4 d4 na aL aF) hN hi (.inl hk) (v := .ref a) rfl (fun s5 J5 => ?_) (.inr hk)
    refine wpAny_mono ((hsu a oe4 cls d (X.pn ++ pins)).run [] s5 _ H1 _ J5 (go a na)) (fun f s6 q6 => ?_) (fun _ _ z => z.elim)
    cases f with
    | next =>
      obtain ⟨σ6, H6, J6, q6⟩ := q6
      refine gone_ok (X := held X a oe4) (inv_held J6 o) hN hi hk fun s7 J7 => ?_
      exact wpAny_mono ((hp a oe4 cls d z4 ⟨_, d4⟩).run pins s7 _ H6 D J7 q6) (fun _ _ z => sp_let z o) (fun _ _ z => z)
    | ret u =>
      obtain ⟨_, _, _, _, _, q6⟩ := q6
      exact q6.elim
    | brk =>
      obtain ⟨_, _, _, q6⟩ := q6
      exact q6.elim
    | cont =>
      obtain ⟨_, _, _, q6⟩ := q6
      exact q6.elim
  · cases f with
    | ret u =>
      obtain ⟨_, _, _, _, _, q⟩ := q
      exact q.elim
    | next =>
      obtain ⟨σ', H', J, q⟩ := q
      exact wpAny_execs_nil (hn.run pins s1 σ' H' D (J.ofTry o) q)
    | brk =>
      obtain ⟨_, _, _, q⟩ := q
      exact q.elim
    | cont =>
      obtain ⟨_, _, _, q⟩ := q
      exact q.elim
def rightS (p0 p1 p2 : XS) (f : Str) (b1 : XSs) : XSs :=
  .cons p0 (.cons p1 (.cons p2 (.cons (.asg (.nm 4) (.call f (.cons (.var 0) (.cons (.var 1) .nil)))) (.cons (.ife (.cmp .Is (.var 4) (.cst .none))
    (.cons (.ife (.cmp .IsNot (.var 2) (.cst .none)) (.cons .stop .nil) .nil) (.cons (.ret (.cst (.bool true))) .nil))
    (.cons (.ife (.cmp .IsNot (.var 2) (.cst .none)) b1 .nil) (.cons .stop .nil))) .nil))))
theorem hx_cons {Φ : Fns} {s : XS} {r : XSs} {ρ : HEnv} {A : AH} {o : OutH} (h : exsH Φ (.cons s r) ρ A = some o) : ∃ o1, exH Φ s ρ A = some o1 ∧ ((∃ ρ' A', o1 = .nx ρ' A' ∧ exsH Φ r ρ' A' = some o) ∨ ((∀ ρ' A', o1 ≠ .nx ρ' A') ∧ o = o1)) := by
  rw [exsH] at h
  cases h1 : exH Φ s ρ A with
  | none => rw [h1] at h; cases h
  | some o1 =>
    rw [h1] at h
    refine ⟨o1, rfl, ?_⟩
    cases o1 with
    | nx ρ' A' => exact .inl ⟨ρ', A', rfl, h⟩
    | _ =>
      cases h
      exact .inr ⟨(fun _ _ z => nomatch z), rfl⟩
def okB (p : Str → Bool) : XSs → Bool
  | .cons (.ret e) .nil => okE p e
  | _ => false
theorem hx_okS {Φ Φ' : Fns} {p : Str → Bool} (h : ∀ f, p f = true → Φ' f = Φ f) {s : XS} (k : okS p s = true) {r : XSs} {ρ : HEnv} {A : AH} {o : OutH} (e : exsH Φ' (.cons s r) ρ A = some o) : ∃ ρ' A', exH Φ s ρ A = some (.nx ρ' A') ∧ exsH Φ' r ρ' A' = some o := by
  obtain ⟨e1, e2⟩ := exH_ok h k ρ A
  obtain ⟨o1, h1, h2⟩ := hx_cons e
  rw [e1] at h1
  obtain ⟨ρ', A', rfl⟩ := e2 _ h1
  rcases h2 with ⟨ρ2, A2, q, h2⟩ | ⟨n, _⟩
  · cases q
    exact ⟨ρ', A', h1, h2⟩
  · exact (n _ _ rfl).elim
theorem hx_is {Φ : Fns} {i : Nat} {a b r : XSs} {ρ : HEnv} {A : AH} {o : OutH} (e : exsH Φ (.cons (.ife (.cmp .Is (.var i) (.cst .none)) a b) r) ρ A = some o) : ∃ w, ρ[i]? = some (some w) ∧ ((w = .non ∧ exsH Φ (appS a r) ρ A = some o) ∨ (w ≠ .non ∧ exsH Φ (appS b r) ρ A = some o)) := by
  rw [exsH_app, exsH_app]
  simp only [exsH, exH, evH] at e
  cases h1 : ρ[i]? with
  | none => rw [h1] at e; cases e
  | some w =>
    cases w with
    | none => rw [h1] at e; cases e
    | some w =>
      refine ⟨w, rfl, ?_⟩
      rw [h1] at e
      cases w with
      | non => exact .inl ⟨rfl, e⟩
      | _ => exact .inr ⟨(fun z => nomatch z), e⟩
theorem hx_isn {Φ : Fns} {i : Nat} {a b r : XSs} {ρ : HEnv} {A : AH} {o : OutH} (e : exsH Φ (.cons (.ife (.cmp .IsNot (.var i) (.cst .none)) a b) r) ρ A = some o) : ∃ w, ρ[i]? = some (some w) ∧ ((w = .non ∧ exsH Φ (appS b r) ρ A = some o) ∨ (w ≠ .non ∧ exsH Φ (appS a r) ρ A = some o)) := by
  rw [exsH_app, exsH_app]
  simp only [exsH, exH, evH] at e
  cases h1 : ρ[i]? with
  | none => rw [h1] at e; cases e
  | some w =>
    cases w with
    | none => rw [h1] at e; cases e
    | some w =>
      refine ⟨w, rfl, ?_⟩
      rw [h1] at e
      cases w with
      | non => exact .inl ⟨rfl, e⟩
      | _ => exact .inr ⟨(fun z => nomatch z), e⟩
def notNon : W → Bool
  | .non => false
  | _ => true
theorem ev_isn {Φ : Fns} {i : Nat} {ρ : HEnv} {A : AH} {w : W} (h : ρ[i]? = some (some w)) : evH Φ (.cmp .IsNot (.var i) (.cst .none)) ρ A = some (.bl (notNon w), A) := by
  simp only [evH, h, cstW, Option.map_some, cmpW]
  cases w <;> rfl
theorem setAllW_len0 : ∀ (js : List Nat) (ds : List W) (ρ ρ' : HEnv), setAllW ρ js ds = some ρ' → ρ'.length = ρ.length
  | [], [], ρ, ρ', e => by
    rw [setAllW] at e
    cases e
    rfl
  | [], _ :: _, ρ, ρ', e => by
    rw [setAllW] at e
    · cases e
    all_goals simp
  | _ :: _, [], ρ, ρ', e => by
    rw [setAllW] at e
    · cases e
    all_goals simp
  | j :: js, d :: ds, ρ, ρ', e => by
    rw [setAllW] at e
    split at e
    · rw [setAllW_len0 js ds _ _ e, List.length_set]
    · cases e
theorem stop_none {Φ : Fns} {r : XSs} {ρ : HEnv} {A : AH} : exsH Φ (.cons .stop r) ρ A = none := by
  rw [exsH, exH]
theorem RE.drop {m : List Addr} {A : AH} {ρ : HEnv} {σ : L2.St} {H : Hp} (re : RE m A ρ σ H) (i : Nat) (o : Option V) : RE m A (ρ.set i none) (σ.set i o) H := by
  refine ⟨re.hr, by rw [List.length_set, List.length_set]; exact re.len, fun j u q => ?_⟩
  rw [List.getElem?_set] at q
  split at q
  · split at q <;> cases q
  · rename_i e
    obtain ⟨v', a, b⟩ := re.get j u q
    exact ⟨v', by rw [List.getElem?_set_ne e]; exact a, b⟩
def tBeh3 (K : PySem.W.Frag) (C C1 C2 C3 C4 a : Addr) : TS :=
  tSeq (tIfS (tB (tCB (rIsET K C a) (tCons (tVar 3) (tCons (tTup (tCons (tC (.ref C1)) (tCons (tC (.ref C2)) (tCons (tC (.ref C3)) tNil)))) tNil)))) (tSeq (tRet (tC (.bl false))) tNext) tNext)
    (tSeq (tRet (tAndV (tCB (rIsE K C a) (tCons (tVar 3) (tCons (tC (.ref C4)) tNil))) (tCB (rIsE K C a) (tCons (tVar 3) (tCons (tC (.ty "ValueError")) tNil))))) tNext)
def tNo : TS := fun _ _ _ => False
theorem pss_no {X : Cx} {ss : List Stmt} : PSs X ss tNo := ⟨fun _ _ _ _ _ _ q => q.elim⟩
theorem Cok.held {X : Cx} {Φ : Fns} {c : Co} {k : Nat} (ok : Cok Φ c k X) (a : Addr) (oe : Obj) : Cok Φ c k (held X a oe) :=
  ⟨ok.hN, ok.hsc, ok.hfn, ok.calm, ok.nd, ok.kind, ok.room, ok.tab, ok.blt, ok.xe, ⟨ok.div.seer, ok.div.tree, ok.div.stk, ok.div.deep⟩, ok.gc⟩
theorem fn_right {P : Program} {w : World} {K : PySem.W.Frag} {mg : Str → Option Value} {base : Heap} {x qual : Str} {st : Stmt} {f : Addr} {fd : FuncData} {N ps : List Str} {k : Nat} {xf xa xb xe xv xn xm x1 x2 x3 x4 : Str} {C M C1 C2 C3 C4 : Addr} {φ : Fun} {Φ Φ' : Fns} {R : Str → Bool}
    {s0 s1 s2 : Stmt} {t1 : Expr} {bb : List Stmt} {y0 y1 y2 : XS} {b1 : XSs}
    {j2 j3 : Nat} {p1 p4 p5 p6 p7 p8 p9 p10 p11 p12 p13 p14 p15 p16 p17 p18 p19 p20 p21 p22 p23 p24 p25 p26 p27 p28 p29 p30 p31 p32 p33 p34 p35 : Pos}
    (F : FunD K x qual (defArgs st) (defBody st) (defScope st) [] [] f fd) (S : FnScope N ps (defScope st))
    (hb : defBody st = [s0, s1, s2,
      .Try [.Assign [.Name xv p1] (.Call (.Name xf p4) [.Name xa p5, .Name xb p6] [] p7) p8] [.ExceptHandler (some (.Name xm p9)) (some xn) [.Assign [.Name xe p10] (.Name xn p11) p12] p13] [] [] p14,
      .If t1 bb [] p35,
      .If (.Call (.Name "isinstance" p15) [.Name xe p16, .Tuple [.Name x1 p17, .Name x2 p18, .Name x3 p19] j2 p20] [] p21) [.Return (some (.Constant (.bool false) j3 p22)) p23] [] p24,
      .Return (some (.BoolOp .And [.Call (.Name "isinstance" p25) [.Name xe p26, .Name x4 p27] [] p28, .Call (.Name "isinstance" p29) [.Name xe p30, .Name "ValueError" p31] [] p32] p33)) p34])
    (r0 : trS 200 ⟨N, defScope st, fun _ => true, []⟩ s0 = some y0) (r1 : trS 200 ⟨N, defScope st, fun _ => true, []⟩ s1 = some y1) (r2 : trS 200 ⟨N, defScope st, fun _ => true, []⟩ s2 = some y2) (rt : trE 200 ⟨N, defScope st, fun _ => true, []⟩ t1 = some (.cmp .IsNot (.var 2) (.cst .none))) (rb : trSs 200 ⟨N, defScope st, fun _ => true, []⟩ bb = some b1)
    (o0 : okS (pl R) y0 = true) (o1 : okS (pl R) y1 = true) (o2 : okS (pl R) y2 = true) (ob : okB (pl R) b1 = true) (hp : ∀ f, R f = false → Φ' f = Φ f) (hφ : Φ' xf = some φ)
    (X1 : FnXR P w K mg base k xf C φ) (Ec : L2.ExcC K C) (hm : mg xm = some (.ref M)) (h1 : mg x1 = some (.ref C1)) (h2 : mg x2 = some (.ref C2)) (h3 : mg x3 = some (.ref C3)) (h4 : mg x4 = some (.ref C4)) (h5 : mg ("ValueError" : Str) = none)
    (em : PySem.W.exmOne K (.ref C) (.ref M) = some true) (e3 : PySem.W.kitAny K (.ref C) [.ref C1, .ref C2, .ref C3] = some false) (e4 : PySem.W.kitOne K (.ref C) (.ref C4) = some true) (e5 : PySem.W.kitOne K (.ref C) (.type "ValueError") = some true)
    (gs : (glB (defScope st) xf && glB (defScope st) xm && glB (defScope st) x1 && glB (defScope st) x2 && glB (defScope st) x3 && glB (defScope st) x4 && glB (defScope st) "isinstance" && glB (defScope st) "ValueError") = true)
    (ds : ∀ z ∈ [xf, xm, x1, x2, x3, x4, xa, xb, xe, xn], (z == ("__debug__" : Str)) = false ∧ (z == ("__classdict__" : Str)) = false)
    (na : N[0]? = some xa) (nb : N[1]? = some xb) (ne : N[3]? = some xe) (nv : N[4]? = some xv) (nn : N[5]? = some xn) (vs' : ∀ z ∈ [xa, xb, xe, xn], visB (defScope st) z = true) (le : locB ⟨N, defScope st, fun _ => true, []⟩ xe = true) (lv : locB ⟨N, defScope st, fun _ => true, []⟩ xv = true) (ln : (defScope st).names.lookup xn = some .local) (hN : N.length = 6)
    (hps : ps.length = 2) (tab : ∀ f φ, Φ f = some φ → FnH P w K mg base k f φ) (blt : ∀ x ∈ bnames, mg x = none) (hs : SeerK K) (ht : P.given.tree = none) (hk : 34 ≤ k) :
    FnOk P w K mg base CX0 (k + 1) f fd ps (spH (runH Φ' N.length ps.length (rightS y0 y1 y2 xf b1))) := by
  refine F.ok S (fun vs H Q E h => ?_) (fun cdv A outer s H vs Q E1 hr h => ?_)
  · obtain ⟨m, A, ws, w, A', q1, q2, q3, _⟩ := h
    unfold runH at q3
    split at q3
    · rename_i hl
      rw [q2.len, hl]
    · cases q3
  · have ok := cok_of (Φ := Φ) (E := E1) (s := s) (H := H) (outer := outer) (f := f) (cd := cdv) (qual := qual) S hr tab blt hs ht hk
    obtain ⟨fa, fdx, psx, m1, m2, m3, m4⟩ := X1.ex
    simp only [Bool.and_eq_true] at gs
    obtain ⟨⟨⟨⟨⟨⟨⟨g1, g2⟩, g3⟩, g4⟩, g5⟩, g6⟩, g7⟩, g8⟩ := gs
    obtain ⟨lo1, lo2⟩ := locB_ok ok le
    obtain ⟨lv1, lv2⟩ := locB_ok ok lv
    have D0 := soundS Φ 200
    have E0 := sound Φ 200
    have hp' : ∀ f, (pl R) f = true → Φ' f = Φ f := fun f h => hp f (by simpa using h)
    have bi : mg ("isinstance" : Str) = none := blt _ (by decide)
    have va : Vis (defScope st) xa := visB_ok (vs' xa (by simp))
    have vb : Vis (defScope st) xb := visB_ok (vs' xb (by simp))
    have ve : Vis (defScope st) xe := visB_ok (vs' xe (by simp))
    have vn : Vis (defScope st) xn := visB_ok (vs' xn (by simp))
    have df := ds xf (by simp)
    have dm := ds xm (by simp)
    have d1 := ds x1 (by simp)
    have d2 := ds x2 (by simp)
    have d3 := ds x3 (by simp)
    have d4 := ds x4 (by simp)
    have da := ds xa (by simp)
    have db := ds xb (by simp)
    have de := ds xe (by simp)
    have dn := ds xn (by simp)
    have bv : bootBuiltins "ValueError" = some (.type "ValueError") := by decide +kernel
    refine ⟨tSeq (tVS Φ y0) (tSeq (tVS Φ y1) (tSeq (tVS Φ y2) (fun D σ H => (fun W : WX => tSeq (tAsg (tCallS (spX C φ) (WE W) (tCons (tVar 0) (tCons (tVar 1) tNil))) (gName 4)) tNext)
      (wCaught K (.ref M) 5 (fun _ _ _ => tSeq (tAsg (tVar 5) (gName 3)) tNext) (fun a cls d D σ H => (cls = .ref C ∧ d = none) ∧ tSeq (tIfS (tVT Φ (.cmp .IsNot (.var 2) (.cst .none))) tNo tNext) (tBeh3 K C C1 C2 C3 C4 a) D σ H) D)
      { noEnds with nx := fun σ' H' => tSeq (tIfS (tVT Φ (.cmp .IsNot (.var 2) (.cst .none))) (tVSs Φ b1) tNext) tNo D σ' H' } σ H))), ?_, ?_⟩
    · rw [hb]
      refine PSs.nox (pss_cons (D0.s _ _ k ok _ _ r0) (pss_cons (D0.s _ _ k ok _ _ r1) (pss_cons (D0.s _ _ k ok _ _ r2) ?_)))
      refine pss_caught2 (X := (cxOf CX0 P w K mg base N qual (defScope st) f cdv A outer s H E1).nox) (tb := fun W : WX => tSeq (tAsg (tCallS (spX C φ) (WE W) (tCons (tVar 0) (tCons (tVar 1) tNil))) (gName 4)) tNext) (ts := fun _ _ _ => tSeq (tAsg (tVar 5) (gName 3)) tNext)
        (tp := fun a cls d D σ H => (cls = .ref C ∧ d = none) ∧ tSeq (tIfS (tVT Φ (.cmp .IsNot (.var 2) (.cst .none))) tNo tNext) (tBeh3 K C C1 C2 C3 C4 a) D σ H) (tn := tSeq (tIfS (tVT Φ (.cmp .IsNot (.var 2) (.cst .none))) (tVSs Φ b1) tNext) tNo) rfl rfl S.nd nn ln (glB_ok g2) dm.1 hm (fun W pn xe tk => ?_) (fun a oe cls d pn => ?_) (fun a oe cls d z fz => ?_) ?_
      · exact pss_cons (ps_set S.nd nv lv1 (pe_callS m3 hr (glB_ok g1) m1 m2 m4 (fun σ => passAt tk σ) (pa_cons (pe_var na va da.1 da.2) (pa_cons (pe_var nb vb db.1 db.2) pa_nil)) df.1) rfl lv2) pss_nil
      · exact pss_cons (ps_set S.nd ne lo1 (pe_var nn vn dn.1 dn.2) rfl lo2) pss_nil
      · refine pss_when fun ⟨q1, q2⟩ => ?_
        subst q1 q2
        refine pss_cons (ps_if (E0.t _ _ k (ok.held a oe) _ _ rt) pss_no pss_nil) ?_
        refine pss_cons (ps_if (pt_val (pe_callB (call_heldT Ec z fz) (glB_ok g7) bi bt_isi (pa_cons (pe_var ne ve de.1 de.2) (pa_cons (pe_tup (pa_cons (pe_glob (glB_ok g3) h1 rfl d1.1) (pa_cons (pe_glob (glB_ok g4) h2 rfl d2.1) (pa_cons (pe_glob (glB_ok g5) h3 rfl d3.1) pa_nil)))) pa_nil)))) (pss_cons (ps_ret pe_bl) pss_nil) pss_nil) (pss_cons (ps_ret (pe_and (pe_callB (call_heldE Ec z fz) (glB_ok g7) bi bt_isi (pa_cons (pe_var ne ve de.1 de.2) (pa_cons (pe_glob (glB_ok g6) h4 rfl d4.1) pa_nil))) (pe_one (pe_callB (call_heldE Ec z fz) (glB_ok g7) bi bt_isi (pa_cons (pe_var ne ve de.1 de.2) (pa_cons (pe_bltn (glB_ok g8) h5 bv rfl) pa_nil)))))) pss_nil)
      · exact pss_cons (ps_if (E0.t _ _ k ok _ _ rt) (D0.ss _ _ k ok _ _ rb) pss_nil) pss_no
    · obtain ⟨m, A0, ws, w', A', q1, q2, q3, q⟩ := h
      unfold runH at q3
      split at q3
      rotate_left
      · cases q3
      rename_i hl
      have re := RE.start (N := N) q1 q2 (by rw [hl, hps, hN]; decide)
      cases hrun : exsH Φ' (rightS y0 y1 y2 xf b1) (startW N.length ws) A0 with
      | none => rw [hrun] at q3; cases q3
      | some o =>
      rw [hrun] at q3
      unfold rightS at hrun
      obtain ⟨ρ1, A1, c0, hrun⟩ := hx_okS hp' o0 hrun
      obtain ⟨ρ2, A2, c1, hrun⟩ := hx_okS hp' o1 hrun
      obtain ⟨ρ3, A3, c2, hrun⟩ := hx_okS hp' o2 hrun
      obtain ⟨w4, A4, c3, hl4, hrun⟩ := hx_asg hrun
      obtain ⟨φ', us, A3', k1, k2, k3⟩ := ev_call_some c3
      rw [hφ] at k1
      cases k1
      have kab : ∃ wa wb, ρ3[0]? = some (some wa) ∧ ρ3[1]? = some (some wb) ∧ us = [wa, wb] ∧ A3 = A3' := by
        rw [evsH] at k2
        split at k2
        · rename_i wa B1 e1
          obtain ⟨z1, z2⟩ := ev_var_some e1
          subst z2
          rw [evsH] at k2
          cases hb2 : evH Φ' (.var 1) ρ3 B1 with
          | none => rw [hb2] at k2; cases k2
          | some pq =>
            obtain ⟨wb, B2⟩ := pq
            obtain ⟨z3, z4⟩ := ev_var_some hb2
            subst z4
            rw [hb2] at k2
            simp only [evsH] at k2
            cases k2
            exact ⟨wa, wb, z1, z3, rfl, rfl⟩
        · cases k2
      obtain ⟨wa, wb, ka, kb, rfl, rfl⟩ := kab
      refine ⟨m, H, m, A0, _, _, q1.refl, re, c0, fun n1 s1' H1 u1 f1 => ?_⟩
      refine ⟨n1, H1, n1, A1, _, _, f1.hr.refl, f1, c1, fun n2 s2' H2 u2 f2 => ?_⟩
      refine ⟨n2, H2, n2, A2, _, _, f2.hr.refl, f2, c2, fun n3 s3' H3 u3 f3 => ?_⟩
      have u := u1.trans (u2.trans u3)
      obtain ⟨va1, pa1, qa1⟩ := f3.get 0 wa ka
      obtain ⟨vb1, pb1, qb1⟩ := f3.get 1 wb kb
      obtain ⟨w4', k4, hrun⟩ := hx_is hrun
      rw [List.getElem?_set_self hl4] at k4
      cases k4
      have len6 : s3'.length = 6 := by
        have z1 := f3.len
        have z2 : ∀ {s : XS} {ρ ρ' : HEnv} {A A' : AH}, okS (pl R) s = true → exH Φ s ρ A = some (.nx ρ' A') → ρ'.length = ρ.length := fun {s ρ ρ' A A'} hk he => by
          cases s with
          | asg t e =>
            rw [exH] at he
            split at he
            · obtain ⟨ρ4, h4, h5⟩ := Option.map_eq_some_iff.mp he
              cases h5
              cases t with
              | nm i =>
                simp only [setTW] at h4
                split at h4
                · cases h4
                  exact List.length_set
                · cases h4
              | tp js =>
                simp only [setTW] at h4
                split at h4
                · exact (setAllW_len0 _ _ _ _ h4)
                · split at h4
                  · exact (setAllW_len0 _ _ _ _ h4)
                  · cases h4
                · cases h4
            · cases he
          | par js as =>
            rw [exH] at he
            split at he
            · split at he
              · obtain ⟨ρ4, h4, h5⟩ := Option.map_eq_some_iff.mp he
                cases h5
                exact (setAllW_len0 _ _ _ _ h4)
              · cases he
            · cases he
          | app a e =>
            rw [exH] at he
            split at he
            · split at he
              · obtain ⟨ρ4, h4, h5⟩ := Option.map_eq_some_iff.mp he
                cases h5
                rfl
              · cases he
            · cases he
          | pass =>
            rw [exH] at he
            cases he
            rfl
          | _ => cases hk
        rw [z1, z2 o2 c2, z2 o1 c1, z2 o0 c0]
        unfold startW
        rw [List.length_append, List.length_map, List.length_replicate, hl, hps, hN]
      refine ⟨va1, pa1, vb1, pb1, n3, A3, [wa, wb], w4, A4, f3.hr, .cons qa1 (.cons qb1 .nil), k3, PostR.of (fun nn4 v n4 H4 u4 g4' rv => ?_) fun nn4 n4 H4 u4 g4' => ?_⟩
      · rcases hrun with ⟨z, _⟩ | ⟨_, hrun⟩
        · exact (nn4 z).elim
        have f4 := (f3.ex u4 g4').putS hl4 rv
        obtain ⟨w2, k5, hrun⟩ := hx_isn hrun
        rcases hrun with ⟨_, hrun⟩ | ⟨n2', hrun⟩
        · simp only [appS] at hrun
          rw [stop_none] at hrun
          cases hrun
        have bt : notNon w2 = true := by
          cases w2 <;> first | rfl | exact (n2' rfl).elim
        have ev := ev_isn (Φ := Φ) (A := A4) k5
        rw [bt] at ev
        refine ⟨n4, A4, _, true, A4, f4, ev, fun n5 H5 u5 g5 => iteT ?_⟩
        have hb1 : ∃ e, b1 = .cons (.ret e) .nil ∧ okE (pl R) e = true := by
          unfold okB at ob
          split at ob
          · exact ⟨_, rfl, ob⟩
          · cases ob
        obtain ⟨e, rfl, ke⟩ := hb1
        simp only [appS] at hrun
        obtain ⟨wr, A5, e6, rfl⟩ := hx_ret hrun
        simp only [] at q3
        cases q3
        refine ⟨n5, H5, n5, A4, _, .rt w' A', g5.refl, f4.ex u5 g5, ?_, fun v6 n6 H6 u6 g6 r6 => q v6 n6 H6 (u.trans (u4.trans (u5.trans u6))) g6 r6⟩
        rw [exsH, exH, ← evH_ok hp' _ ke, e6]
      · rcases hrun with ⟨_, hrun⟩ | ⟨z, _⟩
        rotate_left
        · exact (z nn4).elim
        simp only [appS] at hrun
        obtain ⟨w2, k5, hrun⟩ := hx_isn hrun
        rcases hrun with ⟨n2', hrun⟩ | ⟨_, hrun⟩
        rotate_left
        · simp only [appS] at hrun
          rw [stop_none] at hrun
          cases hrun
        subst n2'
        simp only [appS] at hrun
        obtain ⟨wr, A5, e6, rfl⟩ := hx_ret hrun
        rw [evH] at e6
        cases e6
        simp only [] at q3
        cases q3
        have f4 := f3.ex u4 g4'
        refine ⟨em, fun a _ => ?_⟩
        have l5 : 5 < s3'.length := by omega
        refine ⟨.ref a, List.getElem?_set_self l5, ⟨rfl, rfl⟩, ?_⟩
        have f5 := ((f4.drop 5 (some (.ref a))).drop 3 (some (.ref a))).drop 5 none
        have k6 : ((((ρ3.set 5 none).set 3 none).set 5 none) : HEnv)[2]? = some (some W.non) := by
          rw [List.getElem?_set_ne (by decide)] at k5
          rw [List.getElem?_set_ne (by decide), List.getElem?_set_ne (by decide), List.getElem?_set_ne (by decide), k5]
        have s3a : ((((s3'.set 5 (some (.ref a))).set 3 (some (.ref a))).set 5 none) : L2.St)[3]? = some (some (.ref a)) := by
          rw [List.getElem?_set_ne (by decide), List.getElem?_set_self (by rw [List.length_set]; omega)]
        refine ⟨n4, _, _, false, _, f5, ev_isn k6, fun n5 H5 u5 g5 => iteF ?_⟩
        refine ⟨.ref a, s3a, ?_⟩
        refine ⟨limOk (n := 3) (by unfold lim; decide), fun p np => ?_⟩
        obtain ⟨u6, g6'⟩ := Ex.other (o := .tup [.ref C1, .ref C2, .ref C3]) g5 np
        refine ⟨p, _, _, false, rfl, upd_same, .cons (.own C1) (.cons (.own C2) (.cons (.own C3) .nil)), e3, false, rfl, ?_⟩
        refine ⟨.ref a, s3a, .ref C4, .ref C4, true, rfl, fun _ r => r, e4, true, rfl, ?_⟩
        exact ⟨.ref a, s3a, .ty "ValueError", .type "ValueError", true, rfl, fun _ r => r, e5, q (.bl true) n5 _ (u.trans (u4.trans (u5.trans u6))) g6' (.bl true)⟩
end VI
set_option Elab.async false
set_option linter.all false
set_option maxRecDepth 100000
set_option maxHeartbeats 4000000
namespace VI
open PySem PySem.Spec PyProof.Rows L2
def nsB : List Str → Str → Bool
  | [], _ => false
  | x :: r, f => if f = x then true else nsB r f
structure Split (ns : List Str) (lA l : List (Str × Fun)) : Prop where
  pl : ∀ f, nsB ns f = false → fnsOf lA f = fnsOf l f
  has : ∀ f, nsB ns f = true → ∃ φ, fnsOf lA f = some φ
theorem Split.nil : Split [] [] [] := ⟨fun _ _ => rfl, fun f h => by cases h⟩
theorem Split.plain {ns : List Str} {lA l : List (Str × Fun)} (S : Split ns lA l) {x : Str} {φ : Fun} (h : nsB ns x = false) : Split ns ((x, φ) :: lA) ((x, φ) :: l) := by
  refine ⟨fun f hf => ?_, fun f hf => ?_⟩
  · unfold fnsOf
    split
    · rfl
    · exact S.pl f hf
  · unfold fnsOf
    split
    · exact ⟨_, rfl⟩
    · exact S.has f hf
theorem Split.rais {ns : List Str} {lA l : List (Str × Fun)} (S : Split ns lA l) {x : Str} {φ : Fun} : Split (x :: ns) ((x, φ) :: lA) l := by
  refine ⟨fun f hf => ?_, fun f hf => ?_⟩
  · unfold nsB at hf
    split at hf
    · cases hf
    · rename_i hne
      rw [fnsOf, if_neg hne]
      exact S.pl f hf
  · unfold nsB at hf
    split at hf
    · rename_i he
      exact ⟨φ, by rw [fnsOf, if_pos he]⟩
    · rename_i hne
      rw [fnsOf, if_neg hne]
      exact S.has f hf
structure AllX (P : Program) (w : World) (K : PySem.W.Frag) (mg : Str → Option Value) (base : Heap) (k : Nat) (C : Addr) (ns : List Str) (lA : List (Str × Fun)) : Prop where
  all : ∀ f φ, nsB ns f = true → fnsOf lA f = some φ → FnXR P w K mg base k f C φ
section
variable {P : Program} {w : World} {K : PySem.W.Frag} {mg : Str → Option Value} {base : Heap} {k : Nat} {C : Addr} {ns : List Str} {l lA : List (Str × Fun)}
theorem AllH.up (V : AllH P w K mg base k l) : AllH P w K mg base (k + 1) l := ⟨fun p hp => (V.all p hp).mono (Nat.le_succ k)⟩
theorem AllX.nil {lA : List (Str × Fun)} : AllX P w K mg base k C [] lA := ⟨fun f φ h => by cases h⟩
theorem AllX.plain (W : AllX P w K mg base k C ns lA) {x : Str} {φ : Fun} (h : nsB ns x = false) : AllX P w K mg base (k + 1) C ns ((x, φ) :: lA) := ⟨fun f ψ h1 h2 => by
  rw [fnsOf] at h2
  split at h2
  · rename_i he
    rw [he, h] at h1
    cases h1
  · exact (W.all f ψ h1 h2).mono (Nat.le_succ k)⟩
theorem AllX.step {x : Str} {st : Stmt} {f : Addr} {fd : FuncData} {N ps : List Str} {body : XSs} {gc : List (Str × D)} {EX : Str} {t0 t1 t2 : Nat} (V : AllH P w K mg base k l) (W : AllX P w K mg base k C ns lA) (S' : Split ns lA l)
    (F : FunD K x x (defArgs st) (defBody st) (defScope st) [] [] f fd) (S : FnScope N ps (defScope st)) (htr : trXs ⟨nsB ns, EX, t0, t1, t2⟩ 200 ⟨N, defScope st, fun _ => true, gc⟩ (defBody st) = some body) (hc : ExcC K mg EX C)
    (blt : ∀ x ∈ bnames, mg x = none) (hN : ps.length ≤ N.length) (hs : SeerK K) (ht : P.given.tree = none) (hk : 34 ≤ k) (g : mg x = some (.ref f)) (b : Binds K fd ps []) (hgc : GcOk gc mg) :
    AllX P w K mg base (k + 1) C (x :: ns) ((x, runH (fnsOf lA) N.length ps.length (endX body)) :: lA) := ⟨fun y ψ h1 h2 => by
  rw [fnsOf] at h2
  split at h2
  · rename_i he
    cases h2
    subst he
    exact ⟨⟨f, fd, ps, g, F.kp, fn_xr (T := ⟨nsB ns, EX, t0, t1, t2⟩) F S htr hc V.tab S'.pl W.all S'.has blt hN hs ht hk hgc, b⟩⟩
  · rename_i hne
    rw [nsB, if_neg hne] at h1
    exact (W.all y ψ h1 h2).mono (Nat.le_succ k)⟩
end
theorem GcOk.int {gc : List (Str × D)} {mg : Str → Option Value} {x : Str} {i : Int} (h : GcOk gc mg) (q : ∃ t, mg x = some (.int i t)) : GcOk ((x, .int i) :: gc) mg := fun y d e => by
  rw [List.lookup_cons] at e
  split at e
  · rename_i hb
    cases e
    obtain ⟨t, q⟩ := q
    have : y = x := by simpa using hb
    subst this
    exact ⟨.int i, .int i, _, rfl, fun _ _ => .int i, q, ⟨t, rfl⟩⟩
  · exact h y d e
theorem GcOk.str {gc : List (Str × D)} {mg : Str → Option Value} {x z : Str} (h : GcOk gc mg) (q : ∃ t, mg x = some (.str z t)) : GcOk ((x, .str z) :: gc) mg := fun y d e => by
  rw [List.lookup_cons] at e
  split at e
  · rename_i hb
    cases e
    obtain ⟨t, q⟩ := q
    have : y = x := by simpa using hb
    subst this
    exact ⟨.str z, .str z, _, rfl, fun _ _ => .str z, q, ⟨t, rfl⟩⟩
  · exact h y d e
structure RightT where
  f : Str
  m : Str
  x1 : Str
  x2 : Str
  x3 : Str
  x4 : Str
  y0 : XS
  y1 : XS
  y2 : XS
  b1 : XSs
def trRight (R : Str → Bool) (co : Co) : List Stmt → Option RightT
  | [s0, s1, s2,
      .Try [.Assign [.Name xv _] (.Call (.Name xf _) [.Name xa _, .Name xb _] [] _) _] [.ExceptHandler (some (.Name xm _)) (some xn) [.Assign [.Name xe _] (.Name yn _) _] _] [] [] _,
      .If t1 bb [] _,
      .If (.Call (.Name i1 _) [.Name ze _, .Tuple [.Name x1 _, .Name x2 _, .Name x3 _] _ _] [] _) [.Return (some (.Constant (.bool false) _ _)) _] [] _,
      .Return (some (.BoolOp .And [.Call (.Name i2 _) [.Name ue _, .Name x4 _] [] _, .Call (.Name i3 _) [.Name we _, .Name v5 _] [] _] _)) _] =>
    match trS 200 co s0, trS 200 co s1, trS 200 co s2, trE 200 co t1, trSs 200 co bb with
    | some y0, some y1, some y2, some (.cmp .IsNot (.var 2) (.cst .none)), some b1 =>
      if (ze = xe ∧ ue = xe ∧ we = xe ∧ yn = xn ∧ i1 = "isinstance" ∧ i2 = "isinstance" ∧ i3 = "isinstance" ∧ v5 = "ValueError") ∧ (okS (pl R) y0 = true ∧ okS (pl R) y1 = true ∧ okS (pl R) y2 = true ∧ okB (pl R) b1 = true) ∧
        ((glB co.sc xf && glB co.sc xm && glB co.sc x1 && glB co.sc x2 && glB co.sc x3 && glB co.sc x4 && glB co.sc "isinstance" && glB co.sc "ValueError") = true ∧
        (∀ z ∈ [xf, xm, x1, x2, x3, x4, xa, xb, xe, xn], (z == ("__debug__" : Str)) = false ∧ (z == ("__classdict__" : Str)) = false)) ∧
        (co.N[0]? = some xa ∧ co.N[1]? = some xb ∧ co.N[3]? = some xe ∧ co.N[4]? = some xv ∧ co.N[5]? = some xn) ∧
        ((∀ z ∈ [xa, xb, xe, xn], visB co.sc z = true) ∧ locB co xe = true ∧ locB co xv = true ∧ co.sc.names.lookup xn = some .local ∧ co.N.length = 6 ∧ R xf = true)
      then some ⟨xf, xm, x1, x2, x3, x4, y0, y1, y2, b1⟩ else none
    | _, _, _, _, _ => none
  | _ => none
theorem fn_right2 {P : Program} {w : World} {K : PySem.W.Frag} {mg : Str → Option Value} {base : Heap} {x qual : Str} {st : Stmt} {f : Addr} {fd : FuncData} {N ps : List Str} {k : Nat} {C M C1 C2 C3 C4 : Addr} {T : RightT} {ns : List Str} {l lA : List (Str × Fun)}
    (F : FunD K x qual (defArgs st) (defBody st) (defScope st) [] [] f fd) (S : FnScope N ps (defScope st)) (htr : trRight (nsB ns) ⟨N, defScope st, fun _ => true, []⟩ (defBody st) = some T) (hps : ps.length = 2)
    (V : AllH P w K mg base k l) (W : AllX P w K mg base k C ns lA) (S' : Split ns lA l) (hE : ErrC K C M C1 C2 C3 C4) (hm : mg T.m = some (.ref M)) (h1 : mg T.x1 = some (.ref C1)) (h2 : mg T.x2 = some (.ref C2)) (h3 : mg T.x3 = some (.ref C3)) (h4 : mg T.x4 = some (.ref C4)) (h5 : mg ("ValueError" : Str) = none)
    (blt : ∀ x ∈ bnames, mg x = none) (hs : SeerK K) (ht : P.given.tree = none) (hk : 34 ≤ k) :
    FnOk P w K mg base CX0 (k + 1) f fd ps (spH (runH (fnsOf lA) N.length ps.length (rightS T.y0 T.y1 T.y2 T.f T.b1))) := by
  generalize hb : defBody st = b at htr
  unfold trRight at htr
  split at htr
  · split at htr
    · rename_i r0 r1 r2 rt rb
      split at htr
      · rename_i hh
        obtain ⟨⟨rfl, rfl, rfl, rfl, rfl, rfl, rfl, rfl⟩, ⟨o0, o1, o2, ob⟩, ⟨q1, q2⟩, ⟨q3, q4, q5, q6, q7⟩, q8, q9, q10, q11, q12, q13⟩ := hh
        cases htr
        obtain ⟨φ, hφ⟩ := S'.has _ q13
        exact fn_right F S hb r0 r1 r2 rt rb o0 o1 o2 ob S'.pl hφ (W.all _ _ q13 hφ) hE.c hm h1 h2 h3 h4 h5 hE.m hE.n hE.o hE.v q1 q2 q3 q4 q5 q6 q7 q8 q9 q10 q11 q12 hps V.tab blt hs ht hk
      · cases htr
    · cases htr
  · cases htr
end VI
set_option Elab.async false
set_option linter.all false
set_option maxRecDepth 100000
set_option maxHeartbeats 1000000
namespace VI
open PySem PySem.Spec PyProof.Rows L2

inductive Sta where
  | own | arg | shr
  deriving DecidableEq
abbrev Env := List (Option (Sta × D))
structure Sig where
  fr : Bool
  ls : Bool
  ar : Nat
  φ : List D → Option D
abbrev Tab := Str → Option Sig
def binD : Operator → D → D → Option D
  | .Add, .int i, .int j => some (.int (i + j))
  | .Add, .list xs, .list ys => if xs.length + ys.length ≤ lim then some (.list (xs ++ ys)) else none
  | .Add, .str a, .str b => if a.length + b.length ≤ lim then some (.str (a ++ b)) else none
  | .Sub, .int i, .int j => some (.int (i - j))
  | .Mult, .int i, .int j => if mulOk i j then some (.int (i * j)) else none
  | .FloorDiv, .int i, .int j => if divOk j then some (.int (i.fdiv j)) else none
  | .Mod, .int i, .int j => if j = 0 then none else some (.int (i.fmod j))
  | .Pow, .int i, .int j => if 0 ≤ j ∧ j ≤ 1000 ∧ i.natAbs < 2 ^ 64 then some (.int (i ^ j.toNat)) else none
  | .RShift, .int i, .int j => if 0 ≤ j then some (.int (i / 2 ^ j.toNat)) else none
  | _, _, _ => none
def intsOf : List D → Option (List Int)
  | [] => some []
  | .int i :: r => (intsOf r).map (i :: ·)
  | _ => none
def blsOf : List D → Option (List Bool)
  | [] => some []
  | .bool b :: r => (blsOf r).map (b :: ·)
  | _ => none
def strsOf : List D → Option (List Str)
  | [] => some []
  | .str x :: r => (strsOf r).map (x :: ·)
  | _ => none
def partsOf : Str → List D → Option Str
  | acc, [] => some acc
  | acc, .str x :: r => if acc.length + x.length ≤ lim then partsOf (acc ++ x) r else none
  | acc, .int i :: r => if i.natAbs.log2 < 1920 ∧ acc.length + (toString i : Str).length ≤ lim then partsOf (acc ++ (toString i : Str)) r else none
  | _, _ => none
def cmpD : CmpOp → D → D → Option Bool
  | .Eq, x, y => if (SeqAt.shaped x && SeqAt.shaped y) || (strD x && strD y) then some (PyData.eqv x y) else none
  | .NotEq, x, y => if (SeqAt.shaped x && SeqAt.shaped y) || (strD x && strD y) then some (!PyData.eqv x y) else none
  | .Lt, .int i, .int j => some (decide (i < j))
  | .LtE, .int i, .int j => some (decide (i ≤ j))
  | .Gt, .int i, .int j => some (decide (j < i))
  | .GtE, .int i, .int j => some (decide (j ≤ i))
  | .In, .int i, .list ys => (intsOf ys).map fun ns => ns.any fun n => n == i
  | .NotIn, .int i, .list ys => (intsOf ys).map fun ns => !ns.any fun n => n == i
  | .In, .str x, .str y => (signOf x).map fun c => decide (c ∈ y.cps.toList)
  | .NotIn, .str x, .str y => (signOf x).map fun c => !decide (c ∈ y.cps.toList)
  | .In, x, .list ys => if SeqAt.shaped x && SeqAt.shaped (.list ys) then some (ys.any fun z => PyData.eqv z x) else none
  | .Is, x, .none => some (match x with | .none => true | _ => false)
  | .IsNot, x, .none => some (match x with | .none => false | _ => true)
  | _, _, _ => none
def ixD : D → D → Option D
  | .list xs, .int i => atI xs i
  | .tuple xs, .int i => atI xs i
  | .str x, .int i => if x.length ≤ lim then (atI x.cps.toList i).map fun c => .str ⟨#[c]⟩ else none
  | _, _ => none
def partD : Bool → D → Option (Option Int)
  | true, .none => some none
  | false, .int i => some (some i)
  | _, _ => none
def slD : D → Option Int → Option Int → Option D
  | .list xs, lo, hi => some (.list (cutD xs lo hi))
  | .tuple xs, lo, hi => if HT.sIx xs.length 0 lo = 0 ∧ HT.sIx xs.length xs.length hi = xs.length then none else some (.tuple (cutD xs lo hi))
  | .str x, lo, hi => if x.length ≤ lim then some (.str (Txt.slice x lo hi)) else none
  | _, _, _ => none
def keyD0 : D → Int
  | .tuple (.int i :: _) => i
  | _ => 0
def keysD : List D → Option (List Int)
  | [] => some []
  | .tuple [.int i, _] :: r => (keysD r).map (i :: ·)
  | _ => none
def sortD (xs : List D) : Option D := match intsOf xs with
  | some ns => some (.list ((sortI ns).map .int))
  | none => match keysD xs with
    | some ks => if ks.Nodup then some (.list (sortK keyD0 xs)) else none
    | none => none
def biD : BI → List D → Option D
  | .len, [.list xs] => some (.int xs.length)
  | .len, [.tuple xs] => some (.int xs.length)
  | .len, [.str x] => if x.length ≤ lim then some (.int x.length) else none
  | .int, [.str x] => if x.length ≤ 640 then (PySem.intText? x).map fun n => .int n else none
  | .str, [.int i] => if i.natAbs.log2 < 1920 then some (.str (toString i)) else none
  | .split, [.str a, .str b] => if (b.length == 0) = false ∧ a.length + 2 ≤ lim then some (.list ((Txt.split a b).map .str)) else none
  | .part, [.str a, .str b] => if (b.length == 0) = false ∧ a.length ≤ lim then some (.tuple [.str (Txt.partition a b).1, .str (Txt.partition a b).2.1, .str (Txt.partition a b).2.2]) else none
  | .join, [.str a, .list xs] => match strsOf xs with
    | some ys => if (ys.map (·.length)).sum + ys.length * a.length ≤ lim then some (.str (Txt.join a ys)) else none
    | none => none
  | .find, [.str a, .str b] => some (.int (Txt.find a b))
  | .upper, [.str a] => if a.length ≤ lim then some (.str (Txt.upper a)) else none
  | .fst, x :: y :: xs => (partsOf Str.empty (x :: y :: xs)).map .str
  | .abs, [.int i] => some (.int (if i < 0 then -i else i))
  | .int, [.int i] => some (.int i)
  | .int, [.bool b] => some (.int (if b then 1 else 0))
  | .max, [.int i, .int j] => some (.int (if j > i then j else i))
  | .list, [.list xs] => some (.list xs)
  | .list, [.tuple xs] => some (.list xs)
  | .tuple, [.list xs] => some (.tuple xs)
  | .sum, [.tuple xs] => (intsOf xs).map fun ns => .int ns.sum
  | .sum, [.list xs] => (intsOf xs).map fun ns => .int ns.sum
  | .all, [.list xs] => (blsOf xs).map fun ns => .bool (ns.all id)
  | .any, [.list xs] => (blsOf xs).map fun ns => .bool (ns.any id)
  | .sorted, [.list xs] => if xs.length < 64 then sortD xs else none
  | _, _ => none
def isiD : D → TY → Option Bool
  | .none, _ => some false
  | .bool _, .int => some true
  | .bool _, .bool => some true
  | .bool _, _ => some false
  | .int _, .int => some true
  | .int _, _ => some false
  | .str _, .str => some true
  | .str _, _ => some false
  | .list _, .list => some true
  | .list _, _ => some false
  | .tuple _, .tuple => some true
  | .tuple _, _ => some false
  | _, _ => none

def isList : D → Bool
  | .list _ => true
  | _ => false
def setAll : Env → List Nat → List D → Option Env
  | ρ, [], [] => some ρ
  | ρ, i :: is, d :: ds => if i < ρ.length then setAll (ρ.set i (some (.shr, d))) is ds else none
  | _, _, _ => none
def setT (ρ : Env) : XT → D → Option Env
  | .nm i, d => if i < ρ.length then some (ρ.set i (some (.shr, d))) else none
  | .tp js, .tuple ds => setAll ρ js ds
  | .tp js, .list ds => setAll ρ js ds
  | _, _ => none
def wipeE (ρ : Env) : List Nat → Env
  | [] => ρ
  | v :: vs => (wipeE ρ vs).set v none
def toArg : Option (Sta × D) → Option (Sta × D)
  | some (.own, d) => some (.arg, d)
  | x => x
def blkE (ρ : Env) (vs : List Nat) : Env := wipeE (ρ.map toArg) vs
def sfE (ρ : Env) : XE → Bool
  | .var i => match ρ[i]? with
    | some (some (s, d)) => s == .shr || !isList d
    | _ => true
  | _ => true
def ownL (ρ : Env) (i : Nat) : Option (List D) :=
  match ρ[i]? with
  | some (some (.own, .list ds)) => some ds
  | _ => none
def isOwn (ρ : Env) : XE → Bool
  | .var i => (ownL ρ i).isSome
  | _ => false
def sfEs (ρ : Env) : XEs → Bool
  | .nil => true
  | .cons a as => sfE ρ a && sfEs ρ as
def frBi : BI → Bool
  | .list => true
  | .sorted => true
  | .split => true
  | _ => false
def frE (Γ : Tab) : XE → Bool
  | .bin .Add _ _ => true
  | .lst _ => true
  | .lc _ _ _ _ _ => true
  | .sl _ _ _ => true
  | .bi f _ => frBi f
  | .call f _ => match Γ f with
    | some sg => sg.fr
    | none => false
  | _ => false

def lcGo (f : D → Option (Option D)) : List D → Option (List D)
  | [] => some []
  | d :: ds => match f d with
    | none => none
    | some none => lcGo f ds
    | some (some x) => match lcGo f ds with
      | none => none
      | some r => some (x :: r)
def rngD : List D → Option (List D)
  | [.int n] => if n ≤ 1000000 ∧ -1000000 ≤ n then some ((List.range n.toNat).map fun (k : Nat) => .int (k : Int)) else none
  | [.int a, .int b] => if a ≤ 1000000 ∧ -1000000 ≤ a ∧ b ≤ 1000000 ∧ -1000000 ≤ b then some ((List.range (b - a).toNat).map fun (k : Nat) => .int (a + (k : Int))) else none
  | [.int a, .int b, .int c] => if c = -1 then (if a ≤ 1000000 ∧ -1000000 ≤ a ∧ b ≤ 1000000 ∧ -1000000 ≤ b then some ((List.range (a - b).toNat).map fun (k : Nat) => .int (a - (k : Int))) else none)
    else if 0 < c ∧ c ≤ 1000000 ∧ a = 0 ∧ 0 ≤ b ∧ b ≤ 1000000 then some ((List.range ((b + c - 1) / c).toNat).map fun (k : Nat) => .int ((k : Int) * c)) else none
  | _ => none
def enuD : Nat → List D → List D
  | _, [] => []
  | i, d :: ds => .tuple [.int (i : Int), d] :: enuD (i + 1) ds

mutual
def ev (Γ : Tab) : XE → Env → Option D
  | .var i, ρ => match ρ[i]? with
    | some (some (_, d)) => some d
    | _ => none
  | .cst c, _ => if (cstW c).isSome then some c else none
  | .bin op a b, ρ => match ev Γ a ρ, ev Γ b ρ with
    | some x, some y => binD op x y
    | _, _ => none
  | .neg a, ρ => match ev Γ a ρ with
    | some (.int i) => some (.int (-i))
    | _ => none
  | .not a, ρ => match ev Γ a ρ with
    | some (.bool b) => some (.bool (!b))
    | _ => none
  | .and a b, ρ => match ev Γ a ρ with
    | some (.bool true) => match ev Γ b ρ with
      | some (.bool t) => some (.bool t)
      | _ => none
    | some (.bool false) => some (.bool false)
    | _ => none
  | .or a b, ρ => match ev Γ a ρ with
    | some (.bool false) => match ev Γ b ρ with
      | some (.bool t) => some (.bool t)
      | _ => none
    | some (.bool true) => some (.bool true)
    | _ => none
  | .cmp op a b, ρ => match ev Γ a ρ, ev Γ b ρ with
    | some x, some y => (cmpD op x y).map .bool
    | _, _ => none
  | .chn op op' a b c, ρ => match ev Γ a ρ, ev Γ b ρ with
    | some x, some y => match cmpD op x y with
      | some true => match ev Γ c ρ with
        | some z => (cmpD op' y z).map .bool
        | none => none
      | some false => some (.bool false)
      | none => none
    | _, _ => none
  | .call f as, ρ => match Γ f, evs Γ as ρ with
    | some sg, some ds => if (sg.ls → sfEs ρ as) ∧ ds.length = sg.ar then sg.φ ds else none
    | _, _ => none
  | .bi f as, ρ => match evs Γ as ρ with
    | some ds => biD f ds
    | none => none
  | .isi a t, ρ => match ev Γ a ρ with
    | some d => (isiD d t).map .bool
    | none => none
  | .ix a b, ρ => match ev Γ a ρ, ev Γ b ρ with
    | some x, some y => ixD x y
    | _, _ => none
  | .sl a lo hi, ρ => match ev Γ a ρ, ev Γ lo ρ, ev Γ hi ρ with
    | some x, some l, some h => match partD (isNoneE lo) l, partD (isNoneE hi) h with
      | some l', some h' => slD x l' h'
      | _, _ => none
    | _, _, _ => none
  | .lst as, ρ => match evs Γ as ρ with
    | some ds => if sfEs ρ as ∧ ds.length ≤ lim then some (.list ds) else none
    | none => none
  | .tup as, ρ => match evs Γ as ρ with
    | some ds => if sfEs ρ as ∧ ds.length ≤ lim then some (.tuple ds) else none
    | none => none
  | .lc vs tg it tt elt, ρ => match evi Γ it (ρ.map toArg) with
    | some ds => if ds.length ≤ lim then (lcGo (fun d => match setT (blkE ρ vs) tg d with
        | some ρ1 => match ev Γ tt ρ1 with
          | some (.bool true) => if sfE ρ1 elt then (ev Γ elt ρ1).map some else none
          | some (.bool false) => some none
          | _ => none
        | none => none) ds).map .list else none
    | none => none
def evs (Γ : Tab) : XEs → Env → Option (List D)
  | .nil, _ => some []
  | .cons a as, ρ => match ev Γ a ρ, evs Γ as ρ with
    | some d, some ds => some (d :: ds)
    | _, _ => none
def evi (Γ : Tab) : XI → Env → Option (List D)
  | .seq a, ρ => if isOwn ρ a then none else match ev Γ a ρ with
    | some (.list ds) => some ds
    | some (.tuple ds) => some ds
    | some (.str x) => if x.length ≤ lim then some (x.cps.toList.map fun c => .str ⟨#[c]⟩) else none
    | _ => none
  | .rng as, ρ => match evs Γ as ρ with
    | some ds => rngD ds
    | none => none
  | .zip a b, ρ => if isOwn ρ a || isOwn ρ b then none else match ev Γ a ρ, ev Γ b ρ with
    | some (.list xs), some (.list ys) => some (List.zipWith (fun x y => .tuple [x, y]) xs ys)
    | _, _ => none
  | .enu a, ρ => if isOwn ρ a then none else match ev Γ a ρ with
    | some (.list xs) => some (enuD 0 xs)
    | _ => none
  | .enz a b, ρ => if isOwn ρ a || isOwn ρ b then none else match ev Γ a ρ, ev Γ b ρ with
    | some (.list xs), some (.list ys) => some (enuD 0 (List.zipWith (fun x y => .tuple [x, y]) xs ys))
    | _, _ => none
end


inductive Out where
  | nx (ρ : Env)
  | rt (fr : Bool) (d : D)
  | bk (ρ : Env)
  | ct (ρ : Env)
def forGo (f : D → Env → Option Out) : List D → Env → Option Out
  | [], ρ => some (.nx ρ)
  | d :: ds, ρ => match f d ρ with
    | some (.nx ρ') => forGo f ds ρ'
    | some (.ct ρ') => forGo f ds ρ'
    | some (.bk ρ') => some (.nx ρ')
    | some (.rt fr x) => some (.rt fr x)
    | none => none
def whlGo (t : Env → Option D) (f : Env → Option Out) (ρ : Env) : Option Out :=
  match t ρ with
  | some (.bool true) => match f ρ with
    | some (.nx ρ') => whlGo t f ρ'
    | some (.ct ρ') => whlGo t f ρ'
    | some (.bk ρ') => some (.nx ρ')
    | some (.rt fr x) => some (.rt fr x)
    | none => none
  | some (.bool false) => some (.nx ρ)
  | _ => none
partial_fixpoint

mutual
/-- the variable that an expression is, given away -/
def dem : Env → XE → Env
  | ρ, .var i => match ρ[i]? with
    | some (some (.own, d)) => ρ.set i (some (.shr, d))
    | _ => ρ
  | ρ, .tup as => demEs ρ as
  | ρ, .lst as => demEs ρ as
  | ρ, .bin _ a b => demN (demN ρ a) b
  | ρ, .not a => demN ρ a
  | ρ, .and a b => demN (demN ρ a) b
  | ρ, .or a b => demN (demN ρ a) b
  | ρ, .cmp _ a b => demN (demN ρ a) b
  | ρ, .call _ as => demNs ρ as
  | ρ, .bi _ as => demNs ρ as
  | ρ, _ => ρ
/-- what stands in a display is given away, too -/
def demEs : Env → XEs → Env
  | ρ, .nil => ρ
  | ρ, .cons a as => demEs (dem ρ a) as
/-- the displays within -/
def demN : Env → XE → Env
  | ρ, .tup as => demEs ρ as
  | ρ, .lst as => demEs ρ as
  | ρ, .bin _ a b => demN (demN ρ a) b
  | ρ, .not a => demN ρ a
  | ρ, .and a b => demN (demN ρ a) b
  | ρ, .or a b => demN (demN ρ a) b
  | ρ, .cmp _ a b => demN (demN ρ a) b
  | ρ, .call _ as => demNs ρ as
  | ρ, .bi _ as => demNs ρ as
  | ρ, _ => ρ
def demNs : Env → XEs → Env
  | ρ, .nil => ρ
  | ρ, .cons a as => demNs (demN ρ a) as
end
def demI (ρ : Env) : XI → Env
  | .seq a => dem ρ a
  | .rng _ => ρ
  | .zip a b => dem (dem ρ a) b
  | .enu a => dem ρ a
  | .enz a b => dem (dem ρ a) b
def staE (Γ : Tab) (ρ : Env) (d : D) (e : XE) : Sta :=
  match e with
  | .var i => match ρ[i]? with
    | some (some (.arg, _)) => .arg
    | _ => .shr
  | e => if isList d && frE Γ e then .own else .shr
def remD (d : D) (ds : List D) : Option (List D) := if SeqAt.shaped (.list ds) && SeqAt.shaped d then (plD d ds).map fun j => ds.eraseIdx j else none

mutual
def ex (Γ : Tab) : XS → Env → Option Out
  | .asg (.nm i) e, ρ0 =>
    let ρ := dem ρ0 e
    match ev Γ e ρ with
    | some d => if i < ρ.length then some (.nx (ρ.set i (some (staE Γ ρ d e, d)))) else none
    | none => none
  | .asg (.tp js) e, ρ => match ev Γ e ρ with
    | some d => (setT ρ (.tp js) d).map .nx
    | none => none
  | .par js as, ρ => match evs Γ as ρ with
    | some ds => if sfEs ρ as ∧ ds.length ≤ lim then (setAll ρ js ds).map .nx else none
    | none => none
  | .setx (.var i) k e, ρ0 =>
    let ρ := dem ρ0 e
    match ev Γ e ρ, ownL ρ i, ev Γ k ρ with
    | some d, some ds, some (.int j) => match ixN ds.length j with
      | some m => if sfE ρ e then some (.nx (ρ.set i (some (.own, .list (ds.set m d))))) else none
      | none => none
    | _, _, _ => none
  | .swp (.var i) k1 (.var i') k2 e1 e2, ρ => if i = i' then (match ev Γ e1 ρ, ev Γ e2 ρ, ownL ρ i, ev Γ k1 ρ with
    | some d1, some d2, some ds, some (.int j1) => match ixN ds.length j1 with
      | some m1 => if sfE ρ e1 && sfE ρ e2 then match ev Γ k2 (ρ.set i (some (.own, .list (ds.set m1 d1)))) with
          | some (.int j2) => match ixN ds.length j2 with
            | some m2 => some (.nx (ρ.set i (some (.own, .list ((ds.set m1 d1).set m2 d2)))))
            | none => none
          | _ => none else none
      | none => none
    | _, _, _, _ => none) else none
  | .aug i op e, ρ => match ρ[i]?, ev Γ e ρ with
    | some (some (_, .int a)), some (.int b) => match op with
      | .Add => some (.nx (ρ.set i (some (.shr, .int (a + b)))))
      | .Sub => some (.nx (ρ.set i (some (.shr, .int (a - b)))))
      | _ => none
    | _, _ => none
  | .app (.var i) e, ρ0 =>
    let ρ := dem ρ0 e
    match ownL ρ i, ev Γ e ρ with
    | some ds, some d => if sfE ρ e ∧ ds.length < lim then some (.nx (ρ.set i (some (.own, .list (ds ++ [d]))))) else none
    | _, _ => none
  | .ins (.var i) k e, ρ0 =>
    let ρ := dem ρ0 e
    match ownL ρ i, ev Γ k ρ, ev Γ e ρ with
    | some ds, some (.int j), some d => if sfE ρ e ∧ ds.length < lim ∧ 0 ≤ j ∧ j < 1000000 then some (.nx (ρ.set i (some (.own, .list (ds.take j.toNat ++ [d] ++ ds.drop j.toNat))))) else none
    | _, _, _ => none
  | .pop i (.var j) k, ρ => match ownL ρ j, ev Γ k ρ with
    | some ds, some (.int m) => if 0 ≤ m ∧ i ≠ j ∧ i < ρ.length then match ds[m.toNat]? with
        | some d => some (.nx ((ρ.set j (some (.own, .list (ds.eraseIdx m.toNat)))).set i (some (.shr, d))))
        | none => none else none
    | _, _ => none
  | .rem (.var i) e, ρ => match ownL ρ i, ev Γ e ρ with
    | some ds, some d => match remD d ds with
      | some r => some (.nx (ρ.set i (some (.own, .list r))))
      | none => none
    | _, _ => none
  | .ret e, ρ0 =>
    let ρ := dem ρ0 e
    match ev Γ e ρ with
    | some d => if sfE ρ e then some (.rt (frE Γ e || isOwn ρ0 e) d) else none
    | none => none
  | .ife c a b, ρ0 =>
    let ρ := dem ρ0 c
    match ev Γ c ρ with
    | some (.bool true) => exs Γ a ρ
    | some (.bool false) => exs Γ b ρ
    | _ => none
  | .whl c b, ρ => whlGo (ev Γ c) (exs Γ b) ρ
  | .for tg it b, ρ0 =>
    let ρ := demI ρ0 it
    match evi Γ it ρ with
    | some ds => forGo (fun d ρ => match setT ρ tg d with
        | some ρ1 => exs Γ b ρ1
        | none => none) ds ρ
    | none => none
  | .strs i a, ρ => match ev Γ a ρ with
    | some (.int n) => if i < ρ.length ∧ n.natAbs.log2 < 1920 then some (.nx (ρ.set i (some (.shr, .str (toString n))))) else none
    | some (.tuple [.int p, .int q]) => if i < ρ.length ∧ p.natAbs.log2 < 1000 ∧ q.natAbs.log2 < 1000 then some (.nx (ρ.set i none)) else none
    | _ => none
  | .cont, ρ => some (.ct ρ)
  | .brk, ρ => some (.bk ρ)
  | .pass, ρ => some (.nx ρ)
  | .exp e, ρ => match ev Γ e ρ with
    | some _ => some (.nx ρ)
    | none => none
  | _, _ => none
def exs (Γ : Tab) : XSs → Env → Option Out
  | .nil, ρ => some (.nx ρ)
  | .cons s ss, ρ => match ex Γ s ρ with
    | some (.nx ρ') => exs Γ ss ρ'
    | o => o
end
def startE (ls : Bool) (n : Nat) (ds : List D) : Env := ds.map (fun d => some (if ls || !isList d then .shr else .arg, d)) ++ List.replicate (n - ds.length) none
end VI
set_option Elab.async false
set_option linter.all false
set_option maxRecDepth 100000
set_option maxHeartbeats 1000000
namespace VI
open PySem PySem.Spec PyProof.Rows L2

abbrev Hq := Nat → Option (List W)
def gt (A : AH) : Hq := fun n => A[n]?
def Sm (G G' : Hq) : Prop := ∀ (n : Nat) (ws : List W), G n = some ws → G' n = some ws
theorem Sm.refl (G : Hq) : Sm G G := fun _ _ h => h
theorem Sm.trans {G G1 G2 : Hq} (e : Sm G G1) (f : Sm G1 G2) : Sm G G2 := fun n ws h => f n ws (e n ws h)
theorem Sm.free {G G' : Hq} (e : Sm G G') {n : Nat} (h : G' n = none) : G n = none := by
  cases q : G n with
  | none => rfl
  | some ws => rw [e n ws q] at h; cases h
theorem gt_len {A : AH} : gt A A.length = none := List.getElem?_eq_none (Nat.le_refl _)
theorem sm_new {A : AH} {ws : List W} : Sm (gt A) (gt (A ++ [ws])) := fun n us h => by
  unfold gt at h ⊢
  rw [List.getElem?_append_left (List.getElem?_eq_some_iff.mp h).1]
  exact h
theorem gt_new {A : AH} {ws : List W} : gt (A ++ [ws]) A.length = some ws := by
  unfold gt
  rw [List.getElem?_append_right (Nat.le_refl _), Nat.sub_self]
  rfl
mutual
inductive Rp (B : Nat → Prop) (H : Hq) : W → D → Prop
  | non : Rp B H .non .none
  | bl (b : Bool) : Rp B H (.bl b) (.bool b)
  | int (i : Int) : Rp B H (.int i) (.int i)
  | str (x : Str) : Rp B H (.str x) (.str x)
  | lst {a : Nat} {vs : List W} {ds : List D} : H a = some vs → ¬ B a → vs.length ≤ lim → RpAll B H vs ds → Rp B H (.ref a) (.list ds)
  | tup {vs : List W} {ds : List D} : vs.length ≤ lim → RpAll B H vs ds → Rp B H (.tup vs) (.tuple ds)
inductive RpAll (B : Nat → Prop) (H : Hq) : List W → List D → Prop
  | nil : RpAll B H [] []
  | cons {v : W} {vs : List W} {d : D} {ds : List D} : Rp B H v d → RpAll B H vs ds → RpAll B H (v :: vs) (d :: ds)
end
section
variable {B B' : Nat → Prop} {H H' : Hq}
mutual
theorem Rp.tr (k : ∀ a o, H a = some o → ¬ B a → H' a = some o ∧ ¬ B' a) : ∀ {v : W} {d : D}, Rp B H v d → Rp B' H' v d
  | _, _, .non => .non
  | _, _, .bl b => .bl b
  | _, _, .int i => .int i
  | _, _, .str x => .str x
  | _, _, .lst h n l r => .lst (k _ _ h n).1 (k _ _ h n).2 l (RpAll.tr k r)
  | _, _, .tup l r => .tup l (RpAll.tr k r)
theorem RpAll.tr (k : ∀ a o, H a = some o → ¬ B a → H' a = some o ∧ ¬ B' a) : ∀ {vs : List W} {ds : List D}, RpAll B H vs ds → RpAll B' H' vs ds
  | _, _, .nil => .nil
  | _, _, .cons h r => .cons (Rp.tr k h) (RpAll.tr k r)
end
theorem Rp.mono (e : Sm H H') {v : W} {d : D} (h : Rp B H v d) : Rp B H' v d := h.tr fun a o q n => ⟨e a o q, n⟩
theorem RpAll.mono (e : Sm H H') {v : List W} {d : List D} (h : RpAll B H v d) : RpAll B H' v d := h.tr fun a o q n => ⟨e a o q, n⟩
theorem Rp.less (e : ∀ a, B' a → B a) {v : W} {d : D} (h : Rp B H v d) : Rp B' H v d := h.tr fun a o q n => ⟨q, fun z => n (e a z)⟩
theorem RpAll.less (e : ∀ a, B' a → B a) {v : List W} {d : List D} (h : RpAll B H v d) : RpAll B' H v d := h.tr fun a o q n => ⟨q, fun z => n (e a z)⟩
theorem RpAll.len : ∀ {vs : List W} {ds : List D}, RpAll B H vs ds → vs.length = ds.length
  | _, _, .nil => rfl
  | _, _, .cons _ r => by simp [RpAll.len r]
theorem RpAll.get : ∀ {vs : List W} {ds : List D} {i : Nat} {d : D}, RpAll B H vs ds → ds[i]? = some d → ∃ v, vs[i]? = some v ∧ Rp B H v d
  | _, _, 0, _, .cons h _, e => by simp at e; subst e; exact ⟨_, rfl, h⟩
  | _, _, i + 1, _, .cons _ r, e => by
    obtain ⟨v, h1, h2⟩ := RpAll.get (i := i) r (by simpa using e)
    exact ⟨v, by simpa using h1, h2⟩
theorem RpAll.app : ∀ {vs ws : List W} {ds es : List D}, RpAll B H vs ds → RpAll B H ws es → RpAll B H (vs ++ ws) (ds ++ es)
  | _, _, _, _, .nil, s => s
  | _, _, _, _, .cons h r, s => .cons h (RpAll.app r s)
theorem RpAll.take : ∀ {vs : List W} {ds : List D} (n : Nat), RpAll B H vs ds → RpAll B H (vs.take n) (ds.take n)
  | _, _, 0, _ => by simp; exact .nil
  | _, _, _ + 1, .nil => .nil
  | _, _, n + 1, .cons h r => .cons h (RpAll.take n r)
theorem RpAll.drop : ∀ {vs : List W} {ds : List D} (n : Nat), RpAll B H vs ds → RpAll B H (vs.drop n) (ds.drop n)
  | _, _, 0, r => r
  | _, _, _ + 1, .nil => .nil
  | _, _, n + 1, .cons _ r => RpAll.drop n r
theorem RpAll.set : ∀ {vs : List W} {ds : List D} {v : W} {d : D} (n : Nat), RpAll B H vs ds → Rp B H v d → RpAll B H (vs.set n v) (ds.set n d)
  | _, _, _, _, 0, .nil, _ => .nil
  | _, _, _, _, 0, .cons _ r, h => .cons h r
  | _, _, _, _, _ + 1, .nil, _ => .nil
  | _, _, _, _, n + 1, .cons g r, h => .cons g (RpAll.set n r h)
theorem RpAll.erase : ∀ {vs : List W} {ds : List D} (n : Nat), RpAll B H vs ds → RpAll B H (vs.eraseIdx n) (ds.eraseIdx n)
  | _, _, _, .nil => by simp; exact .nil
  | _, _, 0, .cons _ r => r
  | _, _, n + 1, .cons h r => .cons h (RpAll.erase n r)
theorem RpAll.ints : ∀ {vs : List W} {ds : List D} {ns : List Int}, RpAll B H vs ds → intsOf ds = some ns → vs = ns.map W.int
  | _, _, _, .nil, e => by simp [intsOf] at e; subst e; rfl
  | _, _, _, .cons (.int i) r, e => by
    simp only [intsOf, Option.map_eq_some_iff] at e
    obtain ⟨ns, e1, rfl⟩ := e
    simp [RpAll.ints r e1]
  | _, _, _, .cons .non _, e => by simp [intsOf] at e
  | _, _, _, .cons (.bl _) _, e => by simp [intsOf] at e
  | _, _, _, .cons (.str _) _, e => by simp [intsOf] at e
  | _, _, _, .cons (.lst _ _ _ _) _, e => by simp [intsOf] at e
  | _, _, _, .cons (.tup _ _) _, e => by simp [intsOf] at e
theorem RpAll.bls : ∀ {vs : List W} {ds : List D} {ns : List Bool}, RpAll B H vs ds → blsOf ds = some ns → vs = ns.map W.bl
  | _, _, _, .nil, e => by simp [blsOf] at e; subst e; rfl
  | _, _, _, .cons (.bl i) r, e => by
    simp only [blsOf, Option.map_eq_some_iff] at e
    obtain ⟨ns, e1, rfl⟩ := e
    simp [RpAll.bls r e1]
  | _, _, _, .cons .non _, e => by simp [blsOf] at e
  | _, _, _, .cons (.int _) _, e => by simp [blsOf] at e
  | _, _, _, .cons (.str _) _, e => by simp [blsOf] at e
  | _, _, _, .cons (.lst _ _ _ _) _, e => by simp [blsOf] at e
  | _, _, _, .cons (.tup _ _) _, e => by simp [blsOf] at e
theorem rpAll_ints : ∀ {ns : List Int}, RpAll B H (ns.map W.int) (ns.map PyData.int)
  | [] => .nil
  | i :: r => .cons (.int i) rpAll_ints
theorem intsW_map : ∀ ns : List Int, intsW (ns.map W.int) = some ns
  | [] => rfl
  | i :: r => by simp [intsW, intsW_map r]
theorem blsW_map : ∀ ns : List Bool, blsW (ns.map W.bl) = some ns
  | [] => rfl
  | i :: r => by simp [blsW, blsW_map r]
mutual
theorem Rp.den {A : AH} : ∀ {v : W} {d : D}, Rp B (gt A) v d → Den A v d
  | _, _, .non => .non
  | _, _, .bl b => .bl b
  | _, _, .int i => .int i
  | _, _, .str x => .str x
  | _, _, .lst h _ _ r => .lst h (RpAll.den r)
  | _, _, .tup _ r => .tup (RpAll.den r)
theorem RpAll.den {A : AH} : ∀ {vs : List W} {ds : List D}, RpAll B (gt A) vs ds → DenL A vs ds
  | _, _, .nil => .nil
  | _, _, .cons h r => .cons (Rp.den h) (RpAll.den r)
end
def Rt (B : Nat → Prop) (H : Hq) (v : W) : D → Prop
  | .list ds => ∃ a vs, v = .ref a ∧ H a = some vs ∧ vs.length ≤ lim ∧ RpAll B H vs ds
  | d => Rp B H v d
theorem Rp.rt {v : W} {d : D} (h : Rp B H v d) : Rt B H v d := by
  cases h with
  | lst h n l r => exact ⟨_, _, rfl, h, l, r⟩
  | non => exact .non
  | bl b => exact .bl b
  | int i => exact .int i
  | str x => exact .str x
  | tup l r => exact .tup l r
theorem Rt.rp {v : W} {d : D} (h : Rt B H v d) (n : isList d = false) : Rp B H v d := by
  cases d with
  | list ds => cases n
  | _ => exact h
theorem Rt.tr (k : ∀ a o, H a = some o → ¬ B a → H' a = some o ∧ ¬ B' a) (k2 : ∀ a vs, H a = some vs → H' a = some vs) {v : W} {d : D} (h : Rt B H v d) : Rt B' H' v d := by
  cases d with
  | list ds =>
    obtain ⟨a, vs, rfl, h1, h2, h3⟩ := h
    exact ⟨a, vs, rfl, k2 _ _ h1, h2, h3.tr k⟩
  | _ => exact Rp.tr k h
theorem Rt.mono (e : Sm H H') {v : W} {d : D} (h : Rt B H v d) : Rt B H' v d := h.tr (fun a o q n => ⟨e a o q, n⟩) fun a vs q => e a _ q
theorem Rt.less (e : ∀ a, B' a → B a) {v : W} {d : D} (h : Rt B H v d) : Rt B' H v d := h.tr (fun a o q n => ⟨q, fun z => n (e a z)⟩) fun _ _ q => q
theorem Rt.den {A : AH} {v : W} {d : D} (h : Rt B (gt A) v d) : Den A v d := by
  cases d with
  | list ds =>
    obtain ⟨a, vs, rfl, h1, h2, h3⟩ := h
    exact .lst h1 h3.den
  | _ => exact Rp.den h
theorem Rt.int {v : W} {i : Int} (h : Rt B H v (.int i)) : v = .int i := by cases (show Rp B H v (.int i) from h); rfl
theorem Rt.bool {v : W} {i : Bool} (h : Rt B H v (.bool i)) : v = .bl i := by cases (show Rp B H v (.bool i) from h); rfl
theorem Rt.non {v : W} (h : Rt B H v .none) : v = .non := by cases (show Rp B H v .none from h); rfl
theorem Rt.str {v : W} {x : Str} (h : Rt B H v (.str x)) : v = .str x := by cases (show Rp B H v (.str x) from h); rfl
theorem Rt.tup {v : W} {ds : List D} (h : Rt B H v (.tuple ds)) : ∃ vs, v = .tup vs ∧ vs.length ≤ lim ∧ RpAll B H vs ds := by
  cases (show Rp B H v (.tuple ds) from h) with
  | tup l r => exact ⟨_, rfl, l, r⟩
def RtAll (B : Nat → Prop) (H : Hq) : List W → List D → Prop
  | [], [] => True
  | v :: vs, d :: ds => Rt B H v d ∧ RtAll B H vs ds
  | _, _ => False
theorem RtAll.mono (e : Sm H H') : ∀ {vs : List W} {ds : List D}, RtAll B H vs ds → RtAll B H' vs ds
  | [], [], _ => trivial
  | _ :: _, _ :: _, ⟨h, r⟩ => ⟨h.mono e, RtAll.mono e r⟩
theorem RtAll.less (e : ∀ a, B' a → B a) : ∀ {vs : List W} {ds : List D}, RtAll B H vs ds → RtAll B' H vs ds
  | [], [], _ => trivial
  | _ :: _, _ :: _, ⟨h, r⟩ => ⟨h.less e, RtAll.less e r⟩
theorem RpAll.rt : ∀ {vs : List W} {ds : List D}, RpAll B H vs ds → RtAll B H vs ds
  | _, _, .nil => trivial
  | _, _, .cons h r => ⟨h.rt, RpAll.rt r⟩
theorem RtAll.len : ∀ {vs : List W} {ds : List D}, RtAll B H vs ds → vs.length = ds.length
  | [], [], _ => rfl
  | _ :: _, _ :: _, ⟨_, r⟩ => by simp [RtAll.len r]
theorem RtAll.one {vs : List W} {d : D} (h : RtAll B H vs [d]) : ∃ v, vs = [v] ∧ Rt B H v d := by
  match vs, h with
  | [v], ⟨h, _⟩ => exact ⟨v, rfl, h⟩
theorem RtAll.two {vs : List W} {d e : D} (h : RtAll B H vs [d, e]) : ∃ v w, vs = [v, w] ∧ Rt B H v d ∧ Rt B H w e := by
  match vs, h with
  | [v, w], ⟨h, h2, _⟩ => exact ⟨v, w, rfl, h, h2⟩
theorem RtAll.three {vs : List W} {d e f : D} (h : RtAll B H vs [d, e, f]) : ∃ v w u, vs = [v, w, u] ∧ Rt B H v d ∧ Rt B H w e ∧ Rt B H u f := by
  match vs, h with
  | [v, w, u], ⟨h, h2, h3, _⟩ => exact ⟨v, w, u, rfl, h, h2, h3⟩
theorem RpAll.new {a : Nat} (n : H a = none) {vs : List W} {ds : List D} (h : RpAll B H vs ds) : RpAll (fun q => B q ∨ q = a) H vs ds :=
  h.tr fun b o q nb => ⟨q, fun z => z.elim nb fun e => by rw [e, n] at q; cases q⟩
theorem Rp.top {p : Nat} {d : D} (h : Rp B H (.ref p) d) : ¬ B p := by
  cases h with
  | lst _ n _ _ => exact n
theorem Rt.there {a : Nat} {d : D} (h : Rt B H (.ref a) d) : H a ≠ none := by
  cases d with
  | list ds => obtain ⟨q, vs, e, g, _⟩ := h; cases e; rw [g]; exact fun z => nomatch z
  | _ => cases (show Rp _ _ _ _ from h)
end
def Own (ρ : Env) (σ : HEnv) (p : Nat) : Prop := ∃ (i : Nat) (d : D), ρ[i]? = some (some (Sta.own, d)) ∧ σ[i]? = some (some (W.ref p))
def Bad (B : Nat → Prop) (ρ : Env) (σ : HEnv) (p : Nat) : Prop := B p ∨ Own ρ σ p
structure VE (H0 : Hq) (B0 : Nat → Prop) (ρ : Env) (σ : HEnv) (H : Hq) : Prop where
  ext : Sm H0 H
  bad : ∀ p, B0 p → H0 p ≠ none
  len : σ.length = ρ.length
  shr : ∀ (i : Nat) (d : D), ρ[i]? = some (some (Sta.shr, d)) → ∃ v, σ[i]? = some (some v) ∧ Rp (Bad B0 ρ σ) H v d
  arg : ∀ (i : Nat) (d : D), ρ[i]? = some (some (Sta.arg, d)) → ∃ v, σ[i]? = some (some v) ∧ Rt (Bad B0 ρ σ) H v d ∧ ∀ p, v = .ref p → ¬ Own ρ σ p
  own : ∀ (i : Nat) (d : D), ρ[i]? = some (some (Sta.own, d)) → ∃ p vs ds, d = .list ds ∧ σ[i]? = some (some (.ref p)) ∧ H p = some vs ∧ vs.length ≤ lim ∧ H0 p = none ∧ RpAll (Bad B0 ρ σ) H vs ds
  dist : ∀ (i j : Nat) (d e : D) (p : Nat), ρ[i]? = some (some (Sta.own, d)) → ρ[j]? = some (some (Sta.own, e)) → σ[i]? = some (some (W.ref p)) → σ[j]? = some (some (W.ref p)) → i = j
section
variable {H0 H H' : Hq} {B0 : Nat → Prop} {ρ : Env} {σ : HEnv}
theorem VE.mono (re : VE H0 B0 ρ σ H) (e : Sm H H') : VE H0 B0 ρ σ H' :=
  ⟨re.ext.trans e, re.bad, re.len, fun i d h => let ⟨v, a, b⟩ := re.shr i d h; ⟨v, a, b.mono e⟩, fun i d h => let ⟨v, a, b, n⟩ := re.arg i d h; ⟨v, a, b.mono e, n⟩,
    fun i d h => let ⟨p, vs, ds, a, b, c, l, n, r⟩ := re.own i d h; ⟨p, vs, ds, a, b, e _ _ c, l, n, r.mono e⟩, re.dist⟩
theorem VE.badL (re : VE H0 B0 ρ σ H) {p : Nat} (h : Bad B0 ρ σ p) : H p ≠ none := by
  rcases h with h | ⟨i, d, h1, h2⟩
  · exact fun z => re.bad p h (re.ext.free z)
  · obtain ⟨q, vs, ds, _, e, c, _⟩ := re.own i d h1
    rw [h2] at e
    cases e
    rw [c]
    exact fun z => nomatch z
theorem VE.get (re : VE H0 B0 ρ σ H) {i : Nat} {s : Sta} {d : D} (h : ρ[i]? = some (some (s, d))) :
    ∃ v, σ[i]? = some (some v) ∧ Rt (Bad B0 ρ σ) H v d ∧ ((s == .shr || !isList d) = true → Rp (Bad B0 ρ σ) H v d) ∧ (isOwn ρ (.var i) = false → ∀ p, v = .ref p → ¬ Own ρ σ p) := by
  cases s with
  | shr =>
    obtain ⟨v, a, b⟩ := re.shr i d h
    exact ⟨v, a, b.rt, fun _ => b, fun _ p e z => by subst e; exact b.top (.inr z)⟩
  | arg =>
    obtain ⟨v, a, b, n⟩ := re.arg i d h
    exact ⟨v, a, b, fun z => b.rp (by simpa using z), fun _ => n⟩
  | own =>
    obtain ⟨p, vs, ds, rfl, b, c, l, n, r⟩ := re.own i d h
    exact ⟨_, b, ⟨p, vs, rfl, c, l, r⟩, fun z => by simp [isList] at z, fun z => by simp [isOwn, ownL, h] at z⟩
end
structure ResE (B O : Nat → Prop) (H H' : Hq) (fr sf ow : Bool) (v : W) (d : D) : Prop where
  rt : Rt B H' v d
  rp : sf = true → Rp B H' v d
  no : ow = false → ∀ p, v = .ref p → ¬ O p
  fr : fr = true → ∀ ds, d = .list ds → ∃ a vs, v = .ref a ∧ H a = none ∧ H' a = some vs ∧ vs.length ≤ lim ∧ RpAll (fun q => B q ∨ q = a) H' vs ds
structure BO (B O : Nat → Prop) (H : Hq) : Prop where
  there : ∀ p, B p → H p ≠ none
  sub : ∀ p, O p → B p
theorem BO.mono {B O : Nat → Prop} {H H' : Hq} (b : BO B O H) (e : Sm H H') : BO B O H' := ⟨fun p h z => b.there p h (e.free z), b.sub⟩
section
variable {B O : Nat → Prop} {H H1 H' : Hq} {v : W} {d : D} {f s w : Bool}
theorem ResE.back (e : Sm H H1) (r : ResE B O H1 H' f s w v d) : ResE B O H H' f s w v d :=
  ⟨r.rt, r.rp, r.no, fun h ds q => let ⟨a, vs, x, n, y⟩ := r.fr h ds q; ⟨a, vs, x, e.free n, y⟩⟩
theorem ResE.of (b : BO B O H) (r : Rp B H' v d) (n : isList d = false) : ResE B O H H' f s w v d :=
  ⟨r.rt, fun _ => r, fun _ p e z => by subst e; exact r.top (b.sub p z), fun _ ds e => by rw [e] at n; cases n⟩
theorem ResE.sh (b : BO B O H) (r : Rp B H' v d) : ResE B O H H' false s w v d := ⟨r.rt, fun _ => r, fun _ p e z => by subst e; exact r.top (b.sub p z), fun e => by cases e⟩
theorem ResE.new {A : AH} {vs : List W} {ds : List D} (b : BO B O (gt A)) (l : vs.length ≤ lim) (r : RpAll B (gt A) vs ds) : ResE B O (gt A) (gt (A ++ [vs])) f s w (.ref A.length) (.list ds) := by
  have e : Sm (gt A) (gt (A ++ [vs])) := sm_new
  have n : gt A A.length = none := gt_len
  have r' : RpAll (fun q => B q ∨ q = A.length) (gt (A ++ [vs])) vs ds := (r.new n).mono e
  exact ⟨⟨_, vs, rfl, gt_new, l, r.mono e⟩, fun _ => .lst gt_new (fun z => b.there _ z n) l (r.mono e), fun _ p e z => by cases e; exact b.there _ (b.sub _ z) n, fun _ ds' e' => by cases e'; exact ⟨_, vs, rfl, n, gt_new, l, r'⟩⟩
end
theorem VE.hB {H0 H : Hq} {B0 : Nat → Prop} {ρ : Env} {σ : HEnv} (re : VE H0 B0 ρ σ H) : BO (Bad B0 ρ σ) (Own ρ σ) H := ⟨fun p h => re.badL h, fun p h => .inr h⟩
theorem newL_ok {ws : List W} {A : AH} (l : ws.length ≤ lim) : newL ws A = some (.ref A.length, A ++ [ws]) := by
  unfold newL
  rw [if_pos l]
end VI
set_option Elab.async false
set_option linter.all false
set_option maxRecDepth 100000
set_option maxHeartbeats 1000000
namespace VI
open PySem PySem.Spec PyProof.Rows L2

structure FV (φ : Fun) (sg : Sig) : Prop where
  ok : ∀ (A : AH) (B : Nat → Prop) (ws : List W) (ds : List D) (d : D), (∀ p, B p → gt A p ≠ none) → RtAll B (gt A) ws ds → (sg.ls = true → RpAll B (gt A) ws ds) → ds.length = sg.ar → sg.φ ds = some d →
    ∃ w A', φ ws A = some (w, A') ∧ Sm (gt A) (gt A') ∧ Rp B (gt A') w d ∧ (sg.fr = true → ∀ es, d = .list es → ∃ a us, w = .ref a ∧ gt A a = none ∧ gt A' a = some us ∧ us.length ≤ lim ∧ RpAll (fun q => B q ∨ q = a) (gt A') us es)
def TabOk (Γ : Tab) (Φ : Fns) : Prop := ∀ f sg, Γ f = some sg → ∃ φ, Φ f = some φ ∧ FV φ sg
def SE (Γ : Tab) (Φ : Fns) (e : XE) : Prop := ∀ (H0 : Hq) (B0 : Nat → Prop) (ρ : Env) (σ : HEnv) (A : AH) (d : D), VE H0 B0 ρ σ (gt A) → ev Γ e ρ = some d →
  ∃ w A', evH Φ e σ A = some (w, A') ∧ Sm (gt A) (gt A') ∧ ResE (Bad B0 ρ σ) (Own ρ σ) (gt A) (gt A') (frE Γ e) (sfE ρ e) (isOwn ρ e) w d
def SEs (Γ : Tab) (Φ : Fns) (as : XEs) : Prop := ∀ (H0 : Hq) (B0 : Nat → Prop) (ρ : Env) (σ : HEnv) (A : AH) (ds : List D), VE H0 B0 ρ σ (gt A) → evs Γ as ρ = some ds →
  ∃ ws A', evsH Φ as σ A = some (ws, A') ∧ Sm (gt A) (gt A') ∧ RtAll (Bad B0 ρ σ) (gt A') ws ds ∧ (sfEs ρ as = true → RpAll (Bad B0 ρ σ) (gt A') ws ds)
def SI (Γ : Tab) (Φ : Fns) (it : XI) : Prop := ∀ (H0 : Hq) (B0 : Nat → Prop) (ρ : Env) (σ : HEnv) (A : AH) (ds : List D), VE H0 B0 ρ σ (gt A) → evi Γ it ρ = some ds →
  ∃ ws g A', eviH Φ it σ A = some (ws, g, A') ∧ Sm (gt A) (gt A') ∧ RpAll (Bad B0 ρ σ) (gt A') ws ds ∧ ∀ p ∈ g, gt A' p.1 = some p.2 ∧ ¬ Own ρ σ p.1
section
variable {Γ : Tab} {Φ : Fns} {a b c : XE}
theorem se_var {i : Nat} : SE Γ Φ (.var i) := by
  intro H0 B0 ρ σ A d re e
  rw [ev] at e
  split at e
  · rename_i s d' h
    cases e
    obtain ⟨v, e1, r1, r2, r3⟩ := re.get h
    exact ⟨v, A, by rw [evH, e1], Sm.refl _, ⟨r1, fun z => r2 (by simpa [sfE, h] using z), r3, fun z => by simp [frE] at z⟩⟩
  · cases e
theorem se_cst {d : D} : SE Γ Φ (.cst d) := by
  intro H0 B0 ρ σ A d' re e
  rw [ev] at e
  split at e
  · rename_i h
    cases e
    cases d with
    | none => exact ⟨.non, A, by rw [evH]; rfl, Sm.refl _, .of re.hB .non rfl⟩
    | bool i => exact ⟨.bl i, A, by rw [evH]; rfl, Sm.refl _, .of re.hB (.bl i) rfl⟩
    | int i => exact ⟨.int i, A, by rw [evH]; rfl, Sm.refl _, .of re.hB (.int i) rfl⟩
    | str i => exact ⟨.str i, A, by rw [evH]; rfl, Sm.refl _, .of re.hB (.str i) rfl⟩
    | _ => cases h
  · cases e
theorem bin_ok {op : Operator} {B O : Nat → Prop} {A : AH} {v w : W} {x y d : D} {s z : Bool} {e' : XE} (hB : BO B O (gt A)) (r1 : Rt B (gt A) v x) (r2 : Rt B (gt A) w y) (e : binD op x y = some d) :
    ∃ u A', binW op v w A = some (u, A') ∧ Sm (gt A) (gt A') ∧ ResE B O (gt A) (gt A') (frE Γ (.bin op a b)) s z u d := by
  have int : ∀ (i j : Int) (k : Int), binI op i j = some k → x = .int i → y = .int j → d = .int k → ∃ u A', binW op v w A = some (u, A') ∧ Sm (gt A) (gt A') ∧ ResE B O (gt A) (gt A') (frE Γ (.bin op a b)) s z u d := by
    rintro i j k h rfl rfl rfl
    rw [r1.int, r2.int]
    exact ⟨.int k, A, by unfold binW; simp only [h]; rfl, Sm.refl _, .of hB (.int _) rfl⟩
  cases op <;> cases x <;> cases y <;> simp only [binD] at e <;> (try cases e)
  · exact int _ _ _ rfl rfl rfl rfl
  · split at e <;> cases e
    rename_i hl
    rw [r1.str, r2.str]
    exact ⟨.str _, A, by unfold binW; simp only [hl, if_true], Sm.refl _, .of hB (.str _) rfl⟩
  · split at e <;> cases e
    rename_i xs ys hl
    obtain ⟨p, vs, rfl, h1, l1, q1⟩ := r1
    obtain ⟨q, ws, rfl, h2, l2, q2⟩ := r2
    have l : (vs ++ ws).length ≤ lim := by rw [List.length_append, q1.len, q2.len]; exact hl
    have h1' : A[p]? = some vs := h1
    have h2' : A[q]? = some ws := h2
    exact ⟨_, _, by unfold binW; simp only [h1', h2']; exact newL_ok l, sm_new, .new hB l (q1.app q2)⟩
  · exact int _ _ _ rfl rfl rfl rfl
  all_goals (split at e <;> cases e)
  all_goals (refine int _ _ _ ?_ rfl rfl rfl; simp only [binI]; first | rw [if_pos ‹_›] | rw [if_neg ‹_›])
theorem se_bin {op : Operator} (ha : SE Γ Φ a) (hb : SE Γ Φ b) : SE Γ Φ (.bin op a b) := by
  intro H0 B0 ρ σ A d re e
  rw [ev] at e
  split at e
  · rename_i x y h1 h2
    obtain ⟨v, A1, p1, s1, r1⟩ := ha _ _ _ _ _ _ re h1
    obtain ⟨w, A2, p2, s2, r2⟩ := hb _ _ _ _ _ _ (re.mono s1) h2
    obtain ⟨u, A3, p3, s3, r3⟩ := bin_ok (Γ := Γ) (a := a) (b := b) (e' := a) ((re.mono s1).mono s2).hB (r1.rt.mono s2) r2.rt e
    exact ⟨u, A3, by rw [evH, p1]; simp only [p2]; exact p3, (s1.trans s2).trans s3, r3.back (s1.trans s2)⟩
  · cases e
theorem se_neg (ha : SE Γ Φ a) : SE Γ Φ (.neg a) := by
  intro H0 B0 ρ σ A d re e
  rw [ev] at e
  split at e
  · rename_i i h1
    cases e
    obtain ⟨v, A1, p1, s1, r1⟩ := ha _ _ _ _ _ _ re h1
    rw [r1.rt.int] at p1
    exact ⟨_, A1, by rw [evH, p1], s1, .of re.hB (.int _) rfl⟩
  · cases e
theorem se_not (ha : SE Γ Φ a) : SE Γ Φ (.not a) := by
  intro H0 B0 ρ σ A d re e
  rw [ev] at e
  split at e
  · rename_i i h1
    cases e
    obtain ⟨v, A1, p1, s1, r1⟩ := ha _ _ _ _ _ _ re h1
    rw [r1.rt.bool] at p1
    exact ⟨_, A1, by rw [evH, p1], s1, .of re.hB (.bl _) rfl⟩
  · cases e
theorem se_and (ha : SE Γ Φ a) (hb : SE Γ Φ b) : SE Γ Φ (.and a b) := by
  intro H0 B0 ρ σ A d re e
  rw [ev] at e
  split at e
  · rename_i h1
    obtain ⟨v, A1, p1, s1, r1⟩ := ha _ _ _ _ _ _ re h1
    rw [r1.rt.bool] at p1
    split at e
    · rename_i t h2
      cases e
      obtain ⟨w, A2, p2, s2, r2⟩ := hb _ _ _ _ _ _ (re.mono s1) h2
      rw [r2.rt.bool] at p2
      exact ⟨_, A2, by rw [evH, p1]; simp only [p2], s1.trans s2, .of re.hB (.bl _) rfl⟩
    · cases e
  · rename_i h1
    cases e
    obtain ⟨v, A1, p1, s1, r1⟩ := ha _ _ _ _ _ _ re h1
    rw [r1.rt.bool] at p1
    exact ⟨_, A1, by rw [evH, p1], s1, .of re.hB (.bl _) rfl⟩
  · cases e
theorem se_or (ha : SE Γ Φ a) (hb : SE Γ Φ b) : SE Γ Φ (.or a b) := by
  intro H0 B0 ρ σ A d re e
  rw [ev] at e
  split at e
  · rename_i h1
    obtain ⟨v, A1, p1, s1, r1⟩ := ha _ _ _ _ _ _ re h1
    rw [r1.rt.bool] at p1
    split at e
    · rename_i t h2
      cases e
      obtain ⟨w, A2, p2, s2, r2⟩ := hb _ _ _ _ _ _ (re.mono s1) h2
      rw [r2.rt.bool] at p2
      exact ⟨_, A2, by rw [evH, p1]; simp only [p2], s1.trans s2, .of re.hB (.bl _) rfl⟩
    · cases e
  · rename_i h1
    cases e
    obtain ⟨v, A1, p1, s1, r1⟩ := ha _ _ _ _ _ _ re h1
    rw [r1.rt.bool] at p1
    exact ⟨_, A1, by rw [evH, p1], s1, .of re.hB (.bl _) rfl⟩
  · cases e
theorem cmp_ok {op : CmpOp} {B : Nat → Prop} {A : AH} {v w : W} {x y : D} {k : Bool} (r1 : Rt B (gt A) v x) (r2 : Rt B (gt A) w y) (e : cmpD op x y = some k) : cmpW op v w A = some k := by
  have isn : ∀ {x : D} {v : W}, Rt B (gt A) v x → (match x with | .dict _ => False | _ => True) → ((match v with | .non => true | _ => false) = (match x with | .none => true | _ => false)) := by
    intro x v r n
    cases x with
    | none => rw [r.non]
    | bool b => rw [r.bool]
    | int i => rw [r.int]
    | str s => rw [r.str]
    | list ds => obtain ⟨p, vs, rfl, _⟩ := r; rfl
    | tuple ds => obtain ⟨vs, rfl, _⟩ := r.tup; rfl
    | _ => cases (show Rp _ _ _ _ from r)
  cases op with
  | Eq =>
    simp only [cmpD] at e
    split at e <;> cases e
    rename_i h
    simp only [cmpW, eqW, den_eq r1.den, den_eq r2.den, h, if_true]
  | NotEq =>
    simp only [cmpD] at e
    split at e <;> cases e
    rename_i h
    simp only [cmpW, eqW, den_eq r1.den, den_eq r2.den, h, if_true, Option.map_some]
  | Lt => cases x <;> cases y <;> simp only [cmpD] at e <;> cases e; rw [r1.int, r2.int]; rfl
  | LtE => cases x <;> cases y <;> simp only [cmpD] at e <;> cases e; rw [r1.int, r2.int]; rfl
  | Gt => cases x <;> cases y <;> simp only [cmpD] at e <;> cases e; rw [r1.int, r2.int]; rfl
  | GtE => cases x <;> cases y <;> simp only [cmpD] at e <;> cases e; rw [r1.int, r2.int]; rfl
  | In =>
    cases y with
    | list ys =>
      have d1 := r1.den
      have d2 := r2.den
      cases x with
      | int i =>
        simp only [cmpD] at e
        obtain ⟨ns, e1, rfl⟩ := Option.map_eq_some_iff.mp e
        obtain ⟨p, vs, rfl, h1, l1, q1⟩ := r2
        rw [q1.ints e1] at h1
        rw [r1.int]
        have h1' : A[p]? = some (ns.map W.int) := h1
        simp only [cmpW, h1', intsW_map, Option.map_some]
      | none =>
        simp only [cmpD] at e
        split at e <;> cases e
        rename_i h
        obtain ⟨p, vs, rfl, _⟩ := r2
        obtain rfl := r1.non
        simp only [cmpW, den_eq d1, den_eq d2, h, if_true]
      | bool b =>
        simp only [cmpD] at e
        split at e <;> cases e
        rename_i h
        obtain ⟨p, vs, rfl, _⟩ := r2
        obtain rfl := r1.bool
        simp only [cmpW, den_eq d1, den_eq d2, h, if_true]
      | str z =>
        simp only [cmpD] at e
        split at e <;> cases e
        rename_i h
        obtain ⟨p, vs, rfl, _⟩ := r2
        obtain rfl := r1.str
        simp only [cmpW, den_eq d1, den_eq d2, h, if_true]
      | list zs =>
        simp only [cmpD] at e
        split at e <;> cases e
        rename_i h
        obtain ⟨p, vs, rfl, _⟩ := r2
        obtain ⟨p', vs', rfl, _⟩ := r1
        simp only [cmpW, den_eq d1, den_eq d2, h, if_true]
      | tuple zs =>
        simp only [cmpD] at e
        split at e <;> cases e
        rename_i h
        obtain ⟨p, vs, rfl, _⟩ := r2
        obtain ⟨vs', rfl, _⟩ := r1.tup
        simp only [cmpW, den_eq d1, den_eq d2, h, if_true]
      | _ => cases (show Rp _ _ _ _ from r1)
    | str z =>
      cases x <;> simp only [cmpD] at e <;> try cases e
      obtain rfl := r1.str
      obtain rfl := r2.str
      simp only [cmpW, e]
    | _ => cases x <;> simp only [cmpD] at e <;> cases e
  | NotIn =>
    cases y with
    | list ys =>
      cases x <;> simp only [cmpD] at e <;> try cases e
      obtain ⟨ns, e1, rfl⟩ := Option.map_eq_some_iff.mp e
      obtain ⟨p, vs, rfl, h1, l1, q1⟩ := r2
      rw [q1.ints e1] at h1
      rw [r1.int]
      have h1' : A[p]? = some (ns.map W.int) := h1
      simp only [cmpW, h1', intsW_map, Option.map_some]
    | str z =>
      cases x <;> simp only [cmpD] at e <;> try cases e
      obtain rfl := r1.str
      obtain rfl := r2.str
      simp only [cmpW, e]
    | _ => cases x <;> simp only [cmpD] at e <;> cases e
  | Is =>
    cases y <;> try (simp only [cmpD] at e; cases e; done)
    rw [r2.non]
    cases x with
    | none => rw [r1.non]; cases e; rfl
    | bool b => rw [r1.bool]; cases e; rfl
    | int i => rw [r1.int]; cases e; rfl
    | str s => rw [r1.str]; cases e; rfl
    | list ds => obtain ⟨p, vs, rfl, _⟩ := r1; cases e; rfl
    | tuple ds => obtain ⟨vs, rfl, _⟩ := r1.tup; cases e; rfl
    | _ => cases (show Rp _ _ _ _ from r1)
  | IsNot =>
    cases y <;> try (simp only [cmpD] at e; cases e; done)
    rw [r2.non]
    cases x with
    | none => rw [r1.non]; cases e; rfl
    | bool b => rw [r1.bool]; cases e; rfl
    | int i => rw [r1.int]; cases e; rfl
    | str s => rw [r1.str]; cases e; rfl
    | list ds => obtain ⟨p, vs, rfl, _⟩ := r1; cases e; rfl
    | tuple ds => obtain ⟨vs, rfl, _⟩ := r1.tup; cases e; rfl
    | _ => cases (show Rp _ _ _ _ from r1)
theorem se_cmp {op : CmpOp} (ha : SE Γ Φ a) (hb : SE Γ Φ b) : SE Γ Φ (.cmp op a b) := by
  intro H0 B0 ρ σ A d re e
  rw [ev] at e
  split at e
  · rename_i x y h1 h2
    obtain ⟨k, e1, rfl⟩ := Option.map_eq_some_iff.mp e
    obtain ⟨v, A1, p1, s1, r1⟩ := ha _ _ _ _ _ _ re h1
    obtain ⟨w, A2, p2, s2, r2⟩ := hb _ _ _ _ _ _ (re.mono s1) h2
    exact ⟨.bl k, A2, by rw [evH, p1]; simp only [p2, cmp_ok (r1.rt.mono s2) r2.rt e1, Option.map_some], s1.trans s2, .of re.hB (.bl _) rfl⟩
  · cases e
theorem se_chn {op op' : CmpOp} (ha : SE Γ Φ a) (hb : SE Γ Φ b) (hc : SE Γ Φ c) : SE Γ Φ (.chn op op' a b c) := by
  intro H0 B0 ρ σ A d re e
  rw [ev] at e
  split at e
  · rename_i x y h1 h2
    obtain ⟨v, A1, p1, s1, r1⟩ := ha _ _ _ _ _ _ re h1
    obtain ⟨w, A2, p2, s2, r2⟩ := hb _ _ _ _ _ _ (re.mono s1) h2
    split at e
    · rename_i h3
      split at e
      · rename_i z h4
        obtain ⟨k, e1, rfl⟩ := Option.map_eq_some_iff.mp e
        obtain ⟨u, A3, p3, s3, r3⟩ := hc _ _ _ _ _ _ ((re.mono s1).mono s2) h4
        exact ⟨.bl k, A3, by rw [evH, p1]; simp only [p2, cmp_ok (r1.rt.mono s2) r2.rt h3, p3, cmp_ok (r2.rt.mono s3) r3.rt e1, Option.map_some], (s1.trans s2).trans s3, .of re.hB (.bl _) rfl⟩
      · cases e
    · rename_i h3
      cases e
      exact ⟨.bl false, A2, by rw [evH, p1]; simp only [p2, cmp_ok (r1.rt.mono s2) r2.rt h3], s1.trans s2, .of re.hB (.bl _) rfl⟩
    · cases e
  · cases e
theorem se_call {f : Str} {as : XEs} (T : TabOk Γ Φ) (ha : SEs Γ Φ as) : SE Γ Φ (.call f as) := by
  intro H0 B0 ρ σ A d re e
  rw [ev] at e
  split at e
  · rename_i sg ds h1 h2
    split at e
    · rename_i hh
      obtain ⟨ws, A1, p1, s1, r1, r2⟩ := ha _ _ _ _ _ _ re h2
      obtain ⟨φ, hφ, F⟩ := T f sg h1
      have re1 := re.mono s1
      obtain ⟨w, A2, p2, s2, r3, r4⟩ := F.ok A1 (Bad B0 ρ σ) ws ds d (fun p hp => re1.badL hp) r1 (fun z => r2 (hh.1 z)) hh.2 e
      refine ⟨w, A2, by rw [evH, hφ, p1]; exact p2, s1.trans s2, r3.rt, fun _ => r3, fun _ p e z => by subst e; exact r3.top (.inr z), fun z es ee => ?_⟩
      have hz : sg.fr = true := by simpa [frE, h1] using z
      obtain ⟨q, us, y1, y2, y3⟩ := r4 hz es ee
      exact ⟨q, us, y1, s1.free y2, y3⟩
    · cases e
  · cases e
theorem ses_nil : SEs Γ Φ .nil := by
  intro H0 B0 ρ σ A ds re e
  rw [evs] at e
  cases e
  exact ⟨[], A, by rw [evsH], Sm.refl _, trivial, fun _ => .nil⟩
theorem ses_cons {as : XEs} (ha : SE Γ Φ a) (hs : SEs Γ Φ as) : SEs Γ Φ (.cons a as) := by
  intro H0 B0 ρ σ A ds re e
  rw [evs] at e
  split at e
  · rename_i d ds' h1 h2
    cases e
    obtain ⟨w, A1, p1, s1, r1⟩ := ha _ _ _ _ _ _ re h1
    obtain ⟨ws, A2, p2, s2, r2, r3⟩ := hs _ _ _ _ _ _ (re.mono s1) h2
    refine ⟨w :: ws, A2, by rw [evsH, p1]; simp only [p2], s1.trans s2, ⟨r1.rt.mono s2, r2⟩, fun z => ?_⟩
    rw [sfEs, Bool.and_eq_true] at z
    exact .cons ((r1.rp z.1).mono s2) (r3 z.2)
  · cases e
theorem se_ix (ha : SE Γ Φ a) (hb : SE Γ Φ b) : SE Γ Φ (.ix a b) := by
  intro H0 B0 ρ σ A d re e
  rw [ev] at e
  split at e
  · rename_i x y h1 h2
    obtain ⟨v, A1, p1, s1, r1⟩ := ha _ _ _ _ _ _ re h1
    obtain ⟨w, A2, p2, s2, r2⟩ := hb _ _ _ _ _ _ (re.mono s1) h2
    have at_ : ∀ {B : Nat → Prop} {vs : List W} {ds : List D} {i : Int}, RpAll B (gt A2) vs ds → atI ds i = some d → ∃ u, atI vs i = some u ∧ Rp B (gt A2) u d := by
      intro B vs ds i r e
      unfold L2.atI at e ⊢
      rw [r.len]
      cases hj : L2.ixN ds.length i with
      | none => rw [hj] at e; cases e
      | some j =>
        rw [hj] at e
        exact r.get e
    have r1' := r1.rt.mono s2
    have hB := ((re.mono s1).mono s2).hB
    cases x <;> cases y <;> simp only [ixD] at e <;> try cases e
    · split at e
      · rename_i hl
        obtain ⟨c, e1, rfl⟩ := Option.map_eq_some_iff.mp e
        obtain rfl := r1.rt.str
        obtain rfl := r2.rt.int
        exact ⟨.str ⟨#[c]⟩, A2, by rw [evH, p1]; simp only [p2, ixW, hl, if_true, e1, Option.map_some], s1.trans s2, .of re.hB (.str _) rfl⟩
      · cases e
    · obtain ⟨p, vs, rfl, g1, l1, q1⟩ := r1'
      obtain ⟨u, e1, e2⟩ := at_ q1 e
      rw [r2.rt.int] at p2
      have g1' : A2[p]? = some vs := g1
      exact ⟨u, A2, by rw [evH, p1]; simp only [p2, ixW, g1', e1, Option.map_some], s1.trans s2, (ResE.sh hB e2).back (s1.trans s2)⟩
    · obtain ⟨vs, rfl, l1, q1⟩ := r1'.tup
      obtain ⟨u, e1, e2⟩ := at_ q1 e
      rw [r2.rt.int] at p2
      exact ⟨u, A2, by rw [evH, p1]; simp only [p2, ixW, e1, Option.map_some], s1.trans s2, (ResE.sh hB e2).back (s1.trans s2)⟩
  · cases e
theorem part_ok {B : Nat → Prop} {H : Hq} {t : Bool} {d : D} {w : W} {o : Option Int} (r : Rt B H w d) (e : partD t d = some o) : partW t w = some o := by
  cases t <;> cases d <;> simp only [partD] at e <;> cases e
  · rw [r.int]; rfl
  · rw [r.non]; rfl
theorem cut_len {α : Type} (xs : List α) (lo hi : Option Int) : (cutD xs lo hi).length ≤ xs.length := by
  unfold cutD
  rw [List.length_take, List.length_drop]
  omega
theorem cut_rp {B : Nat → Prop} {H : Hq} {vs : List W} {ds : List D} (h : RpAll B H vs ds) (lo hi : Option Int) : RpAll B H (cutD vs lo hi) (cutD ds lo hi) := by
  unfold cutD
  rw [h.len]
  exact (h.drop _).take _
theorem se_sl {lo hi : XE} (ha : SE Γ Φ a) (hl : SE Γ Φ lo) (hh : SE Γ Φ hi) : SE Γ Φ (.sl a lo hi) := by
  intro H0 B0 ρ σ A d re e
  rw [ev] at e
  split at e
  · rename_i x l h h1 h2 h3
    split at e
    · rename_i l2 h2' h4 h5
      obtain ⟨v, A1, p1, s1, r1⟩ := ha _ _ _ _ _ _ re h1
      obtain ⟨w, A2, p2, s2, r2⟩ := hl _ _ _ _ _ _ (re.mono s1) h2
      obtain ⟨u, A3, p3, s3, r3⟩ := hh _ _ _ _ _ _ ((re.mono s1).mono s2) h3
      have re3 := ((re.mono s1).mono s2).mono s3
      have r := (r1.rt.mono s2).mono s3
      cases x with
      | list xs =>
        simp only [slD] at e
        cases e
        obtain ⟨p, vs, rfl, g1, g2, g3⟩ := r
        have g1' : A3[p]? = some vs := g1
        have l : (cutD vs l2 h2').length ≤ lim := Nat.le_trans (cut_len _ _ _) g2
        exact ⟨_, _, by rw [evH, p1]; simp only [p2, p3, part_ok r2.rt h4, part_ok r3.rt h5, slW, g1', newL_ok l], ((s1.trans s2).trans s3).trans sm_new, (ResE.new re3.hB l (cut_rp g3 l2 h2')).back ((s1.trans s2).trans s3)⟩
      | tuple xs =>
        simp only [slD] at e
        split at e
        · cases e
        · rename_i nw
          cases e
          obtain ⟨vs, rfl, g2, g3⟩ := r.tup
          have hl := g3.len
          have l : (cutD vs l2 h2').length ≤ lim := Nat.le_trans (cut_len _ _ _) g2
          refine ⟨.tup (cutD vs l2 h2'), A3, ?_, (s1.trans s2).trans s3, (ResE.of re3.hB (.tup l (cut_rp g3 l2 h2')) rfl).back ((s1.trans s2).trans s3)⟩
          rw [evH, p1]
          simp only [p2, p3, part_ok r2.rt h4, part_ok r3.rt h5, slW]
          rw [if_neg (by rw [hl]; exact nw)]
      | str z =>
        simp only [slD] at e
        split at e
        · rename_i hl
          cases e
          obtain rfl := r.str
          exact ⟨.str (Txt.slice z l2 h2'), A3, by rw [evH, p1]; simp only [p2, p3, part_ok r2.rt h4, part_ok r3.rt h5, slW, hl, if_true], (s1.trans s2).trans s3, .of re.hB (.str _) rfl⟩
        · cases e
      | _ => simp only [slD] at e; cases e
    · cases e
  · cases e
theorem se_lst {as : XEs} (ha : SEs Γ Φ as) : SE Γ Φ (.lst as) := by
  intro H0 B0 ρ σ A d re e
  rw [ev] at e
  split at e
  · rename_i ds h1
    split at e
    · rename_i hh
      cases e
      obtain ⟨ws, A1, p1, s1, r1, r2⟩ := ha _ _ _ _ _ _ re h1
      have l : ws.length ≤ lim := by rw [r1.len]; exact hh.2
      exact ⟨_, _, by rw [evH, p1]; exact newL_ok l, s1.trans sm_new, (ResE.new (re.mono s1).hB l (r2 hh.1)).back s1⟩
    · cases e
  · cases e
theorem se_tup {as : XEs} (ha : SEs Γ Φ as) : SE Γ Φ (.tup as) := by
  intro H0 B0 ρ σ A d re e
  rw [ev] at e
  split at e
  · rename_i ds h1
    split at e
    · rename_i hh
      cases e
      obtain ⟨ws, A1, p1, s1, r1, r2⟩ := ha _ _ _ _ _ _ re h1
      have l : ws.length ≤ lim := by rw [r1.len]; exact hh.2
      exact ⟨_, _, by rw [evH, p1]; simp only [l, if_true], s1, (ResE.of re.hB (.tup l (r2 hh.1)) rfl)⟩
    · cases e
  · cases e
theorem se_isi {t : TY} (ha : SE Γ Φ a) : SE Γ Φ (.isi a t) := by
  intro H0 B0 ρ σ A d re e
  rw [ev] at e
  split at e
  · rename_i x h1
    obtain ⟨k, e1, rfl⟩ := Option.map_eq_some_iff.mp e
    obtain ⟨v, A1, p1, s1, r1⟩ := ha _ _ _ _ _ _ re h1
    have hk : isiW v t = k := by
      cases x with
      | none => rw [r1.rt.non]; cases t <;> cases e1 <;> rfl
      | bool b => rw [r1.rt.bool]; cases t <;> cases e1 <;> rfl
      | int i => rw [r1.rt.int]; cases t <;> cases e1 <;> rfl
      | str s => rw [r1.rt.str]; cases t <;> cases e1 <;> rfl
      | list ds => obtain ⟨p, vs, rfl, _⟩ := r1.rt; cases t <;> cases e1 <;> rfl
      | tuple ds => obtain ⟨vs, rfl, _⟩ := r1.rt.tup; cases t <;> cases e1 <;> rfl
      | _ => cases (show Rp _ _ _ _ from r1.rt)
    exact ⟨.bl k, A1, by rw [evH, p1]; simp only [hk], s1, .of re.hB (.bl _) rfl⟩
  · cases e
theorem RpAll.keysD {B : Nat → Prop} {H : Hq} : ∀ {ws : List W} {ds : List D} {ks : List Int}, RpAll B H ws ds → keysD ds = some ks → intsOf ds = none → keysW ws = some ks ∧ intsW ws = none ∧ ws.map keyW0 = ds.map keyD0 := by
  have key : ∀ {ws : List W} {ds : List D} {ks : List Int}, RpAll B H ws ds → VI.keysD ds = some ks → keysW ws = some ks ∧ ws.map keyW0 = ds.map keyD0 := by
    intro ws ds
    induction ds generalizing ws with
    | nil =>
      intro ks r e
      cases r
      cases e
      exact ⟨rfl, rfl⟩
    | cons d ds ih =>
      intro ks r e
      unfold VI.keysD at e
      split at e <;> (try contradiction)
      rename_i q
      cases q
      obtain ⟨ks', e1, rfl⟩ := Option.map_eq_some_iff.mp e
      cases r with
      | cons h t =>
        obtain ⟨g1, g2⟩ := ih t e1
        cases h with
        | tup l r =>
          cases r with
          | cons x r =>
            cases x
            cases r with
            | cons y r =>
              cases r
              refine ⟨?_, ?_⟩
              · rw [keysW, g1]
                rfl
              · rw [List.map_cons, List.map_cons, g2]
                rfl
  intro ws ds ks r e n
  obtain ⟨g1, g2⟩ := key (ws := ws) (ds := ds) r e
  refine ⟨g1, ?_, g2⟩
  cases r with
  | nil => cases n
  | cons h t =>
    unfold VI.keysD at e
    split at e <;> (try contradiction)
    rename_i q
    cases q
    cases h
    rfl
theorem RpAll.insK {B : Nat → Prop} {H : Hq} {w : W} {d : D} (hk : keyW0 w = keyD0 d) (h : Rp B H w d) : ∀ {ws : List W} {ds : List D}, RpAll B H ws ds → ws.map keyW0 = ds.map keyD0 → RpAll B H (VI.insK keyW0 w ws) (VI.insK keyD0 d ds) ∧ (VI.insK keyW0 w ws).map keyW0 = (VI.insK keyD0 d ds).map keyD0
  | [], [], .nil, _ => ⟨.cons h .nil, by simp [VI.insK, hk]⟩
  | u :: ws, e :: ds, .cons a r, q => by
    rw [List.map_cons, List.map_cons] at q
    injection q with q1 q2
    unfold VI.insK
    rw [hk, q1]
    split
    · exact ⟨.cons h (.cons a r), by simp [hk, q1, q2]⟩
    · obtain ⟨x, y⟩ := RpAll.insK hk h r q2
      exact ⟨.cons a x, by simp [q1, y]⟩
theorem RpAll.sortK {B : Nat → Prop} {H : Hq} : ∀ {ws : List W} {ds : List D}, RpAll B H ws ds → ws.map keyW0 = ds.map keyD0 → RpAll B H (VI.sortK keyW0 ws) (VI.sortK keyD0 ds) := by
  have key : ∀ {ws : List W} {ds : List D}, RpAll B H ws ds → ws.map keyW0 = ds.map keyD0 → RpAll B H (VI.sortK keyW0 ws) (VI.sortK keyD0 ds) ∧ (VI.sortK keyW0 ws).map keyW0 = (VI.sortK keyD0 ds).map keyD0 := by
    intro ws ds
    induction ds generalizing ws with
    | nil =>
      intro r q
      cases r
      exact ⟨.nil, rfl⟩
    | cons d ds ih =>
      intro r q
      cases r with
      | cons h t =>
        rw [List.map_cons, List.map_cons] at q
        injection q with q1 q2
        obtain ⟨x, y⟩ := ih t q2
        exact RpAll.insK q1 h x y
  intro ws ds r q
  exact (key r q).1
theorem rpAll_strs {B : Nat → Prop} {H : Hq} : ∀ {ys : List Str}, RpAll B H (ys.map W.str) (ys.map PyData.str)
  | [] => .nil
  | y :: ys => .cons (.str y) rpAll_strs
theorem strsW_map : ∀ {ys : List Str}, strsW (ys.map W.str) = some ys
  | [] => rfl
  | y :: ys => by
    rw [List.map_cons, strsW, strsW_map]
    rfl
theorem RpAll.strs {B : Nat → Prop} {H : Hq} : ∀ {vs : List W} {ds : List D} {ys : List Str}, RpAll B H vs ds → strsOf ds = some ys → vs = ys.map W.str
  | _, _, _, .nil, e => by simp [strsOf] at e; subst e; rfl
  | _, _, _, .cons (.str i) r, e => by
    simp only [strsOf, Option.map_eq_some_iff] at e
    obtain ⟨ns, e1, rfl⟩ := e
    simp [RpAll.strs r e1]
  | _, _, _, .cons .non _, e => by simp [strsOf] at e
  | _, _, _, .cons (.bl _) _, e => by simp [strsOf] at e
  | _, _, _, .cons (.int _) _, e => by simp [strsOf] at e
  | _, _, _, .cons (.lst _ _ _ _) _, e => by simp [strsOf] at e
  | _, _, _, .cons (.tup _ _) _, e => by simp [strsOf] at e
theorem parts_ok {B : Nat → Prop} {H : Hq} : ∀ (ds : List D) (ws : List W) (acc z : Str), RtAll B H ws ds → partsOf acc ds = some z → partsW acc ws = some z
  | [], ws, acc, z, r, e => by
    cases ws with
    | nil => exact e
    | cons _ _ => exact r.elim
  | d :: ds, ws, acc, z, r, e => by
    cases ws with
    | nil => exact r.elim
    | cons w ws =>
      obtain ⟨r1, r2⟩ := r
      cases d with
      | str x =>
        obtain rfl := Rt.str r1
        simp only [partsOf] at e
        simp only [partsW]
        split at e
        · rename_i hl
          rw [if_pos hl]
          exact parts_ok ds ws _ z r2 e
        · cases e
      | int i =>
        obtain rfl := Rt.int r1
        simp only [partsOf] at e
        simp only [partsW]
        split at e
        · rename_i hl
          rw [if_pos hl]
          exact parts_ok ds ws _ z r2 e
        · cases e
      | _ => simp only [partsOf] at e; cases e
theorem bi_ok {f : BI} {B O : Nat → Prop} {A : AH} {ws : List W} {ds : List D} {d : D} {s z : Bool} (hB : BO B O (gt A)) (r : RtAll B (gt A) ws ds) (e : biD f ds = some d) :
    ∃ u A', biW f ws A = some (u, A') ∧ Sm (gt A) (gt A') ∧ ResE B O (gt A) (gt A') (frBi f) s z u d := by
  unfold biD at e
  split at e <;> (try contradiction)
  · cases e
    obtain ⟨v, rfl, p, vs, rfl, h1, h2, h3⟩ := r.one
    have h1' : A[p]? = some vs := h1
    exact ⟨.int vs.length, A, by simp only [biW, atL, h1', Option.map_some], Sm.refl _, by rw [h3.len]; exact .of hB (.int _) rfl⟩
  · cases e
    obtain ⟨v, rfl, r1⟩ := r.one
    obtain ⟨vs, rfl, h2, h3⟩ := r1.tup
    exact ⟨.int vs.length, A, by simp only [biW], Sm.refl _, by rw [h3.len]; exact .of hB (.int _) rfl⟩
  · split at e <;> cases e
    rename_i hl
    obtain ⟨v, rfl, r1⟩ := r.one
    rw [r1.str]
    exact ⟨_, A, by simp only [biW, hl, if_true], Sm.refl _, .of hB (.int _) rfl⟩
  · split at e
    · rename_i hl
      obtain ⟨n, e1, rfl⟩ := Option.map_eq_some_iff.mp e
      obtain ⟨v, rfl, r1⟩ := r.one
      rw [r1.str]
      exact ⟨.int n, A, by simp only [biW, hl, if_true, e1, Option.map_some], Sm.refl _, .of hB (.int _) rfl⟩
    · cases e
  · split at e <;> cases e
    rename_i hl
    obtain ⟨v, rfl, r1⟩ := r.one
    rw [r1.int]
    exact ⟨_, A, by simp only [biW, hl, if_true], Sm.refl _, .of hB (.str _) rfl⟩
  · split at e <;> cases e
    rename_i a b hl
    obtain ⟨v, w, rfl, r1, r2⟩ := r.two
    rw [r1.str, r2.str]
    have l : ((Txt.split a b).map W.str).length ≤ lim := by
      rw [List.length_map]
      exact Nat.le_trans (PyProof.Rows.split_le a b) hl.2
    exact ⟨_, _, by simp only [biW]; rw [if_pos hl]; exact newL_ok l, sm_new, .new hB l rpAll_strs⟩
  · split at e <;> cases e
    rename_i a b hl
    obtain ⟨v, w, rfl, r1, r2⟩ := r.two
    rw [r1.str, r2.str]
    exact ⟨_, A, by simp only [biW]; rw [if_pos hl], Sm.refl _, .of hB (.tup (by show 3 ≤ lim; unfold lim; decide) (.cons (.str _) (.cons (.str _) (.cons (.str _) .nil)))) rfl⟩
  · split at e
    · rename_i ys e1
      split at e <;> cases e
      rename_i hl
      obtain ⟨v, w, rfl, r1, p, vs, rfl, h1, h2, h3⟩ := r.two
      rw [h3.strs e1] at h1
      rw [r1.str]
      have h1' : A[p]? = some (ys.map W.str) := h1
      exact ⟨_, A, by simp only [biW, atL, h1', strsW_map]; rw [if_pos hl], Sm.refl _, .of hB (.str _) rfl⟩
    · cases e
  · cases e
    obtain ⟨v, w, rfl, r1, r2⟩ := r.two
    rw [r1.str, r2.str]
    exact ⟨_, A, rfl, Sm.refl _, .of hB (.int _) rfl⟩
  · split at e <;> cases e
    rename_i hl
    obtain ⟨v, rfl, r1⟩ := r.one
    rw [r1.str]
    exact ⟨_, A, by simp only [biW, hl, if_true], Sm.refl _, .of hB (.str _) rfl⟩
  · obtain ⟨z, e1, rfl⟩ := Option.map_eq_some_iff.mp e
    have q := parts_ok _ _ _ _ r e1
    match ws, r with
    | x :: y :: ws, r => exact ⟨.str z, A, by simp only [biW]; rw [q]; rfl, Sm.refl _, .of hB (.str _) rfl⟩
  · cases e
    obtain ⟨v, rfl, r1⟩ := r.one
    rw [r1.int]
    exact ⟨_, A, rfl, Sm.refl _, .of hB (.int _) rfl⟩
  · cases e
    obtain ⟨v, rfl, r1⟩ := r.one
    rw [r1.int]
    exact ⟨_, A, rfl, Sm.refl _, .of hB (.int _) rfl⟩
  · cases e
    obtain ⟨v, rfl, r1⟩ := r.one
    rw [r1.bool]
    exact ⟨_, A, rfl, Sm.refl _, .of hB (.int _) rfl⟩
  · cases e
    obtain ⟨v, w, rfl, r1, r2⟩ := r.two
    rw [r1.int, r2.int]
    exact ⟨_, A, rfl, Sm.refl _, .of hB (.int _) rfl⟩
  · cases e
    obtain ⟨v, rfl, p, vs, rfl, h1, h2, h3⟩ := r.one
    have h1' : A[p]? = some vs := h1
    exact ⟨_, _, by simp only [biW, atL, h1']; exact newL_ok h2, sm_new, .new hB h2 h3⟩
  · cases e
    obtain ⟨v, rfl, r1⟩ := r.one
    obtain ⟨vs, rfl, h2, h3⟩ := r1.tup
    exact ⟨_, _, by simp only [biW]; exact newL_ok h2, sm_new, .new hB h2 h3⟩
  · cases e
    obtain ⟨v, rfl, p, vs, rfl, h1, h2, h3⟩ := r.one
    have h1' : A[p]? = some vs := h1
    exact ⟨.tup vs, A, by simp only [biW, atL, h1', h2, if_true], Sm.refl _, .of hB (.tup h2 h3) rfl⟩
  · obtain ⟨ns, e1, rfl⟩ := Option.map_eq_some_iff.mp e
    obtain ⟨v, rfl, r1⟩ := r.one
    obtain ⟨vs, rfl, h2, h3⟩ := r1.tup
    have h4 := h3.ints e1
    subst h4
    exact ⟨_, A, by simp only [biW, intsW_map, Option.map_some], Sm.refl _, .of hB (.int _) rfl⟩
  · obtain ⟨ns, e1, rfl⟩ := Option.map_eq_some_iff.mp e
    obtain ⟨v, rfl, p, vs, rfl, h1, h2, h3⟩ := r.one
    rw [h3.ints e1] at h1
    have h1' : A[p]? = some (ns.map W.int) := h1
    exact ⟨_, A, by simp only [biW, atL, h1', intsW_map, Option.map_some], Sm.refl _, .of hB (.int _) rfl⟩
  · obtain ⟨ns, e1, rfl⟩ := Option.map_eq_some_iff.mp e
    obtain ⟨v, rfl, p, vs, rfl, h1, h2, h3⟩ := r.one
    rw [h3.bls e1] at h1
    have h1' : A[p]? = some (ns.map W.bl) := h1
    exact ⟨_, A, by simp only [biW, atL, h1', blsW_map, Option.map_some], Sm.refl _, .of hB (.bl _) rfl⟩
  · obtain ⟨ns, e1, rfl⟩ := Option.map_eq_some_iff.mp e
    obtain ⟨v, rfl, p, vs, rfl, h1, h2, h3⟩ := r.one
    rw [h3.bls e1] at h1
    have h1' : A[p]? = some (ns.map W.bl) := h1
    exact ⟨_, A, by simp only [biW, atL, h1', blsW_map, Option.map_some], Sm.refl _, .of hB (.bl _) rfl⟩
  · split at e
    rotate_left
    · cases e
    rename_i h64
    obtain ⟨v, rfl, p, vs, rfl, h1, h2, h3⟩ := r.one
    rw [← h3.len] at h64
    unfold sortD at e
    split at e
    · rename_i ns e1
      cases e
      have e2 := h3.ints e1
      rw [e2] at h1 h64
      have h1' : A[p]? = some (ns.map W.int) := h1
      have l : ((sortI ns).map W.int).length ≤ lim := by
        rw [List.length_map, (sortI_perm ns).length_eq]
        rw [List.length_map] at h64
        exact Nat.le_trans (Nat.le_of_lt h64) (by decide)
      exact ⟨_, _, by simp only [biW, atL, h1', h64, if_true, intsW_map]; exact newL_ok l, sm_new, .new hB l rpAll_ints⟩
    · rename_i e0
      split at e
      rotate_left
      · cases e
      rename_i ks e1
      split at e
      rotate_left
      · cases e
      rename_i nd
      cases e
      obtain ⟨k1, k2, k3⟩ := h3.keysD e1 e0
      have h1' : A[p]? = some vs := h1
      obtain ⟨us, e4, r4⟩ : ∃ us, us = sortK keyW0 vs ∧ RpAll B (gt A) us (sortK keyD0 _) := ⟨_, rfl, h3.sortK k3⟩
      have l : (sortK keyW0 vs).length ≤ lim := by
        rw [(sortK_perm vs).length_eq]
        exact Nat.le_trans (Nat.le_of_lt h64) (by decide)
      subst e4
      exact ⟨_, _, by simp only [biW, atL, h1', h64, if_true, k2, k1, nd]; exact newL_ok l, sm_new, .new hB l r4⟩
theorem se_bi {f : BI} {as : XEs} (ha : SEs Γ Φ as) : SE Γ Φ (.bi f as) := by
  intro H0 B0 ρ σ A d re e
  rw [ev] at e
  split at e
  · rename_i ds h1
    obtain ⟨ws, A1, p1, s1, r1, _⟩ := ha _ _ _ _ _ _ re h1
    obtain ⟨u, A2, p2, s2, r2⟩ := bi_ok (re.mono s1).hB r1 e
    exact ⟨u, A2, by rw [evH, p1]; exact p2, s1.trans s2, r2.back s1⟩
  · cases e
theorem si_seq (ha : SE Γ Φ a) : SI Γ Φ (.seq a) := by
  intro H0 B0 ρ σ A ds re e
  rw [evi] at e
  split at e
  · cases e
  rename_i hn
  have hn : isOwn ρ a = false := by simpa using hn
  split at e
  · rename_i es h1
    cases e
    obtain ⟨w, A1, p1, s1, r1⟩ := ha _ _ _ _ _ _ re h1
    have nn := r1.no hn
    obtain ⟨p, vs, rfl, g1, g2, g3⟩ := r1.rt
    have g1' : A1[p]? = some vs := g1
    exact ⟨vs, [(p, vs)], A1, by rw [eviH, p1]; simp only [g1'], s1, g3, fun q hq => by simp at hq; subst hq; exact ⟨g1, nn _ rfl⟩⟩
  · rename_i es h1
    cases e
    obtain ⟨w, A1, p1, s1, r1⟩ := ha _ _ _ _ _ _ re h1
    obtain ⟨vs, rfl, g2, g3⟩ := r1.rt.tup
    exact ⟨vs, [], A1, by rw [eviH, p1], s1, g3, fun q hq => by cases hq⟩
  · rename_i x h1
    split at e <;> cases e
    rename_i hl
    obtain ⟨w, A1, p1, s1, r1⟩ := ha _ _ _ _ _ _ re h1
    obtain rfl := r1.rt.str
    refine ⟨x.cps.toList.map fun c => .str ⟨#[c]⟩, [], A1, by rw [eviH, p1]; simp only [hl, if_true], s1, ?_, fun q hq => by cases hq⟩
    induction x.cps.toList with
    | nil => exact .nil
    | cons c t ih => exact .cons (.str _) ih
  · cases e
theorem rng_ok {B : Nat → Prop} {H : Hq} {ws : List W} {ds out : List D} (r : RtAll B H ws ds) (e : rngD ds = some out) : ∃ us, rngW ws = some us ∧ RpAll B H us out := by
  have mp : ∀ (n : Nat) (f : Nat → Int), RpAll B H ((List.range n).map fun k => W.int (f k)) ((List.range n).map fun k => PyData.int (f k)) := fun n f => by
    have := rpAll_ints (B := B) (H := H) (ns := (List.range n).map f)
    rw [List.map_map, List.map_map] at this
    exact this
  unfold rngD at e
  split at e
  · split at e <;> cases e
    rename_i h
    obtain ⟨v, rfl, r1⟩ := r.one
    rw [r1.int]
    exact ⟨_, by simp only [rngW, h]; simp, mp _ _⟩
  · split at e <;> cases e
    rename_i h
    obtain ⟨v, w, rfl, r1, r2⟩ := r.two
    rw [r1.int, r2.int]
    exact ⟨_, by simp only [rngW, h]; simp, mp _ _⟩
  · obtain ⟨v, w, u, rfl, r1, r2, r3⟩ := r.three
    rw [r1.int, r2.int, r3.int]
    split at e
    · rename_i hc
      split at e <;> cases e
      rename_i h
      exact ⟨_, by simp only [rngW, hc, h]; simp, mp _ _⟩
    · rename_i hc
      split at e <;> cases e
      rename_i h
      exact ⟨_, by simp only [rngW, hc, h]; simp, mp _ _⟩
  · cases e
theorem si_rng {as : XEs} (ha : SEs Γ Φ as) : SI Γ Φ (.rng as) := by
  intro H0 B0 ρ σ A ds re e
  rw [evi] at e
  split at e
  · rename_i es h1
    obtain ⟨ws, A1, p1, s1, r1, _⟩ := ha _ _ _ _ _ _ re h1
    obtain ⟨us, e1, r2⟩ := rng_ok r1 e
    exact ⟨us, [], A1, by rw [eviH, p1]; simp only [e1, Option.map_some], s1, r2, fun q hq => by cases hq⟩
  · cases e
theorem rp_zip {B : Nat → Prop} {H : Hq} : ∀ {vs us : List W} {ds es : List D}, RpAll B H vs ds → RpAll B H us es → RpAll B H (List.zipWith (fun x y => W.tup [x, y]) vs us) (List.zipWith (fun x y => PyData.tuple [x, y]) ds es)
  | _, _, _, _, .nil, _ => by simp; exact .nil
  | _, _, _, _, .cons _ _, .nil => .nil
  | _, _, _, _, .cons h r, .cons h' r' => .cons (.tup (by show 2 ≤ lim; decide) (.cons h (.cons h' .nil))) (rp_zip r r')
theorem rp_enu {B : Nat → Prop} {H : Hq} : ∀ {vs : List W} {ds : List D} (i : Nat), RpAll B H vs ds → RpAll B H (enuW i vs) (enuD i ds)
  | _, _, _, .nil => .nil
  | _, _, i, .cons h r => .cons (.tup (by show 2 ≤ lim; decide) (.cons (.int _) (.cons h .nil))) (rp_enu (i + 1) r)
theorem si_zip (ha : SE Γ Φ a) (hb : SE Γ Φ b) : SI Γ Φ (.zip a b) := by
  intro H0 B0 ρ σ A ds re e
  rw [evi] at e
  split at e
  · cases e
  rename_i hn
  have hn : isOwn ρ a = false ∧ isOwn ρ b = false := by simpa using hn
  split at e
  · rename_i xs ys h1 h2
    cases e
    obtain ⟨w, A1, p1, s1, r1⟩ := ha _ _ _ _ _ _ re h1
    obtain ⟨u, A2, p2, s2, r2⟩ := hb _ _ _ _ _ _ (re.mono s1) h2
    have n1 := r1.no hn.1
    have n2 := r2.no hn.2
    obtain ⟨p, vs, rfl, g1, g2, g3⟩ := r1.rt.mono s2
    obtain ⟨q, us, rfl, g4, g5, g6⟩ := r2.rt
    have g1' : A2[p]? = some vs := g1
    have g4' : A2[q]? = some us := g4
    refine ⟨_, [(p, vs), (q, us)], A2, by rw [eviH, p1]; simp only [p2, g1', g4'], s1.trans s2, rp_zip g3 g6, fun r hr => ?_⟩
    simp at hr
    rcases hr with rfl | rfl
    · exact ⟨g1, n1 _ rfl⟩
    · exact ⟨g4, n2 _ rfl⟩
  · cases e
theorem si_enz (ha : SE Γ Φ a) (hb : SE Γ Φ b) : SI Γ Φ (.enz a b) := by
  intro H0 B0 ρ σ A ds re e
  rw [evi] at e
  split at e
  · cases e
  rename_i hn
  have hn : isOwn ρ a = false ∧ isOwn ρ b = false := by simpa using hn
  split at e
  · rename_i xs ys h1 h2
    cases e
    obtain ⟨w, A1, p1, s1, r1⟩ := ha _ _ _ _ _ _ re h1
    obtain ⟨u, A2, p2, s2, r2⟩ := hb _ _ _ _ _ _ (re.mono s1) h2
    have n1 := r1.no hn.1
    have n2 := r2.no hn.2
    obtain ⟨p, vs, rfl, g1, g2, g3⟩ := r1.rt.mono s2
    obtain ⟨q, us, rfl, g4, g5, g6⟩ := r2.rt
    have g1' : A2[p]? = some vs := g1
    have g4' : A2[q]? = some us := g4
    refine ⟨_, [(p, vs), (q, us)], A2, by rw [eviH, p1]; simp only [p2, g1', g4'], s1.trans s2, rp_enu 0 (rp_zip g3 g6), fun r hr => ?_⟩
    simp at hr
    rcases hr with rfl | rfl
    · exact ⟨g1, n1 _ rfl⟩
    · exact ⟨g4, n2 _ rfl⟩
  · cases e
theorem si_enu (ha : SE Γ Φ a) : SI Γ Φ (.enu a) := by
  intro H0 B0 ρ σ A ds re e
  rw [evi] at e
  split at e
  · cases e
  rename_i hn
  have hn : isOwn ρ a = false := by simpa using hn
  split at e
  · rename_i es h1
    cases e
    obtain ⟨w, A1, p1, s1, r1⟩ := ha _ _ _ _ _ _ re h1
    have nn := r1.no hn
    obtain ⟨p, vs, rfl, g1, g2, g3⟩ := r1.rt
    have g1' : A1[p]? = some vs := g1
    exact ⟨_, [(p, vs)], A1, by rw [eviH, p1]; simp only [g1'], s1, rp_enu 0 g3, fun q hq => by simp at hq; subst hq; exact ⟨g1, nn _ rfl⟩⟩
  · cases e
end
end VI
set_option Elab.async false
set_option linter.all false
set_option maxRecDepth 100000
set_option maxHeartbeats 1000000
namespace VI
open PySem PySem.Spec PyProof.Rows L2
def updq (H : Hq) (a : Nat) (ws : List W) : Hq := fun b => if b = a then some ws else H b
theorem updq_same {H : Hq} {a : Nat} {ws : List W} : updq H a ws a = some ws := by unfold updq; rw [if_pos rfl]
theorem updq_ne {H : Hq} {a b : Nat} {ws : List W} (h : b ≠ a) : updq H a ws b = H b := by unfold updq; rw [if_neg h]
theorem gt_set {A : AH} {a : Nat} {us ws : List W} (h : gt A a = some us) : gt (A.set a ws) = updq (gt A) a ws := by
  have hl : a < A.length := (List.getElem?_eq_some_iff.mp h).1
  funext b
  unfold gt updq
  by_cases e : b = a
  · subst e
    rw [if_pos rfl, List.getElem?_set_self hl]
  · rw [if_neg e, List.getElem?_set_ne (Ne.symm e)]
section
variable {H0 H H1 H' : Hq} {B0 : Nat → Prop} {ρ : Env} {σ : HEnv} {i : Nat} {v : W} {d : D}
theorem own_set {s : Sta} (hs : s ≠ .own) {p : Nat} (h : Own (ρ.set i (some (s, d))) (σ.set i (some v)) p) : Own ρ σ p := by
  obtain ⟨j, e, h1, h2⟩ := h
  rcases getset h1 with ⟨_, e1, _⟩ | ⟨ne, h1⟩
  · exact absurd (congrArg Prod.fst (Option.some.inj e1)) hs
  · rw [set_ne ne] at h2
    exact ⟨j, e, h1, h2⟩
theorem VE.put {s : Sta} (re : VE H0 B0 ρ σ H) (hi : i < ρ.length) (hs : s ≠ .own) (h1 : s = .shr → Rp (Bad B0 ρ σ) H v d) (h2 : s = .arg → Rt (Bad B0 ρ σ) H v d ∧ ∀ p, v = .ref p → ¬ Own ρ σ p) :
    VE H0 B0 (ρ.set i (some (s, d))) (σ.set i (some v)) H := by
  have hb : ∀ p, Bad B0 (ρ.set i (some (s, d))) (σ.set i (some v)) p → Bad B0 ρ σ p := fun p h => h.elim .inl fun h => .inr (own_set hs h)
  have hl : i < σ.length := by rw [re.len]; exact hi
  refine ⟨re.ext, re.bad, by simp [re.len], fun j e h => ?_, fun j e h => ?_, fun j e h => ?_, fun j k e f p a b c q => ?_⟩
  · rcases getset h with ⟨rfl, e1, _⟩ | ⟨ne, h⟩
    · cases e1
      exact ⟨v, set_at hl, (h1 rfl).less hb⟩
    · obtain ⟨u, a, b⟩ := re.shr j e h
      exact ⟨u, by rw [set_ne ne]; exact a, b.less hb⟩
  · rcases getset h with ⟨rfl, e1, _⟩ | ⟨ne, h⟩
    · cases e1
      exact ⟨v, set_at hl, (h2 rfl).1.less hb, fun p e z => (h2 rfl).2 p e (own_set hs z)⟩
    · obtain ⟨u, a, b, n⟩ := re.arg j e h
      exact ⟨u, by rw [set_ne ne]; exact a, b.less hb, fun p e z => n p e (own_set hs z)⟩
  · rcases getset h with ⟨rfl, e1, _⟩ | ⟨ne, h⟩
    · exact absurd (congrArg Prod.fst (Option.some.inj e1)) hs
    · obtain ⟨q, vs, ds, a, b, c, l, n, r⟩ := re.own j e h
      exact ⟨q, vs, ds, a, by rw [set_ne ne]; exact b, c, l, n, r.less hb⟩
  · rcases getset a with ⟨_, e1, _⟩ | ⟨na, a⟩
    · exact absurd (congrArg Prod.fst (Option.some.inj e1)) hs
    · rcases getset b with ⟨_, e1, _⟩ | ⟨nb, b⟩
      · exact absurd (congrArg Prod.fst (Option.some.inj e1)) hs
      · rw [set_ne na] at c
        rw [set_ne nb] at q
        exact re.dist j k e f p a b c q
theorem VE.drop {i : Nat} (re : VE H0 B0 ρ σ H) : VE H0 B0 (ρ.set i none) (σ.set i none) H := by
  have up : ∀ {j : Nat} {x : Sta × D}, (ρ.set i none)[j]? = some (some x) → i ≠ j ∧ ρ[j]? = some (some x) := fun h => by
    rw [List.getElem?_set] at h
    split at h
    · split at h <;> cases h
    · rename_i ne
      exact ⟨ne, h⟩
  have ow : ∀ p, Own (ρ.set i none) (σ.set i none) p → Own ρ σ p := fun p ⟨j, d, h1, h2⟩ => by
    obtain ⟨ne, h1⟩ := up h1
    rw [List.getElem?_set_ne ne] at h2
    exact ⟨j, d, h1, h2⟩
  have hb : ∀ p, Bad B0 (ρ.set i none) (σ.set i none) p → Bad B0 ρ σ p := fun p h => h.elim .inl fun h => .inr (ow p h)
  refine ⟨re.ext, re.bad, by simp [re.len], fun j e h => ?_, fun j e h => ?_, fun j e h => ?_, fun j k e f p a b c q => ?_⟩
  · obtain ⟨ne, h⟩ := up h
    obtain ⟨u, a, b⟩ := re.shr j e h
    exact ⟨u, by rw [List.getElem?_set_ne ne]; exact a, b.less hb⟩
  · obtain ⟨ne, h⟩ := up h
    obtain ⟨u, a, b, n⟩ := re.arg j e h
    exact ⟨u, by rw [List.getElem?_set_ne ne]; exact a, b.less hb, fun p e z => n p e (ow p z)⟩
  · obtain ⟨ne, h⟩ := up h
    obtain ⟨q, vs, ds, a, b, c, l, n, r⟩ := re.own j e h
    exact ⟨q, vs, ds, a, by rw [List.getElem?_set_ne ne]; exact b, c, l, n, r.less hb⟩
  · obtain ⟨n1, a⟩ := up a
    obtain ⟨n2, b⟩ := up b
    rw [List.getElem?_set_ne n1] at c
    rw [List.getElem?_set_ne n2] at q
    exact re.dist j k e f p a b c q
theorem VE.putN {a : Nat} {vs : List W} {ds : List D} (re : VE H0 B0 ρ σ H) (hi : i < ρ.length) (e : Sm H H') (n : H a = none) (h1 : H' a = some vs) (hl : vs.length ≤ lim) (r : RpAll (fun q => Bad B0 ρ σ q ∨ q = a) H' vs ds) :
    VE H0 B0 (ρ.set i (some (.own, .list ds))) (σ.set i (some (.ref a))) H' := by
  have hb : ∀ p, Bad B0 (ρ.set i (some (.own, .list ds))) (σ.set i (some (.ref a))) p → Bad B0 ρ σ p ∨ p = a := fun p h => by
    rcases h with h | ⟨j, x, h2, h3⟩
    · exact .inl (.inl h)
    · rcases getset h2 with ⟨rfl, _, hlt⟩ | ⟨ne, h2⟩
      · rw [set_at (by rw [re.len]; exact hlt)] at h3
        cases h3
        exact .inr rfl
      · rw [set_ne ne] at h3
        exact .inl (.inr ⟨j, x, h2, h3⟩)
  have hls : i < σ.length := by rw [re.len]; exact hi
  have k : ∀ b o, H b = some o → ¬ Bad B0 ρ σ b → H' b = some o ∧ ¬ Bad B0 (ρ.set i (some (.own, .list ds))) (σ.set i (some (.ref a))) b := fun b o q nb =>
    ⟨e b o q, fun z => (hb b z).elim nb fun z => by rw [z, n] at q; cases q⟩
  refine ⟨re.ext.trans e, re.bad, by simp [re.len], fun j x h => ?_, fun j x h => ?_, fun j x h => ?_, fun j m x y p h2 h3 h4 h5 => ?_⟩
  · rcases getset h with ⟨rfl, e1, _⟩ | ⟨ne, h⟩
    · cases e1
    · obtain ⟨u, y, b⟩ := re.shr j x h
      exact ⟨u, by rw [set_ne ne]; exact y, b.tr k⟩
  · rcases getset h with ⟨rfl, e1, _⟩ | ⟨ne, h⟩
    · cases e1
    · obtain ⟨u, y, b, nn⟩ := re.arg j x h
      refine ⟨u, by rw [set_ne ne]; exact y, b.tr k fun c ws q => e _ _ q, fun p ep ⟨m, x', h2, h3⟩ => ?_⟩
      rcases getset h2 with ⟨rfl, _, _⟩ | ⟨nm, h2⟩
      · rw [set_at hls] at h3
        cases h3
        subst ep
        exact b.there n
      · rw [set_ne nm] at h3
        exact nn p ep ⟨m, x', h2, h3⟩
  · rcases getset h with ⟨rfl, e1, _⟩ | ⟨ne, h⟩
    · cases e1
      exact ⟨a, vs, ds, rfl, set_at hls, h1, hl, re.ext.free n, r.less hb⟩
    · obtain ⟨q, ws, es, y, b, c, l, nn, rr⟩ := re.own j x h
      exact ⟨q, ws, es, y, by rw [set_ne ne]; exact b, e _ _ c, l, nn, rr.tr k⟩
  · have old : ∀ (j : Nat) (x : D), j ≠ i → ρ[j]? = some (some (Sta.own, x)) → σ[j]? = some (some (W.ref a)) → False := fun j x _ q1 q2 => by
      obtain ⟨q, ws, es, _, b, c, _⟩ := re.own j x q1
      rw [q2] at b
      cases b
      rw [n] at c
      cases c
    rcases getset h2 with ⟨rfl, _, _⟩ | ⟨na, h2⟩
    · rw [set_at hls] at h4
      cases h4
      rcases getset h3 with ⟨rfl, _, _⟩ | ⟨nb, h3⟩
      · rfl
      · rw [set_ne nb] at h5
        exact (old m y nb h3 h5).elim
    · rw [set_ne na] at h4
      rcases getset h3 with ⟨e3, _, _⟩ | ⟨nb, h3⟩
      · rw [e3, set_at hls] at h5
        cases h5
        exact (old j x na h2 h4).elim
      · rw [set_ne nb] at h5
        exact re.dist j m x y p h2 h3 h4 h5
theorem VE.mut {a : Nat} {ws : List W} {ds es : List D} (re : VE H0 B0 ρ σ H) (h : ρ[i]? = some (some (.own, .list ds))) (hσ : σ[i]? = some (some (.ref a))) (hl : ws.length ≤ lim) (r : RpAll (Bad B0 ρ σ) H ws es) :
    VE H0 B0 (ρ.set i (some (.own, .list es))) σ (updq H a ws) := by
  have hi : i < ρ.length := (List.getElem?_eq_some_iff.mp h).1
  have ha : Own ρ σ a := ⟨i, _, h, hσ⟩
  have hn : H0 a = none := by
    obtain ⟨q, _, _, _, b, _, _, n, _⟩ := re.own i _ h
    rw [hσ] at b
    cases b
    exact n
  have ho : ∀ p, Own (ρ.set i (some (.own, .list es))) σ p → Own ρ σ p := fun p ⟨j, x, h1, h2⟩ => by
    rcases getset h1 with ⟨rfl, _, _⟩ | ⟨_, h1⟩
    · rw [hσ] at h2
      cases h2
      exact ha
    · exact ⟨j, x, h1, h2⟩
  have hb : ∀ p, Bad B0 (ρ.set i (some (.own, .list es))) σ p → Bad B0 ρ σ p := fun p h => h.elim .inl fun h => .inr (ho p h)
  have k : ∀ b o, H b = some o → ¬ Bad B0 ρ σ b → updq H a ws b = some o ∧ ¬ Bad B0 (ρ.set i (some (.own, .list es))) σ b := fun b o q nb =>
    ⟨by rw [updq_ne (fun z => nb (by rw [z]; exact .inr ha))]; exact q, fun z => nb (hb b z)⟩
  refine ⟨fun b o q => ?_, re.bad, by simp [re.len], fun j x q => ?_, fun j x q => ?_, fun j x q => ?_, fun j m x y p h2 h3 h4 h5 => ?_⟩
  · rw [updq_ne (fun z => by rw [z, hn] at q; cases q)]
    exact re.ext b o q
  · rcases getset q with ⟨rfl, e1, _⟩ | ⟨ne, q⟩
    · cases e1
    · obtain ⟨u, y, b⟩ := re.shr j x q
      exact ⟨u, y, b.tr k⟩
  · rcases getset q with ⟨rfl, e1, _⟩ | ⟨ne, q⟩
    · cases e1
    · obtain ⟨u, y, b, nn⟩ := re.arg j x q
      refine ⟨u, y, ?_, fun p ep z => nn p ep (ho p z)⟩
      cases x with
      | list xs =>
        obtain ⟨c, us, rfl, g1, g2, g3⟩ := b
        exact ⟨c, us, rfl, by rw [updq_ne (fun z => nn c rfl (by rw [z]; exact ha))]; exact g1, g2, g3.tr k⟩
      | _ => exact Rp.tr k b
  · rcases getset q with ⟨rfl, e1, _⟩ | ⟨ne, q⟩
    · cases e1
      exact ⟨a, ws, es, rfl, hσ, updq_same, hl, hn, r.tr k⟩
    · obtain ⟨p, us, xs, y, b, c, l, nn, rr⟩ := re.own j x q
      refine ⟨p, us, xs, y, b, ?_, l, nn, rr.tr k⟩
      rw [updq_ne (fun z => by
        subst z
        exact ne (re.dist j i _ _ _ q h b hσ))]
      exact c
  · have h2' : ∃ x', ρ[j]? = some (some (Sta.own, x')) := by
      rcases getset h2 with ⟨rfl, _, _⟩ | ⟨_, h2⟩
      · exact ⟨_, h⟩
      · exact ⟨_, h2⟩
    have h3' : ∃ x', ρ[m]? = some (some (Sta.own, x')) := by
      rcases getset h3 with ⟨rfl, _, _⟩ | ⟨_, h3⟩
      · exact ⟨_, h⟩
      · exact ⟨_, h3⟩
    obtain ⟨x', h2'⟩ := h2'
    obtain ⟨y', h3'⟩ := h3'
    exact re.dist j m x' y' p h2' h3' h4 h5
theorem VE.give (re : VE H0 B0 ρ σ H) (h : ρ[i]? = some (some (.own, d))) : VE H0 B0 (ρ.set i (some (.shr, d))) σ H := by
  obtain ⟨p, vs, ds, rfl, b, c, l, n, r⟩ := re.own i d h
  have hi : i < ρ.length := (List.getElem?_eq_some_iff.mp h).1
  have ho : ∀ q, Own (ρ.set i (some (.shr, .list ds))) σ q → Own ρ σ q ∧ q ≠ p := fun q ⟨j, x, h1, h2⟩ => by
    rcases getset h1 with ⟨_, e1, _⟩ | ⟨ne, h1⟩
    · cases e1
    · exact ⟨⟨j, x, h1, h2⟩, fun z => ne (re.dist j i _ _ p h1 h (by rw [← z]; exact h2) b)⟩
  have hb : ∀ q, Bad B0 (ρ.set i (some (.shr, .list ds))) σ q → Bad B0 ρ σ q := fun q h => h.elim .inl fun h => .inr (ho q h).1
  refine ⟨re.ext, re.bad, by simp [re.len], fun j x q => ?_, fun j x q => ?_, fun j x q => ?_, fun j m x y q h2 h3 h4 h5 => ?_⟩
  · rcases getset q with ⟨rfl, e1, _⟩ | ⟨ne, q⟩
    · cases e1
      refine ⟨_, b, .lst c (fun z => ?_) l (r.less hb)⟩
      rcases z with z | z
      · exact re.bad p z n
      · exact (ho p z).2 rfl
    · obtain ⟨u, y, b⟩ := re.shr j x q
      exact ⟨u, y, b.less hb⟩
  · rcases getset q with ⟨rfl, e1, _⟩ | ⟨ne, q⟩
    · cases e1
    · obtain ⟨u, y, b, nn⟩ := re.arg j x q
      exact ⟨u, y, b.less hb, fun p ep z => nn p ep (ho p z).1⟩
  · rcases getset q with ⟨rfl, e1, _⟩ | ⟨ne, q⟩
    · cases e1
    · obtain ⟨p, us, xs, y, b, c, l, nn, rr⟩ := re.own j x q
      exact ⟨p, us, xs, y, b, c, l, nn, rr.less hb⟩
  · rcases getset h2 with ⟨_, e1, _⟩ | ⟨_, h2⟩
    · cases e1
    · rcases getset h3 with ⟨_, e1, _⟩ | ⟨_, h3⟩
      · cases e1
      · exact re.dist j m x y q h2 h3 h4 h5
mutual
theorem VE.dem {ρ : Env} (re : VE H0 B0 ρ σ H) : ∀ e : XE, VE H0 B0 (VI.dem ρ e) σ H
  | .var i => by
    rw [VI.dem]
    split
    · rename_i h
      exact re.give h
    · exact re
  | .tup as => by rw [VI.dem]; exact VE.demEs re as
  | .lst as => by rw [VI.dem]; exact VE.demEs re as
  | .cst _ => by first | exact re | (rw [VI.dem] <;> first | exact re | (intros; contradiction))
  | .bin _ a b => by rw [VI.dem]; exact VE.demN (VE.demN re a) b
  | .neg _ => by first | exact re | (rw [VI.dem] <;> first | exact re | (intros; contradiction))
  | .not a => by rw [VI.dem]; exact VE.demN re a
  | .and a b => by rw [VI.dem]; exact VE.demN (VE.demN re a) b
  | .or a b => by rw [VI.dem]; exact VE.demN (VE.demN re a) b
  | .cmp _ a b => by rw [VI.dem]; exact VE.demN (VE.demN re a) b
  | .chn _ _ _ _ _ => by first | exact re | (rw [VI.dem] <;> first | exact re | (intros; contradiction))
  | .call _ as => by rw [VI.dem]; exact VE.demNs re as
  | .bi _ as => by rw [VI.dem]; exact VE.demNs re as
  | .isi _ _ => by first | exact re | (rw [VI.dem] <;> first | exact re | (intros; contradiction))
  | .ix _ _ => by first | exact re | (rw [VI.dem] <;> first | exact re | (intros; contradiction))
  | .sl _ _ _ => by first | exact re | (rw [VI.dem] <;> first | exact re | (intros; contradiction))
  | .lc _ _ _ _ _ => by first | exact re | (rw [VI.dem] <;> first | exact re | (intros; contradiction))
theorem VE.demEs {ρ : Env} (re : VE H0 B0 ρ σ H) : ∀ as : XEs, VE H0 B0 (VI.demEs ρ as) σ H
  | .nil => by rw [VI.demEs]; exact re
  | .cons a as => by rw [VI.demEs]; exact VE.demEs (VE.dem re a) as
theorem VE.demN {ρ : Env} (re : VE H0 B0 ρ σ H) : ∀ e : XE, VE H0 B0 (VI.demN ρ e) σ H
  | .var _ => by first | exact re | (rw [VI.demN] <;> first | exact re | (intros; contradiction))
  | .tup as => by rw [VI.demN]; exact VE.demEs re as
  | .lst as => by rw [VI.demN]; exact VE.demEs re as
  | .cst _ => by first | exact re | (rw [VI.demN] <;> first | exact re | (intros; contradiction))
  | .bin _ a b => by rw [VI.demN]; exact VE.demN (VE.demN re a) b
  | .neg _ => by first | exact re | (rw [VI.demN] <;> first | exact re | (intros; contradiction))
  | .not a => by rw [VI.demN]; exact VE.demN re a
  | .and a b => by rw [VI.demN]; exact VE.demN (VE.demN re a) b
  | .or a b => by rw [VI.demN]; exact VE.demN (VE.demN re a) b
  | .cmp _ a b => by rw [VI.demN]; exact VE.demN (VE.demN re a) b
  | .chn _ _ _ _ _ => by first | exact re | (rw [VI.demN] <;> first | exact re | (intros; contradiction))
  | .call _ as => by rw [VI.demN]; exact VE.demNs re as
  | .bi _ as => by rw [VI.demN]; exact VE.demNs re as
  | .isi _ _ => by first | exact re | (rw [VI.demN] <;> first | exact re | (intros; contradiction))
  | .ix _ _ => by first | exact re | (rw [VI.demN] <;> first | exact re | (intros; contradiction))
  | .sl _ _ _ => by first | exact re | (rw [VI.demN] <;> first | exact re | (intros; contradiction))
  | .lc _ _ _ _ _ => by first | exact re | (rw [VI.demN] <;> first | exact re | (intros; contradiction))
theorem VE.demNs {ρ : Env} (re : VE H0 B0 ρ σ H) : ∀ as : XEs, VE H0 B0 (VI.demNs ρ as) σ H
  | .nil => by rw [VI.demNs]; exact re
  | .cons a as => by rw [VI.demNs]; exact VE.demNs (VE.demN re a) as
end
theorem VE.demI (re : VE H0 B0 ρ σ H) (it : XI) : VE H0 B0 (VI.demI ρ it) σ H := by
  unfold VI.demI
  split
  · exact re.dem _
  · exact re
  · exact (re.dem _).dem _
  · exact re.dem _
  · exact (re.dem _).dem _
end


section
variable {H0 H H1 H' : Hq} {B0 : Nat → Prop} {ρ : Env} {σ : HEnv}
theorem toArg_get {i : Nat} {s : Sta} {d : D} (h : (ρ.map toArg)[i]? = some (some (s, d))) : ∃ s', ρ[i]? = some (some (s', d)) ∧ s ≠ .own ∧ (s = .shr → s' = .shr) := by
  rw [List.getElem?_map, Option.map_eq_some_iff] at h
  obtain ⟨o, h1, h2⟩ := h
  cases o with
  | none => cases h2
  | some p =>
    obtain ⟨s', d'⟩ := p
    cases s' <;> cases h2 <;> exact ⟨_, h1, by decide, by decide⟩
theorem wipeE_len : ∀ vs : List Nat, (wipeE ρ vs).length = ρ.length
  | [] => rfl
  | v :: vs => by unfold wipeE; rw [List.length_set, wipeE_len vs]
theorem wipeE_get {i : Nat} {x : Sta × D} : ∀ {vs : List Nat}, (wipeE ρ vs)[i]? = some (some x) → ρ[i]? = some (some x) ∧ i ∉ vs
  | [], h => ⟨h, by simp⟩
  | v :: vs, h => by
    unfold wipeE at h
    rcases getset h with ⟨_, e, _⟩ | ⟨ne, h⟩
    · cases e
    · obtain ⟨h1, h2⟩ := wipeE_get h
      exact ⟨h1, by simp only [List.mem_cons, not_or]; exact ⟨ne, h2⟩⟩
theorem VE.lock (re : VE H0 B0 ρ σ H) : VE H (Bad B0 ρ σ) (ρ.map toArg) σ H := by
  have ho : ∀ p, ¬ Own (ρ.map toArg) σ p := fun p ⟨i, d, h1, h2⟩ => by
    obtain ⟨s', _, n, _⟩ := toArg_get h1
    exact n rfl
  have hb : ∀ p, Bad (Bad B0 ρ σ) (ρ.map toArg) σ p → Bad B0 ρ σ p := fun p h => h.elim id fun h => (ho p h).elim
  refine ⟨Sm.refl H, fun p h => re.badL h, by simp [re.len], fun i d h => ?_, fun i d h => ?_, fun i d h => ?_, fun i j d e p h _ _ _ => ?_⟩
  · obtain ⟨s', h1, _, h2⟩ := toArg_get h
    have h2 := h2 rfl
    subst h2
    obtain ⟨v, a, b⟩ := re.shr i d h1
    exact ⟨v, a, b.less hb⟩
  · obtain ⟨s', h1, _, _⟩ := toArg_get h
    obtain ⟨v, a, b, _⟩ := re.get h1
    exact ⟨v, a, b.less hb, fun p _ => ho p⟩
  · obtain ⟨s', _, n, _⟩ := toArg_get h
    exact absurd rfl n
  · obtain ⟨s', _, n, _⟩ := toArg_get h
    exact absurd rfl n

theorem wipeW_at (σ : HEnv) : ∀ (us : List Nat) (j : Nat), (wipeW σ us)[j]? = if j ∈ us ∧ j < σ.length then some none else σ[j]?
  | [], j => by simp [wipeW]
  | u :: us, j => by
    unfold wipeW
    by_cases e : u = j
    · subst e
      by_cases hl : u < σ.length
      · rw [List.getElem?_set_self (by rw [wipeW_len]; exact hl), if_pos ⟨List.mem_cons_self, hl⟩]
      · rw [List.getElem?_eq_none (by rw [List.length_set, wipeW_len]; omega), if_neg fun z => hl z.2, List.getElem?_eq_none (by omega)]
    · rw [List.getElem?_set_ne e, wipeW_at σ us j]
      have : j ∈ u :: us ↔ j ∈ us := by simp [Ne.symm e]
      simp only [this]
theorem noOwn_blk {vs : List Nat} {σ' : HEnv} : ∀ p, ¬ Own (blkE ρ vs) σ' p := fun p ⟨i, d, h1, h2⟩ => by
  obtain ⟨s', _, n, _⟩ := toArg_get (wipeE_get h1).1
  exact n rfl
theorem VE.blk {vs : List Nat} (re : VE H0 B0 ρ σ H) (e : Sm H H') : VE H' (Bad B0 ρ σ) (blkE ρ vs) (wipeW σ vs) H' := by
  have no : ∀ {i : Nat} {s : Sta} {d : D}, (blkE ρ vs)[i]? = some (some (s, d)) → (ρ.map toArg)[i]? = some (some (s, d)) ∧ i ∉ vs := fun h => wipeE_get h
  have gσ : ∀ {i : Nat} {v : W}, i ∉ vs → σ[i]? = some (some v) → (wipeW σ vs)[i]? = some (some v) := fun {i v} h1 h2 => by
    rw [wipeW_at, if_neg fun z => h1 z.1]
    exact h2
  have ho : ∀ p, ¬ Own (blkE ρ vs) (wipeW σ vs) p := noOwn_blk
  have hb : ∀ p, Bad (Bad B0 ρ σ) (blkE ρ vs) (wipeW σ vs) p → Bad B0 ρ σ p := fun p h => h.elim id fun h => (ho p h).elim
  refine ⟨Sm.refl H', fun p h z => re.badL h (e.free z), by rw [wipeW_len, re.len]; unfold blkE; rw [wipeE_len, List.length_map], fun i d h => ?_, fun i d h => ?_, fun i d h => ?_, fun i j d e p h _ _ _ => ?_⟩
  · obtain ⟨h1, h2⟩ := no h
    obtain ⟨s', h3, _, h4⟩ := toArg_get h1
    have h4 := h4 rfl
    subst h4
    obtain ⟨v, a, b⟩ := re.shr i d h3
    exact ⟨v, gσ h2 a, (b.mono e).less hb⟩
  · obtain ⟨h1, h2⟩ := no h
    obtain ⟨s', h3, _, _⟩ := toArg_get h1
    obtain ⟨v, a, b, _⟩ := re.get h3
    exact ⟨v, gσ h2 a, (b.mono e).less hb, fun p _ => ho p⟩
  · obtain ⟨s', _, n, _⟩ := toArg_get (no h).1
    exact absurd rfl n
  · obtain ⟨s', _, n, _⟩ := toArg_get (no h).1
    exact absurd rfl n
end
section
variable {H0 : Hq} {B0 : Nat → Prop}
theorem setAll_ok {H : Hq} : ∀ {js : List Nat} {ds : List D} {ws : List W} {ρ ρ' : Env} {σ : HEnv}, VE H0 B0 ρ σ H → setAll ρ js ds = some ρ' → RpAll (Bad B0 ρ σ) H ws ds → ∃ σ', setAllW σ js ws = some σ' ∧ VE H0 B0 ρ' σ' H
  | [], [], _, ρ, ρ', σ, re, e, .nil => by
    cases e
    exact ⟨σ, rfl, re⟩
  | i :: is, d :: ds, _, ρ, ρ', σ, re, e, .cons h r => by
    simp only [setAll] at e
    split at e
    · rename_i hi
      obtain ⟨σ', h1, h2⟩ := setAll_ok (re.put hi (s := .shr) (by decide) (fun _ => h) (fun z => by cases z)) e (r.less fun p z => z.elim .inl fun z => .inr (own_set (by decide) z))
      exact ⟨σ', by simp only [setAllW]; rw [if_pos (by rw [re.len]; exact hi)]; exact h1, h2⟩
    · cases e
  | [], _ :: _, _, _, _, _, _, e, _ => by cases e
  | _ :: _, [], _, _, _, _, _, e, _ => by cases e
theorem setT_ok {A : AH} {t : XT} {d : D} {v : W} {ρ ρ' : Env} {σ : HEnv} (re : VE H0 B0 ρ σ (gt A)) (e : setT ρ t d = some ρ') (r : Rt (Bad B0 ρ σ) (gt A) v d) (rp : (∃ i, t = .nm i) → Rp (Bad B0 ρ σ) (gt A) v d) : ∃ σ', setTW σ t v A = some σ' ∧ VE H0 B0 ρ' σ' (gt A) := by
  cases t with
  | nm i =>
    simp only [setT] at e
    split at e
    · rename_i hi
      cases e
      exact ⟨_, by simp only [setTW]; rw [if_pos (by rw [re.len]; exact hi)], re.put hi (by decide) (fun _ => rp ⟨i, rfl⟩) (fun z => by cases z)⟩
    · cases e
  | tp js =>
    cases d <;> simp only [setT] at e <;> try cases e
    · rename_i ds
      obtain ⟨p, vs, rfl, g1, _, g3⟩ := r
      have g1' : A[p]? = some vs := g1
      obtain ⟨σ', h1, h2⟩ := setAll_ok re e g3
      exact ⟨σ', by simp only [setTW, g1']; exact h1, h2⟩
    · rename_i ds
      obtain ⟨vs, rfl, _, g3⟩ := r.tup
      obtain ⟨σ', h1, h2⟩ := setAll_ok re e g3
      exact ⟨σ', by simp only [setTW]; exact h1, h2⟩
end
def lcF (Γ : Tab) (ρ : Env) (vs : List Nat) (tg : XT) (tt elt : XE) : D → Option (Option D) := fun d => match setT (blkE ρ vs) tg d with
  | some ρ1 => match ev Γ tt ρ1 with
    | some (.bool true) => if sfE ρ1 elt then (ev Γ elt ρ1).map some else none
    | some (.bool false) => some none
    | _ => none
  | none => none
section
variable {Γ : Tab} {Φ : Fns}
theorem ev_lc {vs : List Nat} {tg : XT} {it : XI} {tt elt : XE} {ρ : Env} : ev Γ (.lc vs tg it tt elt) ρ = match evi Γ it (ρ.map toArg) with
    | some ds => if ds.length ≤ lim then (lcGo (lcF Γ ρ vs tg tt elt) ds).map .list else none
    | none => none := by
  rw [ev]
  rfl
theorem lc_loop {H0 : Hq} {B0 : Nat → Prop} {ρ : Env} {σ : HEnv} {A1 : AH} {vs : List Nat} {tg : XT} {tt elt : XE} (ht : SE Γ Φ tt) (he : SE Γ Φ elt) (re : VE H0 B0 ρ σ (gt A1)) {g : Gd} (hg : ∀ p ∈ g, gt A1 p.1 = some p.2) :
    ∀ (ds : List D) (ws : List W) (A : AH) (out : List D), Sm (gt A1) (gt A) → RpAll (Bad B0 ρ σ) (gt A) ws ds → lcGo (lcF Γ ρ vs tg tt elt) ds = some out →
      ∃ r A2, lcW (lcFH Φ σ vs tg tt elt) g ws A = some (r, A2) ∧ Sm (gt A) (gt A2) ∧ RpAll (Bad B0 ρ σ) (gt A2) r out ∧ r.length ≤ ws.length
  | [], _, A, out, s, .nil, e => by
    cases e
    have ok : gOk g A := fun p hp => s _ _ (hg p hp)
    exact ⟨[], A, by unfold lcW; rw [if_pos ok], Sm.refl _, .nil, Nat.le_refl _⟩
  | d :: ds, w :: ws, A, out, s, .cons h r, e => by
    have ok : gOk g A := fun p hp => s _ _ (hg p hp)
    unfold lcGo at e
    generalize hf : lcF Γ ρ vs tg tt elt d = f at e
    unfold lcF at hf
    cases hs : setT (blkE ρ vs) tg d with
    | none => rw [hs] at hf; subst hf; cases e
    | some ρ1 =>
      rw [hs] at hf
      dsimp only at hf
      have reb : VE (gt A) (Bad B0 ρ σ) (blkE ρ vs) (wipeW σ vs) (gt A) := (re.mono s).blk (Sm.refl _)
      have hb : ∀ p, Bad (Bad B0 ρ σ) (blkE ρ vs) (wipeW σ vs) p → Bad B0 ρ σ p := fun p h => h.elim id fun h => (noOwn_blk p h).elim
      obtain ⟨σ1, h1, re1⟩ := setT_ok reb hs (h.less hb).rt (fun _ => h.less hb)
      split at hf
      · rename_i h2
        obtain ⟨u, A2, p2, s2, r2⟩ := ht _ _ _ _ _ _ re1 h2
        rw [r2.rt.bool] at p2
        split at hf
        rotate_left
        · subst hf; cases e
        rename_i hsf
        cases h3 : ev Γ elt ρ1 with
        | none => rw [h3] at hf; subst hf; cases e
        | some y =>
          rw [h3] at hf
          subst hf
          obtain ⟨v, A3, p3, s3, r3⟩ := he _ _ _ _ _ _ (re1.mono s2) h3
          have e : (match lcGo (lcF Γ ρ vs tg tt elt) ds with | none => none | some r => some (y :: r)) = some out := e
          split at e
          · cases e
          rename_i out' hout
          cases e
          have s23 := s2.trans s3
          obtain ⟨r', A4, p4, s4, r4, l4⟩ := lc_loop ht he re hg ds ws A3 out' (s.trans s23) (r.mono s23) hout
          refine ⟨v :: r', A4, ?_, s23.trans s4, .cons (((r3.rp hsf).less fun p hp => .inl hp).mono s4) r4, by simp; exact l4⟩
          unfold lcW
          rw [if_pos ok]
          simp only [lcFH, h1, p2, p3, p4]
      · rename_i h2
        subst hf
        obtain ⟨u, A2, p2, s2, r2⟩ := ht _ _ _ _ _ _ re1 h2
        rw [r2.rt.bool] at p2
        obtain ⟨r', A4, p4, s4, r4, l4⟩ := lc_loop ht he re hg ds ws A2 out (s.trans s2) (r.mono s2) e
        refine ⟨r', A4, ?_, s2.trans s4, r4, by simp; omega⟩
        unfold lcW
        rw [if_pos ok]
        simp only [lcFH, h1, p2, p4]
      · subst hf; cases e
theorem se_lc {vs : List Nat} {tg : XT} {it : XI} {tt elt : XE} (hi : SI Γ Φ it) (ht : SE Γ Φ tt) (he : SE Γ Φ elt) : SE Γ Φ (.lc vs tg it tt elt) := by
  intro H0 B0 ρ σ A d re e
  rw [ev_lc] at e
  split at e
  rotate_left
  · cases e
  rename_i ds h1
  split at e
  rotate_left
  · cases e
  rename_i hl
  obtain ⟨out, ho, rfl⟩ := Option.map_eq_some_iff.mp e
  obtain ⟨ws, g, A1, p1, s1, r1, hg⟩ := hi _ _ _ _ _ _ re.lock h1
  have r1' : RpAll (Bad B0 ρ σ) (gt A1) ws ds := r1.less fun p hp => .inl hp
  obtain ⟨r, A2, p2, s2, r2, l2⟩ := lc_loop ht he (re.mono s1) (fun p hp => (hg p hp).1) ds ws A1 out (Sm.refl _) r1' ho
  rw [← r1'.len] at hl
  have l : r.length ≤ lim := Nat.le_trans l2 hl
  exact ⟨_, _, by rw [evH_lc, p1]; simp only [hl, if_true, p2]; exact newL_ok l, (s1.trans s2).trans sm_new, (ResE.new ((re.mono s1).mono s2).hB l r2).back (s1.trans s2)⟩
mutual
theorem se (T : TabOk Γ Φ) : ∀ e : XE, SE Γ Φ e
  | .var i => se_var
  | .cst c => se_cst
  | .bin op a b => se_bin (se T a) (se T b)
  | .neg a => se_neg (se T a)
  | .not a => se_not (se T a)
  | .and a b => se_and (se T a) (se T b)
  | .or a b => se_or (se T a) (se T b)
  | .cmp op a b => se_cmp (se T a) (se T b)
  | .chn op op' a b c => se_chn (se T a) (se T b) (se T c)
  | .call f as => se_call T (ses T as)
  | .bi f as => se_bi (ses T as)
  | .isi a t => se_isi (se T a)
  | .ix a b => se_ix (se T a) (se T b)
  | .sl a lo hi => se_sl (se T a) (se T lo) (se T hi)
  | .lst as => se_lst (ses T as)
  | .tup as => se_tup (ses T as)
  | .lc vs tg it tt elt => se_lc (si T it) (se T tt) (se T elt)
theorem ses (T : TabOk Γ Φ) : ∀ as : XEs, SEs Γ Φ as
  | .nil => ses_nil
  | .cons a as => ses_cons (se T a) (ses T as)
theorem si (T : TabOk Γ Φ) : ∀ it : XI, SI Γ Φ it
  | .seq a => si_seq (se T a)
  | .rng as => si_rng (ses T as)
  | .zip a b => si_zip (se T a) (se T b)
  | .enu a => si_enu (se T a)
  | .enz a b => si_enz (se T a) (se T b)
end
end
end VI
set_option Elab.async false
set_option linter.all false
set_option maxRecDepth 100000
set_option maxHeartbeats 1000000
namespace VI
open PySem PySem.Spec PyProof.Rows L2
def Frs (H0 H : Hq) (B0 : Nat → Prop) (v : W) (d : D) : Prop := ∀ es, d = .list es → ∃ a ws, v = .ref a ∧ H0 a = none ∧ H a = some ws ∧ ws.length ≤ lim ∧ RpAll (fun q => B0 q ∨ q = a) H ws es
def PostV (H0 : Hq) (B0 : Nat → Prop) : Out → OutH → Prop
  | .nx ρ, .nx σ A => VE H0 B0 ρ σ (gt A)
  | .rt fr d, .rt w A => Sm H0 (gt A) ∧ Rp B0 (gt A) w d ∧ (fr = true → Frs H0 (gt A) B0 w d)
  | .bk ρ, .bk σ A => VE H0 B0 ρ σ (gt A)
  | .ct ρ, .ct σ A => VE H0 B0 ρ σ (gt A)
  | _, _ => False
def SS (Γ : Tab) (Φ : Fns) (s : XS) : Prop := ∀ (H0 : Hq) (B0 : Nat → Prop) (ρ : Env) (σ : HEnv) (A : AH) (o : Out), VE H0 B0 ρ σ (gt A) → ex Γ s ρ = some o → ∃ o', exH Φ s σ A = some o' ∧ PostV H0 B0 o o'
def SSs (Γ : Tab) (Φ : Fns) (s : XSs) : Prop := ∀ (H0 : Hq) (B0 : Nat → Prop) (ρ : Env) (σ : HEnv) (A : AH) (o : Out), VE H0 B0 ρ σ (gt A) → exs Γ s ρ = some o → ∃ o', exsH Φ s σ A = some o' ∧ PostV H0 B0 o o'
section
variable {Γ : Tab} {Φ : Fns}
theorem dem_var_own {ρ : Env} {i : Nat} {d : D} (h : ρ[i]? = some (some (.own, d))) : dem ρ (.var i) = ρ.set i (some (.shr, d)) := by
  rw [dem]
  simp only [h]
theorem isOwn_var {ρ : Env} {i : Nat} (h : isOwn ρ (.var i) = true) : ∃ ds, ρ[i]? = some (some (.own, .list ds)) := by
  have h : (ownL ρ i).isSome = true := h
  unfold ownL at h
  split at h
  · exact ⟨_, by assumption⟩
  · cases h
theorem dem_noown {ρ : Env} {j : Nat} {d : D} (h : (dem ρ (.var j))[j]? = some (some (.own, d))) : False := by
  have h : (match ρ[j]? with
    | some (some (.own, d)) => ρ.set j (some (.shr, d))
    | _ => ρ)[j]? = some (some (Sta.own, d)) := h
  split at h
  · rename_i d2 h2
    rw [set_at (List.getElem?_eq_some_iff.mp h2).1] at h
    cases h
  · rename_i hno
    exact hno d h
theorem sf_nonvar {ρ : Env} {e' : XE} (h : ¬ ∃ i, e' = .var i) : sfE ρ e' = true := by
  cases e' <;> first | rfl | exact absurd ⟨_, rfl⟩ h
theorem ownL_ok {ρ : Env} {i : Nat} {ds : List D} (h : ownL ρ i = some ds) : ρ[i]? = some (some (.own, .list ds)) := by
  unfold ownL at h
  split at h
  · cases h
    assumption
  · cases h
theorem VE.ownAt {H0 H : Hq} {B0 : Nat → Prop} {ρ : Env} {σ : HEnv} {i : Nat} {ds : List D} (re : VE H0 B0 ρ σ H) (h : ownL ρ i = some ds) : ∃ p vs, σ[i]? = some (some (.ref p)) ∧ H p = some vs ∧ vs.length ≤ lim ∧ RpAll (Bad B0 ρ σ) H vs ds := by
  obtain ⟨p, vs, ds', e, a, b, l, n, r⟩ := re.own i _ (ownL_ok h)
  cases e
  exact ⟨p, vs, a, b, l, r⟩
theorem ss_ret {e : XE} (he : SE Γ Φ e) : SS Γ Φ (.ret e) := by
  intro H0 B0 ρ σ A o re ee
  rw [ex] at ee
  split at ee
  rotate_left
  · cases ee
  rename_i d hd
  split at ee
  rotate_left
  · cases ee
  rename_i hsf
  cases ee
  have re' := re.dem e
  obtain ⟨w, A1, p1, s1, r1⟩ := he _ _ _ _ _ _ re' hd
  refine ⟨.rt w A1, by rw [exH, p1], re.ext.trans s1, (r1.rp hsf).less fun p h => .inl h, fun hf es ed => ?_⟩
  by_cases ho : isOwn ρ e = true
  · have hv : ∃ i, e = .var i := by cases e <;> first | exact ⟨_, rfl⟩ | cases ho
    obtain ⟨i, rfl⟩ := hv
    obtain ⟨ds, hown⟩ := isOwn_var ho
    obtain ⟨p, vs, ds', a, b, cc, l, n, r⟩ := re.own i _ hown
    cases a
    have hdd : d = .list ds := by
      rw [ev, dem_var_own hown, set_at (List.getElem?_eq_some_iff.mp hown).1] at hd
      cases hd
      rfl
    rw [hdd] at ed
    cases ed
    rw [evH, b] at p1
    cases p1
    exact ⟨p, vs, rfl, n, cc, l, r.less fun z hz => hz.elim .inl fun hz => .inr ⟨i, _, hown, by rw [hz]; exact b⟩⟩
  · have ho : isOwn ρ e = false := by simpa using ho
    rw [ho, Bool.or_false] at hf
    obtain ⟨a, ws, y1, y2, y3, y4, y5⟩ := r1.fr hf es ed
    exact ⟨a, ws, y1, re.ext.free y2, y3, y4, y5.less fun z hz => hz.elim (fun hz => .inl (.inl hz)) .inr⟩
theorem ss_asg {i : Nat} {e : XE} (he : SE Γ Φ e) : SS Γ Φ (.asg (.nm i) e) := by
  intro H0 B0 ρ σ A o re ee
  rw [ex] at ee
  split at ee
  rotate_left
  · cases ee
  rename_i d hd
  split at ee
  rotate_left
  · cases ee
  rename_i hi
  cases ee
  have re' := re.dem e
  obtain ⟨w, A1, p1, s1, r1⟩ := he _ _ _ _ _ _ re' hd
  have hi' : i < σ.length := by rw [re'.len]; exact hi
  refine ⟨.nx (σ.set i (some w)) A1, by rw [exH, p1]; simp only [setTW, hi', if_true, Option.map_some], ?_⟩
  show VE H0 B0 _ _ _
  by_cases hvar : ∃ j, e = .var j
  · obtain ⟨j, rfl⟩ := hvar
    rw [ev] at hd
    split at hd
    rotate_left
    · cases hd
    rename_i s d' hg
    cases hd
    have hs : staE Γ (dem ρ (.var j)) d (.var j) = if s = .arg then .arg else .shr := by
      unfold staE
      simp only [hg]
      cases s <;> rfl
    rw [hs]
    cases s with
    | own => exact (dem_noown hg).elim
    | shr => exact (re'.mono s1).put hi (by decide) (fun _ => r1.rp (by simp [sfE, hg])) (fun z => by cases z)
    | arg => exact (re'.mono s1).put hi (by decide) (fun z => by cases z) (fun _ => ⟨r1.rt, r1.no (by simp [isOwn, ownL, hg])⟩)
  · have hs : staE Γ (dem ρ e) d e = if isList d && frE Γ e then .own else .shr := by
      cases e <;> first | rfl | exact absurd ⟨_, rfl⟩ hvar
    rw [hs]
    split
    · rename_i hf
      rw [Bool.and_eq_true] at hf
      cases d with
      | list ds =>
        obtain ⟨a, ws, rfl, y2, y3, y4, y5⟩ := r1.fr hf.2 ds rfl
        exact re'.putN hi s1 y2 y3 y4 y5
      | _ => cases hf.1
    · exact (re'.mono s1).put hi (by decide) (fun _ => r1.rp (sf_nonvar hvar)) (fun z => by cases z)
theorem ss_strs {i : Nat} {a : XE} (ha : SE Γ Φ a) : SS Γ Φ (.strs i a) := by
  intro H0 B0 ρ σ A o re ee
  rw [ex] at ee
  split at ee
  · rename_i n hd
    split at ee
    · rename_i hh
      cases ee
      obtain ⟨w, A1, p1, s1, r1⟩ := ha _ _ _ _ _ _ re hd
      have r2 := r1.rt
      have hi' : i < σ.length := by rw [re.len]; exact hh.1
      cases r2
      refine ⟨.nx (σ.set i (some (.str (toString n)))) A1, by rw [exH, p1]; simp only [hi', hh.2, and_self, if_true], ?_⟩
      exact (re.mono s1).put hh.1 (by decide) (fun _ => .str _) (fun z => by cases z)
    · cases ee
  · rename_i p q hd
    split at ee
    · rename_i hh
      cases ee
      obtain ⟨w, A1, p1, s1, r1⟩ := ha _ _ _ _ _ _ re hd
      have r2 := r1.rt
      have hi' : i < σ.length := by rw [re.len]; exact hh.1
      obtain rfl : w = .tup [.int p, .int q] := by
        cases r2 with
        | tup l r =>
          cases r with
          | cons a b =>
            cases b with
            | cons b c =>
              cases c
              cases a
              cases b
              rfl
      refine ⟨.nx (σ.set i none) A1, by rw [exH, p1]; simp only [hi', hh.2.1, hh.2.2, and_self, if_true], ?_⟩
      exact (re.mono s1).drop
    · cases ee
  · cases ee
theorem ss_asgT {js : List Nat} {e : XE} (he : SE Γ Φ e) : SS Γ Φ (.asg (.tp js) e) := by
  intro H0 B0 ρ σ A o re ee
  rw [ex] at ee
  split at ee
  · rename_i d hd
    obtain ⟨ρ', e1, rfl⟩ := Option.map_eq_some_iff.mp ee
    obtain ⟨w, A1, p1, s1, r1⟩ := he _ _ _ _ _ _ re hd
    obtain ⟨σ', h1, h2⟩ := setT_ok (re.mono s1) e1 r1.rt (fun ⟨_, z⟩ => by cases z)
    exact ⟨.nx σ' A1, by rw [exH, p1]; simp only [h1, Option.map_some], h2⟩
  · cases ee
theorem ss_par {js : List Nat} {as : XEs} (ha : SEs Γ Φ as) : SS Γ Φ (.par js as) := by
  intro H0 B0 ρ σ A o re ee
  rw [ex] at ee
  split at ee
  · rename_i ds hd
    split at ee
    · rename_i hh
      obtain ⟨ρ', e1, rfl⟩ := Option.map_eq_some_iff.mp ee
      obtain ⟨ws, A1, p1, s1, r1, r2⟩ := ha _ _ _ _ _ _ re hd
      obtain ⟨σ', h1, h2⟩ := setAll_ok (re.mono s1) e1 (r2 hh.1)
      have l : ws.length ≤ lim := by rw [r1.len]; exact hh.2
      exact ⟨.nx σ' A1, by rw [exH, p1]; simp only [l, if_true, h1, Option.map_some], h2⟩
    · cases ee
  · cases ee
theorem VE.store {H0 : Hq} {B0 : Nat → Prop} {ρ : Env} {σ : HEnv} {A : AH} {i p : Nat} {ds es : List D} {ws us : List W} (re : VE H0 B0 ρ σ (gt A)) (h : ownL ρ i = some ds) (hσ : σ[i]? = some (some (.ref p))) (hp : gt A p = some us) (l : ws.length ≤ lim) (r : RpAll (Bad B0 ρ σ) (gt A) ws es) :
    VE H0 B0 (ρ.set i (some (.own, .list es))) σ (gt (A.set p ws)) := by
  rw [gt_set hp]
  exact re.mut (ownL_ok h) hσ l r
theorem evH_own {ρ : Env} {σ : HEnv} {A : AH} {i p : Nat} (hσ : σ[i]? = some (some (.ref p))) : evH Φ (.var i) σ A = some (.ref p, A) := by rw [evH, hσ]
theorem ss_setx {i : Nat} {k e : XE} (hk : SE Γ Φ k) (he : SE Γ Φ e) : SS Γ Φ (.setx (.var i) k e) := by
  intro H0 B0 ρ σ A o re ee
  rw [ex] at ee
  split at ee
  rotate_left
  · cases ee
  rename_i d ds j hd hds hj
  split at ee
  rotate_left
  · cases ee
  rename_i m hm
  split at ee
  rotate_left
  · cases ee
  rename_i hsf
  cases ee
  obtain ⟨w, A1, p1, s1, r1⟩ := he _ _ _ _ _ _ (re.dem e) hd
  have re1 := (re.dem e).mono s1
  obtain ⟨q, vs, g1, g2, g3, g4⟩ := re1.ownAt hds
  obtain ⟨u, A2, p2, s2, r2⟩ := hk _ _ _ _ _ _ re1 hj
  rw [r2.rt.int] at p2
  have re2 := re1.mono s2
  have g2' : A2[q]? = some vs := s2 _ _ g2
  refine ⟨.nx σ (A2.set q (vs.set m w)), by rw [exH, p1]; simp only [evH_own (ρ := ρ) g1, p2, putW, g2', setN, g4.len, hm, Option.map_some], ?_⟩
  exact re2.store hds g1 (s2 _ _ g2) (by rw [List.length_set]; exact g3) ((g4.mono s2).set m ((r1.rp hsf).mono s2))
theorem ss_app {i : Nat} {e : XE} (he : SE Γ Φ e) : SS Γ Φ (.app (.var i) e) := by
  intro H0 B0 ρ σ A o re ee
  rw [ex] at ee
  split at ee
  rotate_left
  · cases ee
  rename_i ds d hds hd
  split at ee
  rotate_left
  · cases ee
  rename_i hh
  cases ee
  have re0 := re.dem e
  obtain ⟨q, vs, g1, g2, g3, g4⟩ := re0.ownAt hds
  obtain ⟨w, A1, p1, s1, r1⟩ := he _ _ _ _ _ _ re0 hd
  have g2' : A1[q]? = some vs := s1 _ _ g2
  have hlen : vs.length < lim := by rw [g4.len]; exact hh.2
  refine ⟨.nx σ (A1.set q (vs ++ [w])), by rw [exH, evH_own (ρ := ρ) g1]; simp only [p1, putW, g2', appN, hlen, if_true, Option.map_some], ?_⟩
  exact (re0.mono s1).store hds g1 (s1 _ _ g2) (by rw [List.length_append, List.length_singleton]; exact hlen) ((g4.mono s1).app (.cons (r1.rp hh.1) .nil))
theorem ss_ins {i : Nat} {k e : XE} (hk : SE Γ Φ k) (he : SE Γ Φ e) : SS Γ Φ (.ins (.var i) k e) := by
  intro H0 B0 ρ σ A o re ee
  rw [ex] at ee
  split at ee
  rotate_left
  · cases ee
  rename_i ds j d hds hj hd
  split at ee
  rotate_left
  · cases ee
  rename_i hh
  cases ee
  have re0 := re.dem e
  obtain ⟨q, vs, g1, g2, g3, g4⟩ := re0.ownAt hds
  obtain ⟨u, A1, p1, s1, r1⟩ := hk _ _ _ _ _ _ re0 hj
  rw [r1.rt.int] at p1
  obtain ⟨w, A2, p2, s2, r2⟩ := he _ _ _ _ _ _ (re0.mono s1) hd
  have g5 := (g4.mono s1).mono s2
  have g2' : A2[q]? = some vs := s2 _ _ (s1 _ _ g2)
  have hlen : vs.length < lim := by rw [g4.len]; exact hh.2.1
  refine ⟨.nx σ (A2.set q (vs.take j.toNat ++ [w] ++ vs.drop j.toNat)), by rw [exH, evH_own (ρ := ρ) g1]; simp only [p1, p2, putW, g2', insN, hlen, hh.2.2, and_self, if_true, Option.map_some], ?_⟩
  exact ((re0.mono s1).mono s2).store hds g1 (s2 _ _ (s1 _ _ g2)) (by simp only [List.length_append, List.length_take, List.length_drop, List.length_singleton]; omega) (((g5.take j.toNat).app (.cons (r2.rp hh.1) .nil)).app (g5.drop j.toNat))
theorem ss_pop {i j : Nat} {k : XE} (hk : SE Γ Φ k) : SS Γ Φ (.pop i (.var j) k) := by
  intro H0 B0 ρ σ A o re ee
  rw [ex] at ee
  split at ee
  rotate_left
  · cases ee
  rename_i ds m hds hm
  split at ee
  rotate_left
  · cases ee
  rename_i hh
  split at ee
  rotate_left
  · cases ee
  rename_i d hd
  cases ee
  obtain ⟨q, vs, g1, g2, g3, g4⟩ := re.ownAt hds
  obtain ⟨u, A1, p1, s1, r1⟩ := hk _ _ _ _ _ _ re hm
  rw [r1.rt.int] at p1
  have g2' : A1[q]? = some vs := s1 _ _ g2
  have g5 := g4.mono s1
  obtain ⟨w, y1, y2⟩ := g5.get hd
  have hil : i < σ.length := by rw [re.len]; exact hh.2.2
  refine ⟨.nx (σ.set i (some w)) (A1.set q (vs.eraseIdx m.toNat)), by rw [exH, evH_own (ρ := ρ) g1]; simp only [p1, g2', hh.1, g3, hil, and_self, if_true, y1], ?_⟩
  have re2 := (re.mono s1).store hds g1 (s1 _ _ g2) (ws := vs.eraseIdx m.toNat) (es := ds.eraseIdx m.toNat) (Nat.le_trans (len_eraseV vs m.toNat) g3) (g5.erase m.toNat)
  refine re2.put (by rw [List.length_set]; exact hh.2.2) (by decide) (fun _ => ?_) (fun z => by cases z)
  rw [gt_set (s1 _ _ g2)]
  refine y2.tr fun b oo qq nb => ?_
  have hba : b ≠ q := fun z => nb (.inr (by rw [z]; exact ⟨j, _, ownL_ok hds, g1⟩))
  refine ⟨by rw [updq_ne hba]; exact qq, fun z => ?_⟩
  rcases z with z | ⟨j', y, z1, z2⟩
  · exact nb (.inl z)
  · rcases getset z1 with ⟨rfl, _, _⟩ | ⟨_, z1⟩
    · rw [g1] at z2
      exact hba (W.ref.inj (Option.some.inj (Option.some.inj z2))).symm
    · exact nb (.inr ⟨j', y, z1, z2⟩)
theorem ss_rem {i : Nat} {e : XE} (he : SE Γ Φ e) : SS Γ Φ (.rem (.var i) e) := by
  intro H0 B0 ρ σ A o re ee
  rw [ex] at ee
  split at ee
  rotate_left
  · cases ee
  rename_i ds d hds hd
  split at ee
  rotate_left
  · cases ee
  rename_i r hr
  cases ee
  unfold remD at hr
  split at hr
  rotate_left
  · cases hr
  rename_i hsh
  obtain ⟨j, hj, rfl⟩ := Option.map_eq_some_iff.mp hr
  obtain ⟨q, vs, g1, g2, g3, g4⟩ := re.ownAt hds
  obtain ⟨w, A1, p1, s1, r1⟩ := he _ _ _ _ _ _ re hd
  have g2' : A1[q]? = some vs := s1 _ _ g2
  refine ⟨.nx σ (A1.set q (vs.eraseIdx j)), by rw [exH, evH_own (ρ := ρ) g1]; simp only [p1, putW, g2', remN, denL_eq (g4.mono s1).den, den_eq r1.rt.den, hsh, if_true, hj, Option.map_some], ?_⟩
  exact (re.mono s1).store hds g1 (s1 _ _ g2) (Nat.le_trans (len_eraseV vs j) g3) ((g4.mono s1).erase j)
theorem ss_aug {i : Nat} {op : Operator} {e : XE} (he : SE Γ Φ e) : SS Γ Φ (.aug i op e) := by
  intro H0 B0 ρ σ A o re ee
  rw [ex] at ee
  split at ee
  rotate_left
  · cases ee
  rename_i s a b h1 h2
  obtain ⟨v, g1, g2, _⟩ := re.get h1
  rw [g2.int] at g1
  obtain ⟨w, A1, p1, s1, r1⟩ := he _ _ _ _ _ _ re h2
  rw [r1.rt.int] at p1
  have hi := (List.getElem?_eq_some_iff.mp h1).1
  split at ee <;> cases ee
  · exact ⟨.nx (σ.set i (some (.int (a + b)))) A1, by rw [exH, g1]; simp only [p1], (re.mono s1).put hi (by decide) (fun _ => .int _) (fun z => by cases z)⟩
  · exact ⟨.nx (σ.set i (some (.int (a - b)))) A1, by rw [exH, g1]; simp only [p1], (re.mono s1).put hi (by decide) (fun _ => .int _) (fun z => by cases z)⟩
theorem ss_swp {i i' : Nat} {k1 k2 e1 e2 : XE} (hk1 : SE Γ Φ k1) (hk2 : SE Γ Φ k2) (he1 : SE Γ Φ e1) (he2 : SE Γ Φ e2) : SS Γ Φ (.swp (.var i) k1 (.var i') k2 e1 e2) := by
  intro H0 B0 ρ σ A o re ee
  rw [ex] at ee
  split at ee
  rotate_left
  · cases ee
  rename_i hii
  subst hii
  split at ee
  rotate_left
  · cases ee
  rename_i d1 d2 ds j1 hd1 hd2 hds hj1
  split at ee
  rotate_left
  · cases ee
  rename_i m1 hm1
  split at ee
  rotate_left
  · cases ee
  rename_i hsf
  rw [Bool.and_eq_true] at hsf
  split at ee
  rotate_left
  · cases ee
  rename_i j2 hj2
  split at ee
  rotate_left
  · cases ee
  rename_i m2 hm2
  cases ee
  obtain ⟨v1, A1, p1, s1, r1⟩ := he1 _ _ _ _ _ _ re hd1
  obtain ⟨v2, A2, p2, s2, r2⟩ := he2 _ _ _ _ _ _ (re.mono s1) hd2
  have re2 := (re.mono s1).mono s2
  obtain ⟨q, vs, g1, g2, g3, g4⟩ := re2.ownAt hds
  obtain ⟨u1, A3, p3, s3, r3⟩ := hk1 _ _ _ _ _ _ re2 hj1
  rw [r3.rt.int] at p3
  have re3 := re2.mono s3
  have c2 : gt A3 q = some vs := s3 _ _ g2
  have c2' : A3[q]? = some vs := c2
  have re4 := re3.store hds g1 c2 (ws := vs.set m1 v1) (es := ds.set m1 d1) (by rw [List.length_set]; exact g3) ((g4.mono s3).set m1 (((r1.rp hsf.1).mono s2).mono s3))
  obtain ⟨u2, A5, p5, s5, r5⟩ := hk2 _ _ _ _ _ _ re4 hj2
  rw [r5.rt.int] at p5
  have re5 := re4.mono s5
  have hi : i < ρ.length := (List.getElem?_eq_some_iff.mp (ownL_ok hds)).1
  have ho5 : ownL (ρ.set i (some (Sta.own, PyData.list (ds.set m1 d1)))) i = some (ds.set m1 d1) := by
    unfold ownL
    rw [set_at hi]
  obtain ⟨q', vs', b1, b2, b3, b4⟩ := re5.ownAt ho5
  rw [g1] at b1
  cases b1
  have hq3 : gt (A3.set q (vs.set m1 v1)) q = some (vs.set m1 v1) := by rw [gt_set c2, updq_same]
  have hvs : vs' = vs.set m1 v1 := by
    have := s5 _ _ hq3
    rw [b2] at this
    exact Option.some.inj this
  subst hvs
  have b2' : A5[q]? = some (vs.set m1 v1) := b2
  have ml : (vs.set m1 v1).length = ds.length := by rw [List.length_set, g4.len]
  refine ⟨.nx σ (A5.set q ((vs.set m1 v1).set m2 v2)), ?_, ?_⟩
  · rw [exH, p1]
    simp only [p2, evH_own (ρ := ρ) g1, p3, putW, c2', setN, g4.len, hm1, Option.map_some, p5, b2', ml, hm2]
  · have rv2 : Rp (Bad B0 (ρ.set i (some (Sta.own, PyData.list (ds.set m1 d1)))) σ) (gt A5) v2 d2 := by
      have x1 : Rp (Bad B0 ρ σ) (gt A3) v2 d2 := (r2.rp hsf.2).mono s3
      have x2 : Rp (Bad B0 (ρ.set i (some (Sta.own, PyData.list (ds.set m1 d1)))) σ) (gt (A3.set q (vs.set m1 v1))) v2 d2 := by
        rw [gt_set c2]
        refine x1.tr fun b o qq nb => ?_
        have hba : b ≠ q := fun z => nb (.inr (by rw [z]; exact ⟨i, _, ownL_ok hds, g1⟩))
        refine ⟨by rw [updq_ne hba]; exact qq, fun z => ?_⟩
        rcases z with z | ⟨j, y, y1, y2⟩
        · exact nb (.inl z)
        · rcases getset y1 with ⟨rfl, _, _⟩ | ⟨_, y1⟩
          · rw [g1] at y2
            exact hba (W.ref.inj (Option.some.inj (Option.some.inj y2))).symm
          · exact nb (.inr ⟨j, y, y1, y2⟩)
      exact x2.mono s5
    have re6 := re5.store ho5 g1 b2 (ws := (vs.set m1 v1).set m2 v2) (es := (ds.set m1 d1).set m2 d2) (by rw [List.length_set, List.length_set]; exact g3) (b4.set m2 rv2)
    rw [List.set_set] at re6
    exact re6
theorem ss_exp {e : XE} (he : SE Γ Φ e) : SS Γ Φ (.exp e) := by
  intro H0 B0 ρ σ A o re ee
  rw [ex] at ee
  split at ee
  · rename_i d hd
    cases ee
    obtain ⟨w, A1, p1, s1, r1⟩ := he _ _ _ _ _ _ re hd
    exact ⟨.nx σ A1, by rw [exH, p1], re.mono s1⟩
  · cases ee
theorem ss_ife {c : XE} {a b : XSs} (hc : SE Γ Φ c) (ha : SSs Γ Φ a) (hb : SSs Γ Φ b) : SS Γ Φ (.ife c a b) := by
  intro H0 B0 ρ0 σ A o re0 ee
  rw [ex] at ee
  have re := re0.dem c
  generalize dem ρ0 c = ρ at re ee
  split at ee
  · rename_i hd
    obtain ⟨w, A1, p1, s1, r1⟩ := hc _ _ _ _ _ _ re hd
    rw [r1.rt.bool] at p1
    obtain ⟨o', h1, h2⟩ := ha _ _ _ _ _ _ (re.mono s1) ee
    exact ⟨o', by rw [exH, p1]; exact h1, h2⟩
  · rename_i hd
    obtain ⟨w, A1, p1, s1, r1⟩ := hc _ _ _ _ _ _ re hd
    rw [r1.rt.bool] at p1
    obtain ⟨o', h1, h2⟩ := hb _ _ _ _ _ _ (re.mono s1) ee
    exact ⟨o', by rw [exH, p1]; exact h1, h2⟩
  · cases ee
theorem sss_nil : SSs Γ Φ .nil := by
  intro H0 B0 ρ σ A o re ee
  rw [exs] at ee
  cases ee
  exact ⟨.nx σ A, by rw [exsH], re⟩
theorem sss_cons {s : XS} {ss : XSs} (h1 : SS Γ Φ s) (h2 : SSs Γ Φ ss) : SSs Γ Φ (.cons s ss) := by
  intro H0 B0 ρ σ A o re ee
  rw [exs] at ee
  cases h : ex Γ s ρ with
  | none => rw [h] at ee; cases ee
  | some o1 =>
    rw [h] at ee
    obtain ⟨o', p1, q⟩ := h1 _ _ _ _ _ _ re h
    cases o1 with
    | nx ρ' =>
      cases o' with
      | nx σ' A' =>
        obtain ⟨o2, p2, q2⟩ := h2 _ _ _ _ _ _ q ee
        exact ⟨o2, by rw [exsH, p1]; exact p2, q2⟩
      | _ => exact q.elim
    | rt fr d =>
      cases ee
      cases o' with
      | rt w A' => exact ⟨.rt w A', by rw [exsH, p1], q⟩
      | _ => exact q.elim
    | bk ρ' =>
      cases ee
      cases o' with
      | bk σ' A' => exact ⟨.bk σ' A', by rw [exsH, p1], q⟩
      | _ => exact q.elim
    | ct ρ' =>
      cases ee
      cases o' with
      | ct σ' A' => exact ⟨.ct σ' A', by rw [exsH, p1], q⟩
      | _ => exact q.elim
def whlNV (t : Env → Option D) (f : Env → Option Out) : Nat → Env → Option Out
  | 0, _ => none
  | n + 1, ρ => match t ρ with
    | some (.bool true) => match f ρ with
      | some (.nx ρ') => whlNV t f n ρ'
      | some (.ct ρ') => whlNV t f n ρ'
      | some (.bk ρ') => some (.nx ρ')
      | some (.rt fr x) => some (.rt fr x)
      | none => none
    | some (.bool false) => some (.nx ρ)
    | _ => none
theorem whlV_n (t : Env → Option D) (f : Env → Option Out) : ∀ (ρ : Env) (o : Out), whlGo t f ρ = some o → ∃ n, whlNV t f n ρ = some o := by
  apply whlGo.partial_correctness t f (fun ρ o => ∃ n, whlNV t f n ρ = some o)
  intro g ih ρ o h
  split at h
  · rename_i h1
    split at h
    · rename_i ρ' h2
      obtain ⟨n, hn⟩ := ih _ _ h
      exact ⟨n + 1, by simp only [whlNV, h1, h2, hn]⟩
    · rename_i ρ' h2
      obtain ⟨n, hn⟩ := ih _ _ h
      exact ⟨n + 1, by simp only [whlNV, h1, h2, hn]⟩
    · rename_i ρ' h2
      exact ⟨1, by simp only [whlNV, h1, h2, h]⟩
    · rename_i fr x h2
      cases h
      exact ⟨1, by simp only [whlNV, h1, h2]⟩
    · cases h
  · rename_i h1
    exact ⟨1, by simp only [whlNV, h1, h]⟩
  · cases h
theorem ss_whl {c : XE} {b : XSs} (hc : SE Γ Φ c) (hb : SSs Γ Φ b) : SS Γ Φ (.whl c b) := by
  intro H0 B0 ρ σ A o re ee
  rw [ex] at ee
  obtain ⟨n, hn⟩ := whlV_n _ _ _ _ ee
  rw [exH]
  clear ee
  induction n generalizing ρ σ A with
  | zero => cases hn
  | succ n ih =>
    rw [whlH]
    simp only [whlNV] at hn
    split at hn
    · rename_i h1
      obtain ⟨w, A1, p1, s1, r1⟩ := hc _ _ _ _ _ _ re h1
      rw [r1.rt.bool] at p1
      simp only [p1]
      split at hn
      · rename_i ρ' h2
        obtain ⟨o', p2, q⟩ := hb _ _ _ _ _ _ (re.mono s1) h2
        cases o' with
        | nx σ' A' => simp only [p2]; exact ih _ _ _ q hn
        | _ => exact q.elim
      · rename_i ρ' h2
        obtain ⟨o', p2, q⟩ := hb _ _ _ _ _ _ (re.mono s1) h2
        cases o' with
        | ct σ' A' => simp only [p2]; exact ih _ _ _ q hn
        | _ => exact q.elim
      · rename_i ρ' h2
        cases hn
        obtain ⟨o', p2, q⟩ := hb _ _ _ _ _ _ (re.mono s1) h2
        cases o' with
        | bk σ' A' => simp only [p2]; exact ⟨_, rfl, q⟩
        | _ => exact q.elim
      · rename_i fr x h2
        cases hn
        obtain ⟨o', p2, q⟩ := hb _ _ _ _ _ _ (re.mono s1) h2
        cases o' with
        | rt w A' => simp only [p2]; exact ⟨_, rfl, q⟩
        | _ => exact q.elim
      · cases hn
    · rename_i h1
      cases hn
      obtain ⟨w, A1, p1, s1, r1⟩ := hc _ _ _ _ _ _ re h1
      rw [r1.rt.bool] at p1
      simp only [p1]
      exact ⟨_, rfl, re.mono s1⟩
    · cases hn
open Classical in
noncomputable def gd (ρ : Env) (σ : HEnv) (H : Hq) : Hq := fun a => if Own ρ σ a then none else H a
theorem gd_some {ρ : Env} {σ : HEnv} {H : Hq} {a : Nat} {o : List W} : gd ρ σ H a = some o ↔ ¬ Own ρ σ a ∧ H a = some o := by
  unfold gd
  split <;> simp_all
theorem gd_none {ρ : Env} {σ : HEnv} {H : Hq} {a : Nat} (h : Own ρ σ a) : gd ρ σ H a = none := by
  unfold gd
  rw [if_pos h]
theorem gd_same {ρ : Env} {σ : HEnv} {H : Hq} : Sm (gd ρ σ H) H := fun a o h => (gd_some.mp h).2
theorem gd_over {H0 H : Hq} {B0 : Nat → Prop} {ρ : Env} {σ : HEnv} (re : VE H0 B0 ρ σ H) : Sm H0 (gd ρ σ H) := fun a o h => by
  refine gd_some.mpr ⟨fun ⟨i, d, h1, h2⟩ => ?_, re.ext _ _ h⟩
  obtain ⟨q, _, _, _, b, _, _, n, _⟩ := re.own i d h1
  rw [h2] at b
  cases b
  rw [n] at h
  cases h
theorem VE.guard {H0 H : Hq} {B0 : Nat → Prop} {ρ : Env} {σ : HEnv} (re : VE H0 B0 ρ σ H) : VE (gd ρ σ H) B0 ρ σ H := by
  refine ⟨gd_same, fun p h z => re.bad p h ((gd_over re).free z), re.len, re.shr, re.arg, fun i d h => ?_, re.dist⟩
  obtain ⟨p, vs, ds, a, b, c, l, n, r⟩ := re.own i d h
  exact ⟨p, vs, ds, a, b, c, l, gd_none ⟨i, d, h, b⟩, r⟩
theorem VE.unguard {H0 G H : Hq} {B0 : Nat → Prop} {ρ : Env} {σ : HEnv} (s : Sm H0 G) (hb : ∀ p, B0 p → H0 p ≠ none) (re : VE G B0 ρ σ H) : VE H0 B0 ρ σ H := by
  refine ⟨s.trans re.ext, hb, re.len, re.shr, re.arg, fun i d h => ?_, re.dist⟩
  obtain ⟨p, vs, ds, a, b, c, l, n, r⟩ := re.own i d h
  exact ⟨p, vs, ds, a, b, c, l, s.free n, r⟩
def forF (Γ : Tab) (tg : XT) (b : XSs) : D → Env → Option Out := fun d ρ => match setT ρ tg d with
  | some ρ1 => exs Γ b ρ1
  | none => none
theorem ex_for {tg : XT} {it : XI} {b : XSs} {ρ0 : Env} : ex Γ (.for tg it b) ρ0 = match evi Γ it (demI ρ0 it) with
    | some ds => forGo (forF Γ tg b) ds (demI ρ0 it)
    | none => none := by
  rw [ex]
  rfl
theorem rp_on {G H : Hq} {B0 : Nat → Prop} {ρ : Env} {σ : HEnv} {ws : List W} {ds : List D} (re : VE G B0 ρ σ H) (r : RpAll B0 G ws ds) : RpAll (Bad B0 ρ σ) H ws ds := by
  refine r.tr fun a o q n => ⟨re.ext _ _ q, fun z => ?_⟩
  rcases z with z | ⟨i, d, h1, h2⟩
  · exact n z
  · obtain ⟨p, _, _, _, b, _, _, nn, _⟩ := re.own i d h1
    rw [h2] at b
    cases b
    rw [nn] at q
    cases q
theorem for_loop {G : Hq} {B0 : Nat → Prop} {tg : XT} {b : XSs} (hb : SSs Γ Φ b) {g : Gd} (hg : ∀ p ∈ g, G p.1 = some p.2) :
    ∀ (ds : List D) (ws : List W) (ρ : Env) (σ : HEnv) (A : AH) (o : Out), VE G B0 ρ σ (gt A) → RpAll B0 G ws ds → forGo (forF Γ tg b) ds ρ = some o → ∃ o', forH (forFH Φ tg b) g ws σ A = some o' ∧ PostV G B0 o o'
  | [], _, ρ, σ, A, o, re, .nil, e => by
    cases e
    have ok : gOk g A := fun p hp => re.ext _ _ (hg p hp)
    exact ⟨.nx σ A, by unfold forH; rw [if_pos ok], re⟩
  | d :: ds, w :: ws, ρ, σ, A, o, re, .cons h r, e => by
    have ok : gOk g A := fun p hp => re.ext _ _ (hg p hp)
    unfold forH
    rw [if_pos ok]
    unfold forGo at e
    have hr : Rp (Bad B0 ρ σ) (gt A) w d := by
      cases rp_on re (.cons h (.nil : RpAll B0 G [] [])) with
      | cons h _ => exact h
    generalize hf : forF Γ tg b d ρ = f at e
    unfold forF at hf
    cases hs : setT ρ tg d with
    | none => rw [hs] at hf; subst hf; cases e
    | some ρ1 =>
      rw [hs] at hf
      dsimp only at hf
      obtain ⟨σ1, h1, re1⟩ := setT_ok re hs hr.rt (fun _ => hr)
      cases f with
      | none => cases e
      | some f =>
        obtain ⟨o', p1, q⟩ := hb _ _ _ _ _ _ re1 hf
        have hF : forFH Φ tg b w σ A = some o' := by unfold forFH; rw [h1]; exact p1
        rw [hF]
        cases f with
        | nx ρ' =>
          cases o' with
          | nx σ' A' => exact for_loop hb hg ds ws ρ' σ' A' o q r e
          | _ => exact q.elim
        | ct ρ' =>
          cases o' with
          | ct σ' A' => exact for_loop hb hg ds ws ρ' σ' A' o q r e
          | _ => exact q.elim
        | bk ρ' =>
          cases e
          cases o' with
          | bk σ' A' => exact ⟨_, rfl, q⟩
          | _ => exact q.elim
        | rt fr x =>
          cases e
          cases o' with
          | rt w A' => exact ⟨_, rfl, q⟩
          | _ => exact q.elim
theorem PostV.unguard {H0 G : Hq} {B0 : Nat → Prop} (s : Sm H0 G) (hb : ∀ p, B0 p → H0 p ≠ none) : ∀ {o : Out} {o' : OutH}, PostV G B0 o o' → PostV H0 B0 o o'
  | .nx _, .nx _ _, q => VE.unguard s hb q
  | .bk _, .bk _ _, q => VE.unguard s hb q
  | .ct _, .ct _ _, q => VE.unguard s hb q
  | .rt _ _, .rt _ _, ⟨a, b, c⟩ => ⟨s.trans a, b, fun hf es ee => let ⟨p, ws, x1, x2, x3⟩ := c hf es ee; ⟨p, ws, x1, s.free x2, x3⟩⟩
theorem ss_for {tg : XT} {it : XI} {b : XSs} (hi : SI Γ Φ it) (hb : SSs Γ Φ b) : SS Γ Φ (.for tg it b) := by
  intro H0 B0 ρ0 σ A o re0 ee
  rw [ex_for] at ee
  have re := re0.demI it
  generalize demI ρ0 it = ρ at re ee
  split at ee
  rotate_left
  · cases ee
  rename_i ds hds
  obtain ⟨ws, g, A1, p1, s1, r1, hg⟩ := hi _ _ _ _ _ _ re hds
  have re1 := re.mono s1
  have sG := gd_over re1
  obtain ⟨o', p2, q⟩ := for_loop (tg := tg) hb (g := g) (fun p hp => gd_some.mpr ⟨(hg p hp).2, (hg p hp).1⟩) ds ws ρ σ A1 o re1.guard
    (r1.tr fun a o q n => ⟨gd_some.mpr ⟨fun z => n (.inr z), q⟩, fun z => n (.inl z)⟩) ee
  exact ⟨o', by rw [exH_for, p1]; exact p2, q.unguard sG re.bad⟩
mutual
theorem vs (T : TabOk Γ Φ) : ∀ s : XS, SS Γ Φ s
  | .asg (.nm i) e => ss_asg (se T e)
  | .asg (.tp js) e => ss_asgT (se T e)
  | .par js as => ss_par (ses T as)
  | .setx a k e => by
    cases a with
    | var i => exact ss_setx (se T k) (se T e)
    | _ => intro H0 B0 ρ σ A o re ee; simp [ex] at ee
  | .swp a k1 b k2 e1 e2 => by
    cases a with
    | var i =>
      cases b with
      | var i' => exact ss_swp (se T k1) (se T k2) (se T e1) (se T e2)
      | _ => intro H0 B0 ρ σ A o re ee; simp [ex] at ee
    | _ => intro H0 B0 ρ σ A o re ee; simp [ex] at ee
  | .aug i op e => ss_aug (se T e)
  | .app a e => by
    cases a with
    | var i => exact ss_app (se T e)
    | _ => intro H0 B0 ρ σ A o re ee; simp [ex] at ee
  | .ins a k e => by
    cases a with
    | var i => exact ss_ins (se T k) (se T e)
    | _ => intro H0 B0 ρ σ A o re ee; simp [ex] at ee
  | .pop i' a k => by
    cases a with
    | var i => exact ss_pop (se T k)
    | _ => intro H0 B0 ρ σ A o re ee; simp [ex] at ee
  | .rem a e => by
    cases a with
    | var i => exact ss_rem (se T e)
    | _ => intro H0 B0 ρ σ A o re ee; simp [ex] at ee
  | .exp e => ss_exp (se T e)
  | .strs i e => ss_strs (se T e)
  | .ret e => ss_ret (se T e)
  | .ife c a b => ss_ife (se T c) (vss T a) (vss T b)
  | .whl c b => ss_whl (se T c) (vss T b)
  | .for tg it b => ss_for (si T it) (vss T b)
  | .cont => fun H0 B0 ρ σ A o re e => by rw [ex] at e; cases e; exact ⟨.ct σ A, by rw [exH], re⟩
  | .brk => fun H0 B0 ρ σ A o re e => by rw [ex] at e; cases e; exact ⟨.bk σ A, by rw [exH], re⟩
  | .pass => fun H0 B0 ρ σ A o re e => by rw [ex] at e; cases e; exact ⟨.nx σ A, by rw [exH], re⟩
  | .stop => fun H0 B0 ρ σ A o re e => by simp [ex] at e
theorem vss (T : TabOk Γ Φ) : ∀ s : XSs, SSs Γ Φ s
  | .nil => sss_nil
  | .cons s ss => sss_cons (vs T s) (vss T ss)
end
end
theorem startE_get {ls : Bool} {n : Nat} {ds : List D} {i : Nat} {s : Sta} {d : D} (h : (startE ls n ds)[i]? = some (some (s, d))) : ds[i]? = some d ∧ s = if ls || !isList d then .shr else .arg := by
  unfold startE at h
  by_cases hi : i < ds.length
  · rw [List.getElem?_append_left (by simpa using hi), List.getElem?_map, Option.map_eq_some_iff] at h
    obtain ⟨d', h1, h2⟩ := h
    cases h2
    exact ⟨h1, rfl⟩
  · rw [List.getElem?_append_right (by simpa using hi)] at h
    obtain ⟨_, h⟩ := List.getElem?_eq_some_iff.mp h
    rw [List.getElem_replicate] at h
    cases h
theorem RtAll.get {B : Nat → Prop} {H : Hq} : ∀ {vs : List W} {ds : List D} {i : Nat} {d : D}, RtAll B H vs ds → ds[i]? = some d → ∃ v, vs[i]? = some v ∧ Rt B H v d
  | _ :: _, _ :: _, 0, _, ⟨h, _⟩, e => by simp at e; subst e; exact ⟨_, rfl, h⟩
  | _ :: _, _ :: _, i + 1, _, ⟨_, r⟩, e => by
    obtain ⟨v, h1, h2⟩ := RtAll.get (i := i) r (by simpa using e)
    exact ⟨v, by simpa using h1, h2⟩
  | [], [], _, _, _, e => by simp at e
theorem startW_at {n : Nat} {ws : List W} {i : Nat} {w : W} (h : ws[i]? = some w) : (startW n ws)[i]? = some (some w) := by
  unfold startW
  rw [List.getElem?_append_left (by simpa using (List.getElem?_eq_some_iff.mp h).1), List.getElem?_map, h]
  rfl
theorem VE.start {H : Hq} {B : Nat → Prop} {n : Nat} {ws : List W} {ds : List D} {ls : Bool} (hB : ∀ p, B p → H p ≠ none) (r : RtAll B H ws ds) (rl : ls = true → RpAll B H ws ds) : VE H B (startE ls n ds) (startW n ws) H := by
  have no : ∀ p, ¬ Own (startE ls n ds) (startW n ws) p := fun p ⟨i, d, h1, _⟩ => by
    obtain ⟨_, h⟩ := startE_get h1
    split at h <;> cases h
  have hb : ∀ p, Bad B (startE ls n ds) (startW n ws) p → B p := fun p h => h.elim id fun h => (no p h).elim
  refine ⟨Sm.refl H, hB, ?_, fun i d h => ?_, fun i d h => ?_, fun i d h => ?_, fun i j d e p h _ _ _ => ?_⟩
  · unfold VI.startE startW
    rw [List.length_append, List.length_append, List.length_map, List.length_map, List.length_replicate, List.length_replicate, r.len]
  · obtain ⟨h1, h2⟩ := startE_get h
    split at h2
    rotate_left
    · cases h2
    rename_i hc
    rw [Bool.or_eq_true] at hc
    rcases hc with hc | hc
    · obtain ⟨v, h3, h4⟩ := (rl hc).get h1
      exact ⟨v, startW_at h3, h4.less hb⟩
    · obtain ⟨v, h3, h4⟩ := r.get h1
      exact ⟨v, startW_at h3, (h4.rp (by simpa using hc)).less hb⟩
  · obtain ⟨h1, h2⟩ := startE_get h
    obtain ⟨v, h3, h4⟩ := r.get h1
    exact ⟨v, startW_at h3, h4.less hb, fun p _ => no p⟩
  · obtain ⟨_, h2⟩ := startE_get h
    split at h2 <;> cases h2
  · obtain ⟨_, h2⟩ := startE_get h
    split at h2 <;> cases h2
def Keeps (Γ : Tab) (b : XSs) (n : Nat) (sg : Sig) : Prop := ∀ as d, as.length = sg.ar → sg.φ as = some d → ∃ fr, exs Γ b (startE sg.ls n as) = some (.rt fr d) ∧ (sg.fr = true → fr = true)
theorem fv_of {Γ : Tab} {Φ : Fns} {b : XSs} {n : Nat} {sg : Sig} (T : TabOk Γ Φ) (h : Keeps Γ b n sg) : FV (runH Φ n sg.ar b) sg := by
  refine ⟨fun A B ws ds d hB r rl hl e => ?_⟩
  obtain ⟨fr, h1, h2⟩ := h ds d hl e
  obtain ⟨o', p1, q⟩ := vss T b _ _ _ _ A _ (VE.start (n := n) hB r rl) h1
  cases o' with
  | rt w A' =>
    obtain ⟨q1, q2, q3⟩ := q
    refine ⟨w, A', ?_, q1, q2, fun hf es ee => q3 (h2 hf) es ee⟩
    unfold runH
    rw [if_pos (by rw [r.len]; exact hl), p1]
  | _ => exact q.elim
end VI
set_option Elab.async false
set_option linter.all false
set_option maxRecDepth 100000
set_option maxHeartbeats 4000000
namespace VI
open PySem
@[simp] theorem lim_eq : lim = 1000000 := by decide
@[simp] theorem shaped_int (i : Int) : SeqAt.shaped (.int i) = true := rfl
@[simp] theorem shaped_bool (i : Bool) : SeqAt.shaped (.bool i) = true := rfl
@[simp] theorem shaped_none : SeqAt.shaped .none = true := rfl
@[simp] theorem eqv_int (i j : Int) : PyData.eqv (.int i) (.int j) = decide (i = j) := by
  simp only [PyData.eqv]
  rw [Bool.eq_iff_iff]
  simp
section
variable {Γ : Tab} {ρ : Env} {a b c : XE} {op op' : Operator}
@[simp] theorem ev_ci {i : Int} : ev Γ (.cst (.int i)) ρ = some (.int i) := by rw [ev]; rfl
@[simp] theorem ev_cb {i : Bool} : ev Γ (.cst (.bool i)) ρ = some (.bool i) := by rw [ev]; rfl
@[simp] theorem ev_cn : ev Γ (.cst .none) ρ = some .none := by rw [ev]; rfl
@[simp] theorem ev_cs {x : Str} : ev Γ (.cst (.str x)) ρ = some (.str x) := by rw [ev]; rfl
@[simp] theorem ev_var {i : Nat} : ev Γ (.var i) ρ = match ρ[i]? with
    | some (some (_, d)) => some d
    | _ => none := by rw [ev]; try rfl
@[simp] theorem ev_bin : ev Γ (.bin op a b) ρ = match ev Γ a ρ, ev Γ b ρ with
    | some x, some y => binD op x y
    | _, _ => none := by rw [ev]; try rfl
@[simp] theorem ev_neg : ev Γ (.neg a) ρ = match ev Γ a ρ with
    | some (.int i) => some (.int (-i))
    | _ => none := by rw [ev]; try rfl
@[simp] theorem ev_not : ev Γ (.not a) ρ = match ev Γ a ρ with
    | some (.bool b) => some (.bool (!b))
    | _ => none := by rw [ev]; try rfl
def andO (x : Option D) (y : Option D) : Option D := match x with
  | some (.bool true) => match y with
    | some (.bool t) => some (.bool t)
    | _ => none
  | some (.bool false) => some (.bool false)
  | _ => none
def orO (x : Option D) (y : Option D) : Option D := match x with
  | some (.bool false) => match y with
    | some (.bool t) => some (.bool t)
    | _ => none
  | some (.bool true) => some (.bool true)
  | _ => none
@[simp] theorem ev_andO : ev Γ (.and a b) ρ = andO (ev Γ a ρ) (ev Γ b ρ) := by rw [ev]; try rfl
@[simp] theorem ev_orO : ev Γ (.or a b) ρ = orO (ev Γ a ρ) (ev Γ b ρ) := by rw [ev]; try rfl
@[simp] theorem andO_some {x y : Bool} : andO (some (.bool x)) (some (.bool y)) = some (.bool (x && y)) := by cases x <;> rfl
@[simp] theorem orO_some {x y : Bool} : orO (some (.bool x)) (some (.bool y)) = some (.bool (x || y)) := by cases x <;> rfl
@[simp] theorem andO_false {y : Option D} : andO (some (.bool false)) y = some (.bool false) := rfl
@[simp] theorem orO_true {y : Option D} : orO (some (.bool true)) y = some (.bool true) := rfl
@[simp] theorem ev_cmp' {op : CmpOp} : ev Γ (.cmp op a b) ρ = match ev Γ a ρ, ev Γ b ρ with
    | some x, some y => (cmpD op x y).map .bool
    | _, _ => none := by rw [ev]; try rfl
@[simp] theorem ev_bi {f : BI} {as : XEs} : ev Γ (.bi f as) ρ = match evs Γ as ρ with
    | some ds => biD f ds
    | none => none := by rw [ev]; try rfl
@[simp] theorem ev_isi {t : TY} : ev Γ (.isi a t) ρ = match ev Γ a ρ with
    | some d => (isiD d t).map .bool
    | none => none := by rw [ev]; try rfl
@[simp] theorem ev_ix : ev Γ (.ix a b) ρ = match ev Γ a ρ, ev Γ b ρ with
    | some x, some y => ixD x y
    | _, _ => none := by rw [ev]; try rfl
@[simp] theorem ev_lst {as : XEs} : ev Γ (.lst as) ρ = match evs Γ as ρ with
    | some ds => if sfEs ρ as ∧ ds.length ≤ lim then some (.list ds) else none
    | none => none := by rw [ev]; try rfl
@[simp] theorem ev_tup {as : XEs} : ev Γ (.tup as) ρ = match evs Γ as ρ with
    | some ds => if sfEs ρ as ∧ ds.length ≤ lim then some (.tuple ds) else none
    | none => none := by rw [ev]; try rfl
@[simp] theorem ev_lc' {vs : List Nat} {tg : XT} {it : XI} {tt elt : XE} : ev Γ (.lc vs tg it tt elt) ρ = match evi Γ it (ρ.map toArg) with
    | some ds => if ds.length ≤ lim then (lcGo (lcF Γ ρ vs tg tt elt) ds).map .list else none
    | none => none := ev_lc
@[simp] theorem evs_nil : evs Γ .nil ρ = some [] := by rw [evs]
@[simp] theorem evs_cons {as : XEs} : evs Γ (.cons a as) ρ = match ev Γ a ρ, evs Γ as ρ with
    | some d, some ds => some (d :: ds)
    | _, _ => none := by rw [evs]; try rfl
@[simp] theorem exs_nil : exs Γ .nil ρ = some (.nx ρ) := by rw [exs]
@[simp] theorem exs_cons {s : XS} {ss : XSs} : exs Γ (.cons s ss) ρ = match ex Γ s ρ with
    | some (.nx ρ') => exs Γ ss ρ'
    | o => o := by rw [exs]; try rfl
@[simp] theorem ex_asg {i : Nat} : ex Γ (.asg (.nm i) a) ρ = match ev Γ a (dem ρ a) with
    | some d => if i < (dem ρ a).length then some (.nx ((dem ρ a).set i (some (staE Γ (dem ρ a) d a, d)))) else none
    | none => none := by rw [ex]; try rfl
@[simp] theorem ex_ret : ex Γ (.ret a) ρ = match ev Γ a (dem ρ a) with
    | some d => if sfE (dem ρ a) a then some (.rt (frE Γ a || isOwn ρ a) d) else none
    | none => none := by rw [ex]; try rfl
def iteO (x : Option D) (y z : Option Out) : Option Out := match x with
  | some (.bool true) => y
  | some (.bool false) => z
  | _ => none
@[simp] theorem iteO_some {x : Bool} {y z : Option Out} : iteO (some (.bool x)) y z = if x then y else z := by cases x <;> rfl
@[simp] theorem ex_ife {x y : XSs} : ex Γ (.ife a x y) ρ = iteO (ev Γ a (dem ρ a)) (exs Γ x (dem ρ a)) (exs Γ y (dem ρ a)) := by rw [ex]; try rfl
@[simp] theorem ex_whl {x : XSs} : ex Γ (.whl a x) ρ = whlGo (ev Γ a) (exs Γ x) ρ := by rw [ex]
@[simp] theorem ex_for' {tg : XT} {it : XI} {x : XSs} : ex Γ (.for tg it x) ρ = match evi Γ it (demI ρ it) with
    | some ds => forGo (forF Γ tg x) ds (demI ρ it)
    | none => none := ex_for
@[simp] theorem ex_par {js : List Nat} {as : XEs} : ex Γ (.par js as) ρ = match evs Γ as ρ with
    | some ds => if sfEs ρ as ∧ ds.length ≤ lim then (setAll ρ js ds).map .nx else none
    | none => none := by rw [ex]; try rfl
@[simp] theorem ex_asgT {js : List Nat} : ex Γ (.asg (.tp js) a) ρ = match ev Γ a ρ with
    | some d => (setT ρ (.tp js) d).map .nx
    | none => none := by rw [ex]; try rfl
@[simp] theorem ex_setx {i : Nat} {k : XE} : ex Γ (.setx (.var i) k a) ρ = match ev Γ a (dem ρ a), ownL (dem ρ a) i, ev Γ k (dem ρ a) with
    | some d, some ds, some (.int j) => match L2.ixN ds.length j with
      | some m => if sfE (dem ρ a) a then some (.nx ((dem ρ a).set i (some (.own, .list (ds.set m d))))) else none
      | none => none
    | _, _, _ => none := by rw [ex]; try rfl
@[simp] theorem ex_swp {i : Nat} {k1 k2 e1 e2 : XE} : ex Γ (.swp (.var i) k1 (.var i) k2 e1 e2) ρ = match ev Γ e1 ρ, ev Γ e2 ρ, ownL ρ i, ev Γ k1 ρ with
    | some d1, some d2, some ds, some (.int j1) => match L2.ixN ds.length j1 with
      | some m1 => if sfE ρ e1 && sfE ρ e2 then match ev Γ k2 (ρ.set i (some (.own, .list (ds.set m1 d1)))) with
          | some (.int j2) => match L2.ixN ds.length j2 with
            | some m2 => some (.nx (ρ.set i (some (.own, .list ((ds.set m1 d1).set m2 d2)))))
            | none => none
          | _ => none else none
      | none => none
    | _, _, _, _ => none := by rw [ex, if_pos rfl]; try rfl
@[simp] theorem ex_aug {i : Nat} {o : Operator} : ex Γ (.aug i o a) ρ = match ρ[i]?, ev Γ a ρ with
    | some (some (_, .int x)), some (.int y) => match o with
      | .Add => some (.nx (ρ.set i (some (.shr, .int (x + y)))))
      | .Sub => some (.nx (ρ.set i (some (.shr, .int (x - y)))))
      | _ => none
    | _, _ => none := by rw [ex]; try rfl
@[simp] theorem ex_app {i : Nat} : ex Γ (.app (.var i) a) ρ = match ownL (dem ρ a) i, ev Γ a (dem ρ a) with
    | some ds, some d => if sfE (dem ρ a) a ∧ ds.length < lim then some (.nx ((dem ρ a).set i (some (.own, .list (ds ++ [d]))))) else none
    | _, _ => none := by rw [ex]; try rfl
@[simp] theorem ex_ins {i : Nat} {k : XE} : ex Γ (.ins (.var i) k a) ρ = match ownL (dem ρ a) i, ev Γ k (dem ρ a), ev Γ a (dem ρ a) with
    | some ds, some (.int j), some d => if sfE (dem ρ a) a ∧ ds.length < lim ∧ 0 ≤ j ∧ j < 1000000 then some (.nx ((dem ρ a).set i (some (.own, .list (ds.take j.toNat ++ [d] ++ ds.drop j.toNat))))) else none
    | _, _, _ => none := by rw [ex]; try rfl
@[simp] theorem ex_pop {i j : Nat} {k : XE} : ex Γ (.pop i (.var j) k) ρ = match ownL ρ j, ev Γ k ρ with
    | some ds, some (.int m) => if 0 ≤ m ∧ i ≠ j ∧ i < ρ.length then match ds[m.toNat]? with
        | some d => some (.nx ((ρ.set j (some (.own, .list (ds.eraseIdx m.toNat)))).set i (some (.shr, d))))
        | none => none else none
    | _, _ => none := by rw [ex]; try rfl
@[simp] theorem ex_rem {i : Nat} : ex Γ (.rem (.var i) a) ρ = match ownL ρ i, ev Γ a ρ with
    | some ds, some d => match remD d ds with
      | some r => some (.nx (ρ.set i (some (.own, .list r))))
      | none => none
    | _, _ => none := by rw [ex]; try rfl
@[simp] theorem ex_exp : ex Γ (.exp a) ρ = match ev Γ a ρ with
    | some _ => some (.nx ρ)
    | none => none := by rw [ex]; try rfl
@[simp] theorem ex_strs {i : Nat} : ex Γ (.strs i a) ρ = match ev Γ a ρ with
    | some (.int n) => if i < ρ.length ∧ n.natAbs.log2 < 1920 then some (.nx (ρ.set i (some (.shr, .str (toString n))))) else none
    | some (.tuple [.int p, .int q]) => if i < ρ.length ∧ p.natAbs.log2 < 1000 ∧ q.natAbs.log2 < 1000 then some (.nx (ρ.set i none)) else none
    | _ => none := by rw [ex]; try rfl
@[simp] theorem ex_cont : ex Γ .cont ρ = some (.ct ρ) := by rw [ex]
@[simp] theorem ex_brk : ex Γ .brk ρ = some (.bk ρ) := by rw [ex]
@[simp] theorem ex_pass : ex Γ .pass ρ = some (.nx ρ) := by rw [ex]
@[simp] theorem ev_chn2 {o o' : CmpOp} : ev Γ (.chn o o' a b c) ρ = match ev Γ a ρ, ev Γ b ρ with
    | some x, some y => match cmpD o x y with
      | some true => match ev Γ c ρ with
        | some z => (cmpD o' y z).map .bool
        | none => none
      | some false => some (.bool false)
      | none => none
    | _, _ => none := by rw [ev]; try rfl
@[simp] theorem ev_sl : ev Γ (.sl a b c) ρ = match ev Γ a ρ, ev Γ b ρ, ev Γ c ρ with
    | some x, some l, some h => match partD (isNoneE b) l, partD (isNoneE c) h with
      | some l', some h' => slD x l' h'
      | _, _ => none
    | _, _, _ => none := by rw [ev]; try rfl
@[simp] theorem evi_seq : evi Γ (.seq a) ρ = if isOwn ρ a then none else match ev Γ a ρ with
    | some (.list ds) => some ds
    | some (.tuple ds) => some ds
    | some (.str x) => if x.length ≤ lim then some (x.cps.toList.map fun c => .str ⟨#[c]⟩) else none
    | _ => none := by rw [evi]; try rfl
@[simp] theorem evi_rng {as : XEs} : evi Γ (.rng as) ρ = match evs Γ as ρ with
    | some ds => rngD ds
    | none => none := by rw [evi]; try rfl
@[simp] theorem evi_zip : evi Γ (.zip a b) ρ = if isOwn ρ a || isOwn ρ b then none else match ev Γ a ρ, ev Γ b ρ with
    | some (.list xs), some (.list ys) => some (List.zipWith (fun x y => .tuple [x, y]) xs ys)
    | _, _ => none := by rw [evi]; try rfl
@[simp] theorem evi_enu : evi Γ (.enu a) ρ = if isOwn ρ a then none else match ev Γ a ρ with
    | some (.list xs) => some (enuD 0 xs)
    | _ => none := by rw [evi]; try rfl
@[simp] theorem evi_enz : evi Γ (.enz a b) ρ = if isOwn ρ a || isOwn ρ b then none else match ev Γ a ρ, ev Γ b ρ with
    | some (.list xs), some (.list ys) => some (enuD 0 (List.zipWith (fun x y => .tuple [x, y]) xs ys))
    | _, _ => none := by rw [evi]; try rfl
theorem whl_eq (t : Env → Option D) (f : Env → Option Out) (ρ : Env) : whlGo t f ρ = match t ρ with
  | some (.bool true) => match f ρ with
    | some (.nx ρ') => whlGo t f ρ'
    | some (.ct ρ') => whlGo t f ρ'
    | some (.bk ρ') => some (.nx ρ')
    | some (.rt fr x) => some (.rt fr x)
    | none => none
  | some (.bool false) => some (.nx ρ)
  | _ => none := by rw [whlGo]; try rfl
end
@[simp] theorem mulOk_small {i j : Int} (h1 : i.natAbs < 2 ^ 1000) (h2 : j.natAbs < 2 ^ 1000) : mulOk i j = true := by
  have b : ∀ n : Nat, n < 2 ^ 1000 → n.log2 < 1000 := fun n h => by
    by_cases h0 : n = 0
    · subst h0; decide
    · exact (Nat.log2_lt h0).mpr h
  unfold mulOk
  have := b _ h1
  have := b _ h2
  exact decide_eq_true (by omega)
def tabOf : List (Str × Sig) → Tab
  | [], _ => none
  | (x, sg) :: l, f => if f = x then some sg else tabOf l f
theorem TabOk.nil : TabOk (tabOf []) (fnsOf []) := fun f sg h => by cases h
theorem TabOk.step {x : Str} {sg : Sig} {φ : Fun} {sl : List (Str × Sig)} {l : List (Str × Fun)} (T : TabOk (tabOf sl) (fnsOf l)) (F : FV φ sg) : TabOk (tabOf ((x, sg) :: sl)) (fnsOf ((x, φ) :: l)) := by
  intro f sg' h
  unfold tabOf at h
  unfold fnsOf
  split at h
  · rename_i e
    cases h
    subst e
    exact ⟨φ, if_pos rfl, F⟩
  · rename_i e
    rw [if_neg e]
    exact T f sg' h
theorem TabOk.skip {x : Str} {φ : Fun} {sl : List (Str × Sig)} {l : List (Str × Fun)} (T : TabOk (tabOf sl) (fnsOf l)) (h : tabOf sl x = none) : TabOk (tabOf sl) (fnsOf ((x, φ) :: l)) := by
  intro f sg' h'
  unfold fnsOf
  split
  · rename_i e
    subst e
    rw [h] at h'
    cases h'
  · exact T f sg' h'
def runLawV (Γ : Tab) (m : Nat) (l : LawB) (ns : List Int) : Option Out := match l with
  | .cells i n r => if i < m then exs Γ r ((List.replicate m none).set i (some (.own, .list ((cellsOf ns n).map .int)))) else none
  | .walk tg n b r => match forGo (forF Γ tg b) ((cellsOf ns n).map .int) (List.replicate m none) with
    | some (.nx ρ) => exs Γ r ρ
    | o => o
theorem no_at {α : Type} {m i : Nat} {x : α} (h : (List.replicate m (none : Option α))[i]? = some (some x)) : False := by
  rw [List.getElem?_replicate] at h
  split at h <;> cases h
theorem VE.blank {H : Hq} {m : Nat} : VE H (fun _ => False) (List.replicate m none) (List.replicate m none) H :=
  ⟨Sm.refl H, fun _ h => h.elim, by rw [List.length_replicate, List.length_replicate], fun i d h => (no_at h).elim, fun i d h => (no_at h).elim, fun i d h => (no_at h).elim, fun i _ _ _ _ h => (no_at h).elim⟩
theorem lawV {Γ : Tab} {Φ : Fns} {m : Nat} {l : LawB} (T : TabOk Γ Φ) (h : ∀ ns : List Int, Asked ns → ∃ fr, runLawV Γ m l ns = some (.rt fr (.bool true))) : ∀ ns : List Int, Asked ns → ∃ A, runLaw Φ m l ns = some (.rt (.bl true) A) := by
  intro ns hns
  obtain ⟨fr, e⟩ := h ns hns
  have hn := hns.1
  have hl : ((cellsOf ns 0).map W.int).length ≤ lim := by
    rw [List.length_map]
    exact Nat.le_trans (cells_len ns 0) (by unfold lim; omega)
  have fin : ∀ {H0 : Hq} {o' : OutH}, PostV H0 (fun _ => False) (.rt fr (.bool true)) o' → ∃ A, o' = .rt (.bl true) A := fun {H0 o'} q => by
    cases o' with
    | rt w A => obtain ⟨_, q, _⟩ := q; cases q; exact ⟨A, rfl⟩
    | _ => exact q.elim
  cases l with
  | cells i n r =>
    simp only [runLawV] at e
    split at e
    · rename_i him
      have hc : ((cellsOf ns n).map W.int).length ≤ lim := by
        rw [List.length_map]
        exact Nat.le_trans (cells_len ns n) (by unfold lim; omega)
      have re : VE (fun _ => none) (fun _ => False) ((List.replicate m none).set i (some (.own, .list ((cellsOf ns n).map .int)))) ((List.replicate m none).set i (some (.ref 0))) (gt [(cellsOf ns n).map W.int]) :=
        (VE.blank (H := fun _ => none) (m := m)).putN (by rw [List.length_replicate]; exact him) (fun _ _ z => by cases z) rfl rfl hc rpAll_ints
      obtain ⟨o', p1, q⟩ := vss T r _ _ _ _ _ _ re e
      obtain ⟨A, rfl⟩ := fin q
      exact ⟨A, by simp only [runLaw]; rw [if_pos him]; exact p1⟩
    · cases e
  | walk tg n b r =>
    simp only [runLawV] at e
    have hg : ∀ p ∈ [(0, (cellsOf ns n).map W.int)], gt [(cellsOf ns n).map W.int] p.1 = some p.2 := fun p hp => by simp at hp; subst hp; rfl
    cases hf : forGo (forF Γ tg b) ((cellsOf ns n).map PyData.int) (List.replicate m none) with
    | none => rw [hf] at e; cases e
    | some o =>
      rw [hf] at e
      obtain ⟨o', p1, q⟩ := for_loop (vss T b) hg _ _ _ _ _ _ (VE.blank (H := gt [(cellsOf ns n).map W.int]) (m := m)) rpAll_ints hf
      cases o with
      | nx ρ =>
        cases o' with
        | nx σ A1 =>
          obtain ⟨o2, p2, q2⟩ := vss T r _ _ _ _ _ _ q e
          obtain ⟨A, rfl⟩ := fin q2
          exact ⟨A, by simp only [runLaw]; rw [p1]; exact p2⟩
        | _ => exact q.elim
      | rt f2 d =>
        cases e
        obtain ⟨A, rfl⟩ := fin q
        exact ⟨A, by simp only [runLaw]; rw [p1]⟩
      | bk ρ => cases e
      | ct ρ => cases e
def goesOn (I : Env → Prop) : Option Out → Prop
  | some (.nx ρ) => I ρ
  | some (.ct ρ) => I ρ
  | _ => False
@[simp] theorem goesOn_nx {I : Env → Prop} {ρ : Env} : goesOn I (some (.nx ρ)) = I ρ := rfl
@[simp] theorem goesOn_ct {I : Env → Prop} {ρ : Env} : goesOn I (some (.ct ρ)) = I ρ := rfl
theorem forGo_inv {f : D → Env → Option Out} (I : Env → Prop) : ∀ (ds : List D) (ρ : Env), (∀ d ∈ ds, ∀ ρ, I ρ → goesOn I (f d ρ)) → I ρ → ∃ ρ', forGo f ds ρ = some (.nx ρ') ∧ I ρ'
  | [], ρ, _, h => ⟨ρ, rfl, h⟩
  | d :: ds, ρ, hf, h => by
    have h1 := hf d (List.mem_cons_self ..) ρ h
    have hr : ∀ ρ1, I ρ1 → ∃ ρ', forGo f ds ρ1 = some (.nx ρ') ∧ I ρ' := fun ρ1 i1 => forGo_inv I ds ρ1 (fun d hd => hf d (List.mem_cons_of_mem _ hd)) i1
    rw [forGo]
    cases e : f d ρ with
    | none => rw [e] at h1; exact h1.elim
    | some o =>
      rw [e] at h1
      cases o with
      | nx ρ1 => exact hr ρ1 h1
      | ct ρ1 => exact hr ρ1 h1
      | rt => exact h1.elim
      | bk => exact h1.elim
end VI
set_option Elab.async false
set_option linter.all false
set_option maxRecDepth 100000
set_option maxHeartbeats 4000000
namespace VI
open PySem
@[simp] theorem isList_list (x : List D) : isList (.list x) = true := rfl
@[simp] theorem isList_int (x : Int) : isList (.int x) = false := rfl
@[simp] theorem isList_bool (x : Bool) : isList (.bool x) = false := rfl
@[simp] theorem isList_str (x : Str) : isList (.str x) = false := rfl
@[simp] theorem isList_none : isList .none = false := rfl
@[simp] theorem isList_tuple (x : List D) : isList (.tuple x) = false := rfl
section
variable {Γ : Tab} {ρ : Env} {a b c d : XE} {as : XEs} {i : Nat} {x : D} {vs : List Nat} {tg : XT} {it : XI} {f : BI} {t : TY} {op op' : CmpOp}
@[simp] theorem frE_var : frE Γ (.var i) = false := rfl
@[simp] theorem frE_cst : frE Γ (.cst x) = false := rfl
@[simp] theorem frE_neg : frE Γ (.neg a) = false := rfl
@[simp] theorem frE_not : frE Γ (.not a) = false := rfl
@[simp] theorem frE_and : frE Γ (.and a b) = false := rfl
@[simp] theorem frE_or : frE Γ (.or a b) = false := rfl
@[simp] theorem frE_cmp : frE Γ (.cmp op a b) = false := rfl
@[simp] theorem frE_chn : frE Γ (.chn op op' a b c) = false := rfl
@[simp] theorem frE_add : frE Γ (.bin .Add a b) = true := rfl
@[simp] theorem frE_sub : frE Γ (.bin .Sub a b) = false := rfl
@[simp] theorem frE_mul : frE Γ (.bin .Mult a b) = false := rfl
@[simp] theorem frE_fdv : frE Γ (.bin .FloorDiv a b) = false := rfl
@[simp] theorem frE_mod : frE Γ (.bin .Mod a b) = false := rfl
@[simp] theorem frE_pow : frE Γ (.bin .Pow a b) = false := rfl
@[simp] theorem frE_rsh : frE Γ (.bin .RShift a b) = false := rfl
@[simp] theorem frE_isi : frE Γ (.isi a t) = false := rfl
@[simp] theorem frE_ix : frE Γ (.ix a b) = false := rfl
@[simp] theorem frE_sl : frE Γ (.sl a b c) = true := rfl
@[simp] theorem frE_lst : frE Γ (.lst as) = true := rfl
@[simp] theorem frE_tup : frE Γ (.tup as) = false := rfl
@[simp] theorem frE_lc : frE Γ (.lc vs tg it a b) = true := rfl
@[simp] theorem frE_bi : frE Γ (.bi f as) = frBi f := rfl
@[simp] theorem frBi_list : frBi .list = true := rfl
@[simp] theorem frBi_sorted : frBi .sorted = true := rfl
@[simp] theorem frBi_len : frBi .len = false := rfl
@[simp] theorem frBi_abs : frBi .abs = false := rfl
@[simp] theorem frBi_int : frBi .int = false := rfl
@[simp] theorem frBi_max : frBi .max = false := rfl
@[simp] theorem frBi_tuple : frBi .tuple = false := rfl
@[simp] theorem frBi_sum : frBi .sum = false := rfl
@[simp] theorem frBi_all : frBi .all = false := rfl
@[simp] theorem frBi_any : frBi .any = false := rfl
@[simp] theorem sfE_var : sfE ρ (.var i) = match ρ[i]? with
    | some (some (s, d)) => s == .shr || !isList d
    | _ => true := rfl
@[simp] theorem sfE_cst : sfE ρ (.cst x) = true := rfl
@[simp] theorem sfE_neg : sfE ρ (.neg a) = true := rfl
@[simp] theorem sfE_not : sfE ρ (.not a) = true := rfl
@[simp] theorem sfE_and : sfE ρ (.and a b) = true := rfl
@[simp] theorem sfE_or : sfE ρ (.or a b) = true := rfl
@[simp] theorem sfE_cmp : sfE ρ (.cmp op a b) = true := rfl
@[simp] theorem sfE_chn : sfE ρ (.chn op op' a b c) = true := rfl
@[simp] theorem sfE_bin {o : Operator} : sfE ρ (.bin o a b) = true := rfl
@[simp] theorem sfE_isi : sfE ρ (.isi a t) = true := rfl
@[simp] theorem sfE_ix : sfE ρ (.ix a b) = true := rfl
@[simp] theorem sfE_sl : sfE ρ (.sl a b c) = true := rfl
@[simp] theorem sfE_lst : sfE ρ (.lst as) = true := rfl
@[simp] theorem sfE_tup : sfE ρ (.tup as) = true := rfl
@[simp] theorem sfE_lc : sfE ρ (.lc vs tg it a b) = true := rfl
@[simp] theorem sfE_bi : sfE ρ (.bi f as) = true := rfl
@[simp] theorem sfE_call {g : Str} : sfE ρ (.call g as) = true := rfl
@[simp] theorem sfEs_nil : sfEs ρ .nil = true := by rw [sfEs]
@[simp] theorem sfEs_cons : sfEs ρ (.cons a as) = (sfE ρ a && sfEs ρ as) := by rw [sfEs]
@[simp] theorem isOwn_var' : isOwn ρ (.var i) = (ownL ρ i).isSome := rfl
@[simp] theorem isOwn_cst : isOwn ρ (.cst x) = false := rfl
@[simp] theorem isOwn_neg : isOwn ρ (.neg a) = false := rfl
@[simp] theorem isOwn_not : isOwn ρ (.not a) = false := rfl
@[simp] theorem isOwn_and : isOwn ρ (.and a b) = false := rfl
@[simp] theorem isOwn_or : isOwn ρ (.or a b) = false := rfl
@[simp] theorem isOwn_cmp : isOwn ρ (.cmp op a b) = false := rfl
@[simp] theorem isOwn_chn : isOwn ρ (.chn op op' a b c) = false := rfl
@[simp] theorem isOwn_bin {o : Operator} : isOwn ρ (.bin o a b) = false := rfl
@[simp] theorem isOwn_isi : isOwn ρ (.isi a t) = false := rfl
@[simp] theorem isOwn_ix : isOwn ρ (.ix a b) = false := rfl
@[simp] theorem isOwn_sl : isOwn ρ (.sl a b c) = false := rfl
@[simp] theorem isOwn_lst : isOwn ρ (.lst as) = false := rfl
@[simp] theorem isOwn_tup : isOwn ρ (.tup as) = false := rfl
@[simp] theorem isOwn_lc : isOwn ρ (.lc vs tg it a b) = false := rfl
@[simp] theorem isOwn_bi : isOwn ρ (.bi f as) = false := rfl
@[simp] theorem isOwn_call {g : Str} : isOwn ρ (.call g as) = false := rfl
@[simp] theorem ownL_eq : ownL ρ i = match ρ[i]? with
  | some (some (.own, .list ds)) => some ds
  | _ => none := rfl
@[simp] theorem dem_var : dem ρ (.var i) = match ρ[i]? with
    | some (some (.own, d)) => ρ.set i (some (.shr, d))
    | _ => ρ := rfl
@[simp] theorem dem_cst : dem ρ (.cst x) = ρ := rfl
@[simp] theorem dem_neg : dem ρ (.neg a) = ρ := rfl
@[simp] theorem dem_not : dem ρ (.not a) = demN ρ a := rfl
@[simp] theorem dem_and : dem ρ (.and a b) = demN (demN ρ a) b := rfl
@[simp] theorem dem_or : dem ρ (.or a b) = demN (demN ρ a) b := rfl
@[simp] theorem dem_cmp : dem ρ (.cmp op a b) = demN (demN ρ a) b := rfl
@[simp] theorem dem_chn : dem ρ (.chn op op' a b c) = ρ := rfl
@[simp] theorem dem_bin {o : Operator} : dem ρ (.bin o a b) = demN (demN ρ a) b := rfl
@[simp] theorem dem_isi : dem ρ (.isi a t) = ρ := rfl
@[simp] theorem dem_ix : dem ρ (.ix a b) = ρ := rfl
@[simp] theorem dem_sl : dem ρ (.sl a b c) = ρ := rfl
@[simp] theorem dem_lst : dem ρ (.lst as) = demEs ρ as := rfl
@[simp] theorem dem_tup : dem ρ (.tup as) = demEs ρ as := rfl
@[simp] theorem demEs_nil : demEs ρ .nil = ρ := rfl
@[simp] theorem demEs_cons : demEs ρ (.cons a as) = demEs (dem ρ a) as := rfl
@[simp] theorem dem_lc : dem ρ (.lc vs tg it a b) = ρ := rfl
@[simp] theorem dem_bi : dem ρ (.bi f as) = demNs ρ as := rfl
@[simp] theorem dem_call {g : Str} : dem ρ (.call g as) = demNs ρ as := rfl
@[simp] theorem demN_var {i : Nat} : demN ρ (.var i) = ρ := rfl
@[simp] theorem demN_cst : demN ρ (.cst x) = ρ := rfl
@[simp] theorem demN_neg : demN ρ (.neg a) = ρ := rfl
@[simp] theorem demN_not : demN ρ (.not a) = demN ρ a := rfl
@[simp] theorem demN_and : demN ρ (.and a b) = demN (demN ρ a) b := rfl
@[simp] theorem demN_or : demN ρ (.or a b) = demN (demN ρ a) b := rfl
@[simp] theorem demN_cmp : demN ρ (.cmp op a b) = demN (demN ρ a) b := rfl
@[simp] theorem demN_chn : demN ρ (.chn op op' a b c) = ρ := rfl
@[simp] theorem demN_bin {o : Operator} : demN ρ (.bin o a b) = demN (demN ρ a) b := rfl
@[simp] theorem demN_isi : demN ρ (.isi a t) = ρ := rfl
@[simp] theorem demN_ix : demN ρ (.ix a b) = ρ := rfl
@[simp] theorem demN_sl : demN ρ (.sl a b c) = ρ := rfl
@[simp] theorem demN_lst : demN ρ (.lst as) = demEs ρ as := rfl
@[simp] theorem demN_tup : demN ρ (.tup as) = demEs ρ as := rfl
@[simp] theorem demN_lc : demN ρ (.lc vs tg it a b) = ρ := rfl
@[simp] theorem demN_bi : demN ρ (.bi f as) = demNs ρ as := rfl
@[simp] theorem demN_call {g : Str} : demN ρ (.call g as) = demNs ρ as := rfl
@[simp] theorem demNs_nil : demNs ρ .nil = ρ := rfl
@[simp] theorem demNs_cons : demNs ρ (.cons a as) = demNs (demN ρ a) as := rfl
@[simp] theorem demI_seq : demI ρ (.seq a) = dem ρ a := rfl
@[simp] theorem demI_rng : demI ρ (.rng as) = ρ := rfl
@[simp] theorem demI_zip : demI ρ (.zip a b) = dem (dem ρ a) b := rfl
@[simp] theorem demI_enu : demI ρ (.enu a) = dem ρ a := rfl
@[simp] theorem demI_enz : demI ρ (.enz a b) = dem (dem ρ a) b := rfl
@[simp] theorem staE_var {x : D} : staE Γ ρ x (.var i) = match ρ[i]? with
    | some (some (.arg, _)) => .arg
    | _ => .shr := rfl
@[simp] theorem staE_cst {y x : D} : staE Γ ρ x (.cst y) = if isList x && frE Γ (.cst y) then .own else .shr := rfl
@[simp] theorem staE_neg {x : D} : staE Γ ρ x (.neg a) = if isList x && frE Γ (.neg a) then .own else .shr := rfl
@[simp] theorem staE_not {x : D} : staE Γ ρ x (.not a) = if isList x && frE Γ (.not a) then .own else .shr := rfl
@[simp] theorem staE_and {x : D} : staE Γ ρ x (.and a b) = if isList x && frE Γ (.and a b) then .own else .shr := rfl
@[simp] theorem staE_or {x : D} : staE Γ ρ x (.or a b) = if isList x && frE Γ (.or a b) then .own else .shr := rfl
@[simp] theorem staE_cmp {x : D} : staE Γ ρ x (.cmp op a b) = if isList x && frE Γ (.cmp op a b) then .own else .shr := rfl
@[simp] theorem staE_chn {x : D} : staE Γ ρ x (.chn op op' a b c) = if isList x && frE Γ (.chn op op' a b c) then .own else .shr := rfl
@[simp] theorem staE_bin {o : Operator} {x : D} : staE Γ ρ x (.bin o a b) = if isList x && frE Γ (.bin o a b) then .own else .shr := rfl
@[simp] theorem staE_isi {x : D} : staE Γ ρ x (.isi a t) = if isList x && frE Γ (.isi a t) then .own else .shr := rfl
@[simp] theorem staE_ix {x : D} : staE Γ ρ x (.ix a b) = if isList x && frE Γ (.ix a b) then .own else .shr := rfl
@[simp] theorem staE_sl {x : D} : staE Γ ρ x (.sl a b c) = if isList x && frE Γ (.sl a b c) then .own else .shr := rfl
@[simp] theorem staE_lst {x : D} : staE Γ ρ x (.lst as) = if isList x && frE Γ (.lst as) then .own else .shr := rfl
@[simp] theorem staE_tup {x : D} : staE Γ ρ x (.tup as) = if isList x && frE Γ (.tup as) then .own else .shr := rfl
@[simp] theorem staE_lc {x : D} : staE Γ ρ x (.lc vs tg it a b) = if isList x && frE Γ (.lc vs tg it a b) then .own else .shr := rfl
@[simp] theorem staE_bi {x : D} : staE Γ ρ x (.bi f as) = if isList x && frE Γ (.bi f as) then .own else .shr := rfl
@[simp] theorem staE_call {g : Str} {x : D} : staE Γ ρ x (.call g as) = if isList x && frE Γ (.call g as) then .own else .shr := rfl
@[simp] theorem binD_add (i j : Int) : binD .Add (.int i) (.int j) = some (.int (i + j)) := rfl
@[simp] theorem binD_sub (i j : Int) : binD .Sub (.int i) (.int j) = some (.int (i - j)) := rfl
@[simp] theorem binD_mul (i j : Int) : binD .Mult (.int i) (.int j) = if mulOk i j then some (.int (i * j)) else none := rfl
@[simp] theorem binD_fdv (i j : Int) : binD .FloorDiv (.int i) (.int j) = if j = 0 then none else some (.int (i.fdiv j)) := by
  by_cases h : j = 0
  · have hd : ¬ divOk j = true := by simp [divOk, h]
    rw [if_pos h]
    exact if_neg hd
  · have hd : divOk j = true := by simp [divOk, h]
    rw [if_neg h]
    exact if_pos hd
@[simp] theorem binD_mod (i j : Int) : binD .Mod (.int i) (.int j) = if j = 0 then none else some (.int (i.fmod j)) := rfl
@[simp] theorem binD_pow (i j : Int) : binD .Pow (.int i) (.int j) = if 0 ≤ j ∧ j ≤ 1000 ∧ i.natAbs < 2 ^ 64 then some (.int (i ^ j.toNat)) else none := rfl
@[simp] theorem binD_rsh (i j : Int) : binD .RShift (.int i) (.int j) = if 0 ≤ j then some (.int (i / 2 ^ j.toNat)) else none := rfl
@[simp] theorem binD_cat (x y : List D) : binD .Add (.list x) (.list y) = if x.length + y.length ≤ lim then some (.list (x ++ y)) else none := rfl
@[simp] theorem cmpD_ii (i j : Int) : cmpD .Eq (.int i) (.int j) = some (decide (i = j)) := by simp [cmpD]
@[simp] theorem cmpD_nii (i j : Int) : cmpD .NotEq (.int i) (.int j) = some (!decide (i = j)) := by simp [cmpD]
@[simp] theorem cmpD_lt (i j : Int) : cmpD .Lt (.int i) (.int j) = some (decide (i < j)) := rfl
@[simp] theorem cmpD_le (i j : Int) : cmpD .LtE (.int i) (.int j) = some (decide (i ≤ j)) := rfl
@[simp] theorem cmpD_gt (i j : Int) : cmpD .Gt (.int i) (.int j) = some (decide (j < i)) := rfl
@[simp] theorem cmpD_ge (i j : Int) : cmpD .GtE (.int i) (.int j) = some (decide (j ≤ i)) := rfl
@[simp] theorem cmpD_bb (i j : Bool) : cmpD .Eq (.bool i) (.bool j) = some (i == j) := by cases i <;> cases j <;> decide
@[simp] theorem cmpD_nbb (i j : Bool) : cmpD .NotEq (.bool i) (.bool j) = some (i != j) := by cases i <;> cases j <;> decide
@[simp] theorem ixD_list (x : List D) (i : Int) : ixD (.list x) (.int i) = L2.atI x i := rfl
@[simp] theorem ixD_tuple (x : List D) (i : Int) : ixD (.tuple x) (.int i) = L2.atI x i := rfl
@[simp] theorem biD_len (x : List D) : biD .len [.list x] = some (.int x.length) := rfl
@[simp] theorem biD_lenT (x : List D) : biD .len [.tuple x] = some (.int x.length) := rfl
@[simp] theorem biD_abs (i : Int) : biD .abs [.int i] = some (.int (if i < 0 then -i else i)) := rfl
@[simp] theorem biD_int (i : Int) : biD .int [.int i] = some (.int i) := rfl
@[simp] theorem biD_intB (i : Bool) : biD .int [.bool i] = some (.int (if i then 1 else 0)) := rfl
@[simp] theorem biD_max (i j : Int) : biD .max [.int i, .int j] = some (.int (if j > i then j else i)) := rfl
@[simp] theorem biD_list (x : List D) : biD .list [.list x] = some (.list x) := rfl
@[simp] theorem biD_listT (x : List D) : biD .list [.tuple x] = some (.list x) := rfl
@[simp] theorem biD_tuple (x : List D) : biD .tuple [.list x] = some (.tuple x) := rfl
@[simp] theorem biD_sumT (x : List D) : biD .sum [.tuple x] = (intsOf x).map fun ns => .int ns.sum := rfl
@[simp] theorem biD_sum (x : List D) : biD .sum [.list x] = (intsOf x).map fun ns => .int ns.sum := rfl
@[simp] theorem biD_all (x : List D) : biD .all [.list x] = (blsOf x).map fun ns => .bool (ns.all id) := rfl
@[simp] theorem biD_any (x : List D) : biD .any [.list x] = (blsOf x).map fun ns => .bool (ns.any id) := rfl
@[simp] theorem biD_sorted (x : List D) : biD .sorted [.list x] = if x.length < 64 then sortD x else none := rfl
@[simp] theorem isiD_list (x : List D) (t : TY) : isiD (.list x) t = some (match t with | .list => true | _ => false) := by cases t <;> rfl
@[simp] theorem isiD_tuple (x : List D) (t : TY) : isiD (.tuple x) t = some (match t with | .tuple => true | _ => false) := by cases t <;> rfl
@[simp] theorem isiD_int (x : Int) (t : TY) : isiD (.int x) t = some (match t with | .int => true | _ => false) := by cases t <;> rfl
@[simp] theorem isiD_bool (x : Bool) (t : TY) : isiD (.bool x) t = some (match t with | .int => true | .bool => true | _ => false) := by cases t <;> rfl
@[simp] theorem isiD_str (x : Str) (t : TY) : isiD (.str x) t = some (match t with | .str => true | _ => false) := by cases t <;> rfl
@[simp] theorem atI_0 {α : Type} (x : α) (l : List α) : L2.atI (x :: l) 0 = some x := by simp [L2.atI, L2.ixN]
@[simp] theorem atI_1 {α : Type} (x y : α) (l : List α) : L2.atI (x :: y :: l) 1 = some y := by
  unfold L2.atI L2.ixN
  rw [if_pos (by decide), if_pos (by simp only [List.length_cons]; omega)]
  rfl
@[simp] theorem atI_2 {α : Type} (x y z : α) (l : List α) : L2.atI (x :: y :: z :: l) 2 = some z := by
  unfold L2.atI L2.ixN
  rw [if_pos (by decide), if_pos (by simp only [List.length_cons]; omega)]
  rfl
@[simp] theorem setT_nm {d : D} : setT ρ (.nm i) d = if i < ρ.length then some (ρ.set i (some (.shr, d))) else none := rfl
@[simp] theorem setT_tp {js : List Nat} {ds : List D} : setT ρ (.tp js) (.tuple ds) = setAll ρ js ds := rfl
@[simp] theorem setT_tpl {js : List Nat} {ds : List D} : setT ρ (.tp js) (.list ds) = setAll ρ js ds := rfl
@[simp] theorem setAll_nil : setAll ρ [] [] = some ρ := rfl
@[simp] theorem setAll_cons {js : List Nat} {d : D} {ds : List D} : setAll ρ (i :: js) (d :: ds) = if i < ρ.length then setAll (ρ.set i (some (.shr, d))) js ds else none := rfl
@[simp] theorem blkE_eq : blkE ρ vs = wipeE (ρ.map toArg) vs := rfl
@[simp] theorem wipeE_nil : wipeE ρ [] = ρ := rfl
@[simp] theorem wipeE_cons : wipeE ρ (i :: vs) = (wipeE ρ vs).set i none := rfl
@[simp] theorem toArg_own {d : D} : toArg (some (.own, d)) = some (.arg, d) := rfl
@[simp] theorem toArg_arg {d : D} : toArg (some (.arg, d)) = some (.arg, d) := rfl
@[simp] theorem toArg_shr {d : D} : toArg (some (.shr, d)) = some (.shr, d) := rfl
@[simp] theorem toArg_none : toArg none = none := rfl
@[simp] theorem partD_n : partD true .none = some none := rfl
@[simp] theorem partD_i {i : Int} : partD false (.int i) = some (some i) := rfl
@[simp] theorem slD_eq {xs : List D} {lo hi : Option Int} : slD (.list xs) lo hi = some (.list (cutD xs lo hi)) := rfl
@[simp] theorem isNoneE_none : isNoneE (.cst .none) = true := rfl
@[simp] theorem isNoneE_int {i : Int} : isNoneE (.cst (.int i)) = false := rfl
@[simp] theorem isNoneE_var : isNoneE (.var i) = false := rfl
@[simp] theorem isNoneE_bin {o : Operator} : isNoneE (.bin o a b) = false := rfl
@[simp] theorem isNoneE_ix : isNoneE (.ix a b) = false := rfl
@[simp] theorem isNoneE_bi : isNoneE (.bi f as) = false := rfl
end
end VI
set_option Elab.async false
set_option linter.all false
set_option maxRecDepth 100000
set_option exponentiation.threshold 2000
set_option maxHeartbeats 4000000
namespace VI
open PySem
def clO (o : Option Sig) (sf : Bool) (ds : List D) : Option D := match o with
  | some sg => if (sg.ls = true → sf = true) ∧ ds.length = sg.ar then sg.φ ds else none
  | none => none
def frO (o : Option Sig) : Bool := match o with
  | some sg => sg.fr
  | none => false
@[simp] theorem ev_callO {Γ : Tab} {f : Str} {as : XEs} {ρ : Env} : ev Γ (.call f as) ρ = match evs Γ as ρ with
    | some ds => clO (Γ f) (sfEs ρ as) ds
    | none => none := by
  rw [ev]
  unfold clO
  cases Γ f with
  | none => cases evs Γ as ρ <;> rfl
  | some sg => cases evs Γ as ρ <;> rfl
@[simp] theorem frE_call {Γ : Tab} {f : Str} {as : XEs} : frE Γ (.call f as) = frO (Γ f) := by
  unfold frE frO
  rfl
def sgR (Γ : Tab) (b : XSs) (n ar : Nat) (fr ls : Bool) : Sig := ⟨fr, ls, ar, fun as => match exs Γ b (startE ls n as) with
  | some (.rt f x) => if fr = true → f = true then some x else none
  | _ => none⟩
theorem keepsR {Γ : Tab} {b : XSs} {n ar : Nat} {fr ls : Bool} : Keeps Γ b n (sgR Γ b n ar fr ls) := by
  intro as d hl e
  simp only [sgR] at e
  split at e
  · rename_i f x h
    split at e
    · rename_i hf
      cases e
      exact ⟨f, h, hf⟩
    · cases e
  · cases e
theorem fvR {Γ : Tab} {Φ : Fns} {b : XSs} {n ar : Nat} {fr ls : Bool} (T : TabOk Γ Φ) : FV (runH Φ n ar b) (sgR Γ b n ar fr ls) := fv_of (sg := sgR Γ b n ar fr ls) T keepsR
theorem clR {Γ : Tab} {b : XSs} {n ar : Nat} {fr ls sf f : Bool} {ds : List D} {d : D} (h : exs Γ b (startE ls n ds) = some (.rt f d)) (hl : ds.length = ar := by rfl) (hs : ls = true → sf = true := by intro z; first | rfl | cases z) (hf : fr = true → f = true := by intro z; first | rfl | cases z) : clO (some (sgR Γ b n ar fr ls)) sf ds = some d := by
  unfold clO
  simp only [sgR, h]
  rw [if_pos ⟨hs, hl⟩, if_pos hf]
def b2 (n : Nat) : Nat := if n = 0 then 0 else n.log2 + 1
theorem b2_lt (n : Nat) : n < 2 ^ b2 n := by
  unfold b2
  split
  · rename_i h; subst h; decide
  · exact Nat.lt_log2_self
theorem b2_le {n k : Nat} (h : n < 2 ^ k) : b2 n ≤ k := by
  unfold b2
  split
  · omega
  · rename_i h0
    have := (Nat.log2_lt h0).mpr h
    omega
theorem b2_mono {m n : Nat} (h : m ≤ n) : b2 m ≤ b2 n := b2_le (Nat.lt_of_le_of_lt h (b2_lt n))
theorem b2_mul (m n : Nat) : b2 (m * n) ≤ b2 m + b2 n := by
  apply b2_le
  rw [Nat.pow_add]
  exact Nat.mul_lt_mul'' (b2_lt m) (b2_lt n)
theorem b2_add (m n : Nat) : b2 (m + n) ≤ max (b2 m) (b2 n) + 1 := by
  apply b2_le
  have h1 : m < 2 ^ max (b2 m) (b2 n) := Nat.lt_of_lt_of_le (b2_lt m) (Nat.pow_le_pow_right (by decide) (Nat.le_max_left ..))
  have h2 : n < 2 ^ max (b2 m) (b2 n) := Nat.lt_of_lt_of_le (b2_lt n) (Nat.pow_le_pow_right (by decide) (Nat.le_max_right ..))
  rw [Nat.pow_succ]
  omega
theorem eqvAll_map {α : Type} (f : α → D) (h : ∀ x y, PyData.eqv (f x) (f y) = true ↔ x = y) : ∀ xs ys : List α, PyData.eqvAll (xs.map f) (ys.map f) = true ↔ xs = ys
  | [], [] => by simp [PyData.eqvAll]
  | [], y :: ys => by simp [PyData.eqvAll]
  | x :: xs, [] => by simp [PyData.eqvAll]
  | x :: xs, y :: ys => by simp [PyData.eqvAll, h x y, eqvAll_map f h xs ys]
theorem canLayAll_map {α : Type} (f : α → D) (h : ∀ x, (f x).canLay0 = true) : ∀ xs : List α, PyData.canLayAll0 (xs.map f) = true
  | [] => by simp [PyData.canLayAll0]
  | x :: xs => by simp [PyData.canLayAll0, h x, canLayAll_map f h xs]
theorem depthAll_map {α : Type} (f : α → D) {n : Nat} (h : ∀ x, (f x).depth ≤ n) : ∀ xs : List α, PyData.depthAll (xs.map f) ≤ n
  | [] => by simp [PyData.depthAll]
  | x :: xs => by
    have := h x
    have := depthAll_map f h xs
    simp only [List.map_cons, PyData.depthAll]
    omega
structure Tells {α : Type} (f : α → D) (n : Nat) : Prop where
  eqv : ∀ x y, PyData.eqv (f x) (f y) = true ↔ x = y
  lay : ∀ x, (f x).canLay0 = true
  dep : ∀ x, (f x).depth ≤ n
theorem Tells.list {α : Type} {f : α → D} {n : Nat} (h : Tells f n) : Tells (fun xs : List α => PyData.list (xs.map f)) (n + 1) :=
  ⟨fun xs ys => by simp only [PyData.eqv]; exact eqvAll_map f h.eqv xs ys, fun xs => by simp only [PyData.canLay0]; exact canLayAll_map f h.lay xs, fun xs => by simp only [PyData.depth]; have := depthAll_map f h.dep xs; omega⟩
open Classical in
theorem Tells.cmp {α : Type} {f : α → D} {n : Nat} (h : Tells f n) (hn : n ≤ 64) (x y : α) : cmpD .Eq (f x) (f y) = some (decide (x = y)) := by
  have s : ∀ x, SeqAt.shaped (f x) = true := fun x => by
    unfold SeqAt.shaped
    rw [h.lay, Bool.true_and]
    exact decide_eq_true (Nat.le_trans (h.dep x) hn)
  simp only [cmpD, s, Bool.and_self, Bool.true_or, if_true]
  congr 1
  rw [Bool.eq_iff_iff, decide_eq_true_iff]
  exact h.eqv x y
open Classical in
theorem Tells.cmpN {α : Type} {f : α → D} {n : Nat} (h : Tells f n) (hn : n ≤ 64) (x y : α) : cmpD .NotEq (f x) (f y) = some (!decide (x = y)) := by
  have e := h.cmp hn x y
  simp only [cmpD] at e ⊢
  split at e
  · rename_i hs
    rw [if_pos hs, Option.some.inj e]
  · cases e
section
def ofI {F : Type} [Lean.Grind.Ring F] (i : Int) : F := @Int.cast F Lean.Grind.Ring.intCast i
theorem ofI_neg {F : Type} [Lean.Grind.Ring F] (i : Int) : (ofI (-i) : F) = -ofI i := Lean.Grind.Ring.intCast_neg i
end
class Num (F : Type) extends Lean.Grind.Field F where
  k : Int
  enc : F → D
  sz : F → Nat
  kn : 0 ≤ k
  list : ∀ x, isList (enc x) = false
  tells : Tells enc 2
  sz_add : ∀ x y, sz (x + y) ≤ sz x + sz y + 1
  sz_sub : ∀ x y, sz (x - y) ≤ sz x + sz y + 1
  sz_mul : ∀ x y, sz (x * y) ≤ sz x + sz y
  sz_div : ∀ x y, y ≠ 0 → sz (x / y) ≤ sz x + sz y
  sz_int : ∀ i : Int, sz (ofI i) ≤ b2 i.natAbs + 1
open Num
@[simp] theorem enc_list {F : Type} [Num F] (x : F) : isList (enc x) = false := Num.list x
noncomputable instance (priority := low) {F : Type} [Num F] : DecidableEq F := fun x y => Classical.propDecidable (x = y)
noncomputable section
variable {F : Type} [Num F]
abbrev encR (xs : List F) : D := .list (xs.map enc)
abbrev encM (xs : List (List F)) : D := .list (xs.map fun r => encR r)
theorem tellsR : Tells (fun xs : List F => encR xs) 3 := Num.tells.list
theorem tellsM : Tells (fun xs : List (List F) => encM xs) 4 := tellsR.list
theorem cmpN_M (x y : List (List F)) : cmpD .NotEq (encM x) (encM y) = some (!decide (x = y)) := by
  have := tellsM.cmpN (by decide) x y
  rw [this]
  congr
end
def encQ (q : Rat) : D := .tuple [.int q.num, .int q.den]
theorem num_le (t : Int) {b : Int} (hb : b ≠ 0) : (Rat.divInt t b).num.natAbs ≤ t.natAbs := by
  rw [Rat.num_divInt]
  refine Nat.le_trans (Int.natAbs_ediv_le_natAbs _ _) ?_
  rw [Int.natAbs_mul, Int.natAbs_sign_of_ne_zero hb, Nat.one_mul]
  exact Nat.le_refl _
theorem den_le (t : Int) {b : Int} (hb : b ≠ 0) : (Rat.divInt t b).den ≤ b.natAbs := by
  rw [Rat.den_divInt, if_neg hb]
  exact Nat.div_le_self _ _
def szQ (q : Rat) : Nat := max (b2 q.num.natAbs) (b2 q.den)
theorem szQ_div {t b : Int} (hb : b ≠ 0) : szQ (Rat.divInt t b) ≤ max (b2 t.natAbs) (b2 b.natAbs) := by
  have h1 := b2_mono (num_le t hb)
  have h2 := b2_mono (den_le t hb)
  unfold szQ
  omega
theorem den_ne (q : Rat) : (q.den : Int) ≠ 0 := by have := q.den_pos; omega
theorem q_add (x y : Rat) : x + y = Rat.divInt (x.num * y.den + y.num * x.den) (x.den * y.den) := by
  conv => lhs; rw [← Rat.num_divInt_den x, ← Rat.num_divInt_den y]
  rw [Rat.divInt_add_divInt _ _ (den_ne x) (den_ne y)]
theorem q_sub (x y : Rat) : x - y = Rat.divInt (x.num * y.den - y.num * x.den) (x.den * y.den) := by
  conv => lhs; rw [← Rat.num_divInt_den x, ← Rat.num_divInt_den y]
  rw [Rat.divInt_sub_divInt _ _ (den_ne x) (den_ne y)]
theorem q_mul (x y : Rat) : x * y = Rat.divInt (x.num * y.num) (x.den * y.den) := by
  conv => lhs; rw [← Rat.num_divInt_den x, ← Rat.num_divInt_den y]
  rw [Rat.divInt_mul_divInt]
theorem q_div (x y : Rat) (h : y ≠ 0) : x / y = Rat.divInt (x.num * y.den) (x.den * y.num) := by
  have hn : y.num ≠ 0 := fun z => h (Rat.num_eq_zero.mp z)
  conv => lhs; rw [← Rat.num_divInt_den x, ← Rat.num_divInt_den y]
  rw [Rat.div_def, Rat.inv_divInt, Rat.divInt_mul_divInt]
theorem tellsQ : Tells encQ 2 := by
  refine ⟨fun x y => ?_, fun x => ?_, fun x => ?_⟩
  · unfold encQ
    simp only [PyData.eqv, PyData.eqvAll, Bool.and_true, Bool.and_eq_true, beq_iff_eq]
    exact ⟨fun h => Rat.ext h.1 (by omega), fun h => by rw [h]; exact ⟨rfl, rfl⟩⟩
  · unfold encQ
    simp [PyData.canLay0, PyData.canLayAll0]
  · unfold encQ
    simp [PyData.depth, PyData.depthAll]
theorem int_q (i : Int) : (ofI i : Rat) = (i : Rat) := rfl
theorem szQ_bnd (q : Rat) : b2 q.num.natAbs ≤ szQ q ∧ b2 q.den ≤ szQ q := ⟨Nat.le_max_left .., Nat.le_max_right ..⟩
instance : Num Rat where
  k := 0
  enc := encQ
  sz := szQ
  kn := by decide
  list := fun _ => rfl
  tells := tellsQ
  sz_add := fun x y => by
    rw [q_add]
    have h := szQ_div (t := x.num * y.den + y.num * x.den) (b := x.den * y.den) (Int.mul_ne_zero (den_ne x) (den_ne y))
    have a1 := szQ_bnd x
    have a2 := szQ_bnd y
    have a3 := b2_mul x.num.natAbs y.den
    have a4 := b2_mul y.num.natAbs x.den
    have a5 := b2_mul x.den y.den
    have a6 := b2_mono (Int.natAbs_add_le (x.num * y.den) (y.num * x.den))
    have a7 := b2_add (x.num * y.den).natAbs (y.num * x.den).natAbs
    rw [Int.natAbs_mul, Int.natAbs_mul, Int.natAbs_natCast, Int.natAbs_natCast] at a6 a7
    rw [Int.natAbs_mul, Int.natAbs_natCast, Int.natAbs_natCast] at h
    omega
  sz_sub := fun x y => by
    rw [q_sub]
    have h := szQ_div (t := x.num * y.den - y.num * x.den) (b := x.den * y.den) (Int.mul_ne_zero (den_ne x) (den_ne y))
    have a1 := szQ_bnd x
    have a2 := szQ_bnd y
    have a3 := b2_mul x.num.natAbs y.den
    have a4 := b2_mul y.num.natAbs x.den
    have a5 := b2_mul x.den y.den
    have a6 := b2_mono (Int.natAbs_sub_le (x.num * y.den) (y.num * x.den))
    have a7 := b2_add (x.num * y.den).natAbs (y.num * x.den).natAbs
    rw [Int.natAbs_mul, Int.natAbs_mul, Int.natAbs_natCast, Int.natAbs_natCast] at a6 a7
    rw [Int.natAbs_mul, Int.natAbs_natCast, Int.natAbs_natCast] at h
    omega
  sz_mul := fun x y => by
    rw [q_mul]
    have h := szQ_div (t := x.num * y.num) (b := x.den * y.den) (Int.mul_ne_zero (den_ne x) (den_ne y))
    have a1 := szQ_bnd x
    have a2 := szQ_bnd y
    have a3 := b2_mul x.num.natAbs y.num.natAbs
    have a5 := b2_mul x.den y.den
    rw [Int.natAbs_mul, Int.natAbs_mul, Int.natAbs_natCast, Int.natAbs_natCast] at h
    omega
  sz_div := fun x y hy => by
    rw [q_div _ _ hy]
    have hn : y.num ≠ 0 := fun z => hy (Rat.num_eq_zero.mp z)
    have h := szQ_div (t := x.num * y.den) (b := x.den * y.num) (Int.mul_ne_zero (den_ne x) hn)
    have a1 := szQ_bnd x
    have a2 := szQ_bnd y
    have a3 := b2_mul x.num.natAbs y.den
    have a5 := b2_mul x.den y.num.natAbs
    rw [Int.natAbs_mul, Int.natAbs_mul, Int.natAbs_natCast, Int.natAbs_natCast] at h
    omega
  sz_int := fun i => by
    rw [int_q]
    unfold szQ
    rw [Rat.num_intCast, Rat.den_intCast]
    have : b2 1 = 1 := by decide
    omega
def trialF : Nat → Nat → Nat → Bool
  | 0, _, _ => true
  | f + 1, n, b => if b * b ≤ n then (if n % b = 0 then false else trialF f n (b + 1)) else true
def primeB (n : Nat) : Bool := trialF (n + 1) n 2 && decide (1 < n)
class PrimeP (p : Nat) : Prop where
  lt : p < 99
  pr : primeB p = true
theorem PrimeP.pos {p : Nat} (h : PrimeP p) : 1 < p := by
  have := h.pr
  unfold primeB at this
  rw [Bool.and_eq_true] at this
  exact of_decide_eq_true this.2
def Zp (p : Nat) : Type := Fin p
def invN (p x : Nat) : Nat := ((List.range p).find? fun y => decide (x * y % p = 1)).getD 0
theorem inv_ok : ∀ p < 99, primeB p = true → ∀ x < p, x ≠ 0 → x * invN p x % p = 1 ∧ invN p x < p := by decide +kernel
section
variable {p : Nat} [hp : PrimeP p]
instance : NeZero p := ⟨by have := hp.pos; omega⟩
instance : Lean.Grind.CommRing (Zp p) := inferInstanceAs (Lean.Grind.CommRing (Fin p))
def Zp.inv (x : Zp p) : Zp p := (Fin.ofNat p (if x.val = 0 then 0 else invN p x.val) : Fin p)
instance : Inv (Zp p) := ⟨Zp.inv⟩
instance : Div (Zp p) := ⟨fun a b => a * b⁻¹⟩
theorem Zp.zero_val : ((0 : Zp p) : Fin p).val = 0 := by
  show (0 : Fin p).val = 0
  rfl
theorem Zp.one_val : ((1 : Zp p) : Fin p).val = 1 := by
  show (1 : Fin p).val = 1
  have := hp.pos
  show 1 % p = 1
  exact Nat.mod_eq_of_lt this
theorem Zp.ext {x y : Zp p} (h : (x : Fin p).val = (y : Fin p).val) : x = y := Fin.ext h
theorem Zp.mul_val (x y : Zp p) : ((x * y : Zp p) : Fin p).val = (x : Fin p).val * (y : Fin p).val % p := rfl
theorem Zp.mul_inv {a : Zp p} (h : a ≠ 0) : a * a⁻¹ = 1 := by
  apply Zp.ext
  have hv : (a : Fin p).val ≠ 0 := fun z => h (Zp.ext (z.trans Zp.zero_val.symm))
  have h1 := inv_ok p hp.lt hp.pr _ (a : Fin p).isLt hv
  rw [Zp.mul_val, Zp.one_val]
  show (a : Fin p).val * (Fin.ofNat p (if (a : Fin p).val = 0 then 0 else invN p (a : Fin p).val)).val % p = 1
  rw [if_neg hv, Fin.val_ofNat, Nat.mod_eq_of_lt h1.2]
  exact h1.1
theorem Zp.inv_zero : (0 : Zp p)⁻¹ = 0 := by
  apply Zp.ext
  rw [Zp.zero_val]
  show (Fin.ofNat p (if ((0 : Zp p) : Fin p).val = 0 then 0 else invN p ((0 : Zp p) : Fin p).val)).val = 0
  rw [if_pos Zp.zero_val, Fin.val_ofNat, Nat.zero_mod]
theorem Zp.inv_one {a b : Zp p} (h : a * b = 1) : a⁻¹ = b := by
  have h0 : a ≠ 0 := fun z => by
    rw [z, Lean.Grind.Semiring.zero_mul] at h
    have e : ((0 : Zp p) : Fin p).val = ((1 : Zp p) : Fin p).val := congrArg (fun x : Fin p => x.val) h
    rw [Zp.zero_val, Zp.one_val] at e
    cases e
  have h1 := Zp.mul_inv h0
  have e : a⁻¹ = a⁻¹ * (a * b) := by rw [h, Lean.Grind.Semiring.mul_one]
  rw [e, ← Lean.Grind.Semiring.mul_assoc, Lean.Grind.CommSemiring.mul_comm a⁻¹ a, h1, Lean.Grind.Semiring.one_mul]
theorem Zp.inv_inv (a : Zp p) : a⁻¹⁻¹ = a := by
  by_cases h : a = 0
  · rw [h, Zp.inv_zero, Zp.inv_zero]
  · exact Zp.inv_one (by rw [Lean.Grind.CommSemiring.mul_comm]; exact Zp.mul_inv h)
def Zp.zpow (a : Zp p) : Int → Zp p
  | .ofNat n => a ^ n
  | .negSucc n => (a ^ (n + 1))⁻¹
instance : Lean.Grind.Field (Zp p) where
  zpow := ⟨Zp.zpow⟩
  div_eq_mul_inv := fun _ _ => rfl
  zero_ne_one := fun h => by
    have e : ((0 : Zp p) : Fin p).val = ((1 : Zp p) : Fin p).val := congrArg (fun x : Fin p => x.val) h
    rw [Zp.zero_val, Zp.one_val] at e
    cases e
  inv_zero := Zp.inv_zero
  mul_inv_cancel := Zp.mul_inv
  zpow_zero := fun a => Lean.Grind.Semiring.pow_zero a
  zpow_succ := fun a n => Lean.Grind.Semiring.pow_succ a n
  zpow_neg := fun a n => by
    match n with
    | .ofNat 0 =>
      show a ^ (0 : Nat) = (a ^ (0 : Nat))⁻¹
      rw [Lean.Grind.Semiring.pow_zero]
      exact (Zp.inv_one (Lean.Grind.Semiring.mul_one 1)).symm
    | .ofNat (m + 1) => rfl
    | .negSucc m => exact (Zp.inv_inv _).symm
def encZ (x : Zp p) : D := .int ((x : Fin p).val : Int)
theorem tellsZ : Tells (encZ (p := p)) 2 := by
  refine ⟨fun x y => ?_, fun x => ?_, fun x => ?_⟩
  · unfold encZ
    simp only [PyData.eqv, beq_iff_eq]
    exact ⟨fun h => Zp.ext (by omega), fun h => by rw [h]⟩
  · unfold encZ
    simp [PyData.canLay0]
  · unfold encZ
    simp [PyData.depth]
instance : Num (Zp p) where
  k := p
  enc := encZ
  sz := fun _ => 0
  kn := by omega
  list := fun _ => rfl
  tells := tellsZ
  sz_add := fun _ _ => Nat.zero_le _
  sz_sub := fun _ _ => Nat.zero_le _
  sz_mul := fun _ _ => Nat.zero_le _
  sz_div := fun _ _ _ => Nat.zero_le _
  sz_int := fun _ => Nat.zero_le _
theorem Zp.ofI_nat (n : Nat) : ((ofI (n : Int) : Zp p) : Fin p).val = n % p := by
  show (Fin.intCast (n : Int) : Fin p).val = n % p
  unfold Fin.intCast
  rw [if_pos (by omega), Int.natAbs_natCast, Fin.val_ofNat]
theorem Zp.neg_val (x : Zp p) : ((-x : Zp p) : Fin p).val = (p - (x : Fin p).val) % p := rfl
theorem Zp.ofI_val (i : Int) : (((ofI i : Zp p) : Fin p).val : Int) = i.fmod p := by
  have hp1 := hp.pos
  rw [Int.fmod_eq_emod_of_nonneg _ (by omega)]
  cases i with
  | ofNat n =>
    have := Zp.ofI_nat (p := p) n
    show (((ofI (n : Int) : Zp p) : Fin p).val : Int) = (n : Int) % p
    rw [this]
    omega
  | negSucc n =>
    have h1 := Zp.ofI_nat (p := p) (n + 1)
    have h2 : (ofI (Int.negSucc n) : Zp p) = -ofI ((n + 1 : Nat) : Int) := by rw [Int.negSucc_eq]; exact ofI_neg _
    rw [h2, Zp.neg_val, h1]
    have h3 : (n + 1) % p < p := Nat.mod_lt _ (by omega)
    have h4 := Nat.div_add_mod (n + 1) p
    by_cases hz : (n + 1) % p = 0
    · rw [hz, Nat.sub_zero, Nat.mod_self]
      have h5 : (p : Int) ∣ Int.negSucc n := by
        rw [Int.negSucc_eq]
        refine Int.dvd_neg.mpr ⟨((n + 1) / p : Nat), ?_⟩
        rw [hz, Nat.add_zero] at h4
        have : ((p * ((n + 1) / p) : Nat) : Int) = ((n + 1 : Nat) : Int) := by rw [h4]
        rw [Int.natCast_mul] at this
        omega
      rw [Int.emod_eq_zero_of_dvd h5]
      rfl
    · rw [Nat.mod_eq_of_lt (by omega)]
      have e : Int.negSucc n = ((p - (n + 1) % p : Nat) : Int) + p * (-(((n + 1) / p : Nat) : Int) - 1) := by
        rw [Int.negSucc_eq, Int.mul_sub, Int.mul_neg, Int.mul_one]
        have : ((p * ((n + 1) / p) : Nat) : Int) + ((n + 1) % p : Nat) = ((n + 1 : Nat) : Int) := by rw [← Int.natCast_add, h4]
        rw [Int.natCast_mul] at this
        omega
      rw [e, Int.add_mul_emod_self_left]
      exact (Int.emod_eq_of_lt (by omega) (by omega)).symm
end
inductive Kd where
  | q
  | z (p : Nat) (h : PrimeP p)
def Kd.F : Kd → Type
  | .q => Rat
  | .z p _ => Zp p
instance instNumKd : (K : Kd) → Num K.F
  | .q => inferInstanceAs (Num Rat)
  | .z p _ => inferInstanceAs (Num (Zp p))
abbrev Kd.k (K : Kd) : Int := Num.k K.F
@[simp] theorem k_q : Num.k (Kd.F .q) = 0 := rfl
@[simp] theorem k_z {p : Nat} {h : PrimeP p} : Num.k (Kd.F (.z p h)) = p := rfl
theorem k_n0 {p : Nat} (h : PrimeP p) : ¬ p = 0 := by have := h.pos; omega
theorem k_z0 {p : Nat} (h : PrimeP p) : (p : Int) ≠ 0 := by have := h.pos; omega
end VI
set_option Elab.async false
set_option linter.all false
set_option maxRecDepth 100000
set_option exponentiation.threshold 2000
set_option maxHeartbeats 4000000
namespace VI
open PySem
def p_divisor_1 : XE :=
  (.cmp .NotEq (.var 1) (.cst (.int 0)))
def p_divisor_2 : XSs :=
  (.cons (.par [0, 1] (.cons (.var 1) (.cons (.bin .Mod (.var 0) (.var 1)) .nil)))
  .nil)
def b_divisor : XSs :=
  (.cons (.whl p_divisor_1 p_divisor_2)
  (.cons (.ret (.bi .abs (.cons (.var 0) .nil)))
  .nil))
def b_lowest : XSs :=
  (.cons (.asg (.nm 2) (.call "divisor" (.cons (.var 0) (.cons (.var 1) .nil))))
  (.cons (.ife (.cmp .Lt (.var 1) (.cst (.int 0))) (.cons (.asg (.nm 2) (.neg (.var 2)))
  .nil) .nil)
  (.cons (.ret (.tup (.cons (.bin .FloorDiv (.var 0) (.var 2)) (.cons (.bin .FloorDiv (.var 1) (.var 2)) .nil))))
  .nil)))
local macro_rules | `(tactic| walk_at "vi") => `(tactic| simp [startE, cmpD, binD, biD, isiD, ixD, dem, sfE, sfEs, frE, isOwn, ownL, isList, staE, setT, setAll, L2.atI, L2.ixN, divOk, *])
open Num
def P_divisor (o : Option Sig) : Prop := ∀ (a b : Int) (sf : Bool), clO o sf [.int a, .int b] = some (.int (a.gcd b))
def P_lowest (o : Option Sig) : Prop := ∀ (t b : Int) (sf : Bool), b ≠ 0 → clO o sf [.int t, .int b] = some (encQ (Rat.divInt t b))
@[simp] theorem enc_q (x : Rat) : (enc (F := Kd.F .q) x) = .tuple [.int x.num, .int x.den] := rfl
@[simp] theorem enc_z {p : Nat} {h : PrimeP p} (x : Zp p) : (enc (F := Kd.F (.z p h)) x) = .int ((x : Fin p).val : Int) := rfl
theorem gcd_step (a b : Int) : b.gcd (a.fmod b) = a.gcd b := by
  rw [Int.fmod_def, Int.sub_eq_add_neg, ← Int.mul_neg, Int.gcd_add_mul_left_right, Int.gcd_comm]
theorem fmod_small (a : Int) {b : Int} (h : b ≠ 0) : (a.fmod b).natAbs < b.natAbs := by
  rcases Int.lt_or_gt_of_ne h with h1 | h1
  · have e : a.fmod b = -((-a).fmod (-b)) := by rw [Int.fmod_def, Int.fmod_def, Int.neg_fdiv_neg, Int.neg_mul]; omega
    have a1 := Int.fmod_nonneg_of_pos (-a) (b := -b) (by omega)
    have a2 := Int.fmod_lt_of_pos (-a) (b := -b) (by omega)
    omega
  · have a1 := Int.fmod_nonneg_of_pos a h1
    have a2 := Int.fmod_lt_of_pos a h1
    omega
theorem gcd_run (Γ : Tab) (n : Nat) : ∀ (s s' : Sta) (a b : Int), b.natAbs ≤ n → ∃ (c d : Int) (t t' : Sta), c.natAbs = a.gcd b ∧ whlGo (ev Γ p_divisor_1) (exs Γ p_divisor_2) [some (s, .int a), some (s', .int b)] = some (.nx [some (t, .int c), some (t', .int d)]) := by
  induction n with
  | zero =>
    intro s s' a b h
    have hb : b = 0 := by omega
    subst hb
    refine ⟨a, 0, s, s', by rw [Int.gcd_zero_right], ?_⟩
    rw [whl_eq]
    unfold p_divisor_1
    walk_at "vi"
  | succ n ih =>
    intro s s' a b h
    by_cases hb : b = 0
    · subst hb
      refine ⟨a, 0, s, s', by rw [Int.gcd_zero_right], ?_⟩
      rw [whl_eq]
      unfold p_divisor_1
      walk_at "vi"
    · have hs := fmod_small a hb
      obtain ⟨c, d, t, t', h1, h2⟩ := ih .shr .shr b (a.fmod b) (by omega)
      refine ⟨c, d, t, t', by rw [h1, gcd_step], ?_⟩
      rw [whl_eq]
      conv => lhs; unfold p_divisor_1 p_divisor_2
      simp [cmpD, hb, binD, sfEs, sfE, isList, setAll]
      exact h2
theorem abs_gcd (c : Int) : (if c < 0 then -c else c) = (c.natAbs : Int) := by
  split <;> omega
theorem run_divisor (Γ : Tab) : P_divisor (some (sgR Γ b_divisor 2 2 false false)) := fun a b sf => by
  refine clR (f := false) ?_
  obtain ⟨c, d, t, t', h1, h2⟩ := gcd_run Γ b.natAbs .shr .shr a b (Nat.le_refl _)
  have h3 := abs_gcd c
  rw [h1] at h3
  unfold b_divisor
  simp [startE, h2, biD, h3, dem, sfE, isList, frE, frBi, isOwn]
theorem low_pos {t b : Int} (hb : 0 < b) : t.fdiv (t.gcd b) = (Rat.divInt t b).num ∧ b.fdiv (t.gcd b) = ((Rat.divInt t b).den : Int) := by
  have hg : (0 : Int) ≤ (t.gcd b : Int) := by omega
  rw [Int.fdiv_eq_ediv_of_nonneg _ hg, Int.fdiv_eq_ediv_of_nonneg _ hg, Rat.num_divInt, Rat.den_divInt, if_neg (by omega), Int.sign_eq_one_of_pos hb, Int.one_mul, Int.gcd_comm]
  refine ⟨rfl, ?_⟩
  rw [Int.natCast_ediv]
  congr 1
  omega
theorem low_neg {t b : Int} (hb : b < 0) : t.fdiv (-(t.gcd b : Int)) = (Rat.divInt t b).num ∧ b.fdiv (-(t.gcd b : Int)) = ((Rat.divInt t b).den : Int) := by
  have h := low_pos (t := -t) (b := -b) (by omega)
  rw [Int.gcd_neg, Int.neg_gcd] at h
  have e : Rat.divInt (-t) (-b) = Rat.divInt t b := by
    rw [Rat.divInt_eq_divInt_iff (by omega) (by omega)]
    rw [Int.neg_mul, Int.mul_neg]
  rw [e] at h
  rw [← Int.neg_fdiv_neg, Int.neg_neg, ← Int.neg_fdiv_neg b, Int.neg_neg]
  exact h
theorem gcd_ne {t b : Int} (hb : b ≠ 0) : t.gcd b ≠ 0 := fun h => hb (Int.gcd_eq_zero_iff.mp h).2
theorem run_lowest (Γ : Tab) (h1 : P_divisor (Γ "divisor")) : P_lowest (some (sgR Γ b_lowest 3 2 false false)) := fun t b sf hb => by
  refine clR (f := false) ?_
  have hg := gcd_ne (t := t) hb
  have h1 := h1 t b
  unfold b_lowest encQ
  by_cases h : b < 0
  · obtain ⟨e1, e2⟩ := low_neg (t := t) h
    simp [startE, h1, dem, staE, isList, frE, cmpD, h, binD, divOk, hg, e1, e2, sfEs, sfE, isOwn]
  · obtain ⟨e1, e2⟩ := low_pos (t := t) (b := b) (by omega)
    simp [startE, h1, dem, staE, isList, frE, cmpD, h, binD, divOk, hg, e1, e2, sfEs, sfE, isOwn]
end VI
set_option Elab.async false
set_option linter.all false
set_option maxRecDepth 100000
set_option exponentiation.threshold 2000
set_option maxHeartbeats 4000000
namespace VI
open PySem
open Num
theorem lcGo_map {α β : Type} {f : D → Option (Option D)} {g : α → D} {h : α → β} {e : β → D} : ∀ {l : List α}, (∀ x ∈ l, f (g x) = some (some (e (h x)))) → lcGo f (l.map g) = some ((l.map h).map e)
  | [], _ => rfl
  | x :: l, hf => by
    have ih := lcGo_map (l := l) fun y hy => hf y (List.mem_cons_of_mem _ hy)
    simp only [List.map_cons, lcGo, hf x (List.mem_cons_self ..), ih]
theorem lcGo_range0 {β : Type} {f : D → Option (Option D)} {h : Nat → β} {e : β → D} {n : Nat} (hf : ∀ i < n, f (.int (i : Int)) = some (some (e (h i)))) : lcGo f ((List.range n).map fun (k : Nat) => .int (k : Int)) = some (((List.range n).map h).map e) :=
  lcGo_map (g := fun k : Nat => PyData.int (k : Int)) fun x hx => hf x (List.mem_range.mp hx)
def Goes (o : Option Out) (I : Env → Prop) : Prop := ∃ ρ', (o = some (.nx ρ') ∨ o = some (.ct ρ')) ∧ I ρ'
theorem Goes.nx {o : Option Out} {I : Env → Prop} {ρ : Env} (h : o = some (.nx ρ)) (i : I ρ) : Goes o I := ⟨ρ, .inl h, i⟩
theorem Goes.ct {o : Option Out} {I : Env → Prop} {ρ : Env} (h : o = some (.ct ρ)) (i : I ρ) : Goes o I := ⟨ρ, .inr h, i⟩
theorem forGo_pre {α : Type} {f : D → Env → Option Out} {g : α → D} {I : List α → Env → Prop} (all : List α) (hf : ∀ pre x post ρ, all = pre ++ x :: post → I pre ρ → Goes (f (g x) ρ) (I (pre ++ [x]))) : ∀ (l pre : List α) (ρ : Env), all = pre ++ l → I pre ρ → ∃ ρ', forGo f (l.map g) ρ = some (.nx ρ') ∧ I all ρ'
  | [], pre, ρ, e, i => by
    rw [List.append_nil] at e
    subst e
    exact ⟨ρ, rfl, i⟩
  | x :: l, pre, ρ, e, i => by
    obtain ⟨ρ1, h1, i1⟩ := hf pre x l ρ e i
    obtain ⟨ρ2, h2, i2⟩ := forGo_pre all hf l (pre ++ [x]) ρ1 (by rw [e, List.append_assoc]; rfl) i1
    refine ⟨ρ2, ?_, i2⟩
    rcases h1 with h1 | h1 <;> simp only [List.map_cons, forGo, h1] <;> exact h2
theorem forGo_run {α : Type} {f : D → Env → Option Out} {g : α → D} {I : List α → Env → Prop} {all : List α} {ρ : Env} (i : I [] ρ) (hf : ∀ pre x post ρ, all = pre ++ x :: post → I pre ρ → Goes (f (g x) ρ) (I (pre ++ [x]))) : ∃ ρ', forGo f (all.map g) ρ = some (.nx ρ') ∧ I all ρ' :=
  forGo_pre all hf all [] ρ rfl i
@[simp] theorem atI_map {α : Type} (f : α → D) (xs : List α) (i : Nat) : L2.atI (xs.map f) (i : Int) = (xs[i]?).map f := by
  unfold L2.atI L2.ixN
  by_cases h : i < xs.length
  · rw [if_pos (by omega), if_pos (by simpa using h)]
    simp
  · rw [if_pos (by omega), if_neg (by simpa using h)]
    simp [List.getElem?_eq_none (Nat.le_of_not_lt h)]
theorem atI_at {α : Type} (f : α → D) (xs : List α) {i : Nat} (h : i < xs.length) : L2.atI (xs.map f) (i : Int) = some (f xs[i]) := by
  rw [atI_map, List.getElem?_eq_getElem h]
  rfl
theorem isi_bool {K : Kd} (x : K.F) : isiD (enc x) .bool = some false := by cases K <;> rfl
theorem isi_tuple {K : Kd} (x : K.F) : isiD (enc x) .tuple = some (decide (K.k = 0)) := by
  cases K with
  | q => rfl
  | z p h =>
    have := k_z0 h
    show isiD (.int _) .tuple = some (decide ((p : Int) = 0))
    rw [decide_eq_false this]
    rfl
section
variable {F : Type} [Num F]
def SzR (b : Nat) (r : List F) : Prop := ∀ x ∈ r, sz x ≤ b
def SzM (b : Nat) (m : List (List F)) : Prop := ∀ r ∈ m, SzR b r
theorem SzR.mono {a b : Nat} {r : List F} (h : SzR a r) (l : a ≤ b) : SzR b r := fun x hx => Nat.le_trans (h x hx) l
theorem SzM.mono {a b : Nat} {m : List (List F)} (h : SzM a m) (l : a ≤ b) : SzM b m := fun x hx => (h x hx).mono l
end
end VI
set_option Elab.async false
set_option linter.all false
set_option maxRecDepth 100000
set_option exponentiation.threshold 2000
set_option maxHeartbeats 4000000
namespace VI
open PySem
open Num
end VI
set_option Elab.async false
set_option linter.all false
set_option maxRecDepth 100000
set_option exponentiation.threshold 2000
set_option maxHeartbeats 4000000
namespace VI
open PySem
def p_law_is_prime_1 : XE :=
  (.cmp .LtE (.bin .Mult (.var 1) (.var 1)) (.var 0))
def p_law_is_prime_2 : XSs :=
  (.cons (.ife (.cmp .Eq (.bin .Mod (.var 0) (.var 1)) (.cst (.int 0))) (.cons (.ret (.cst (.bool false)))
  .nil) .nil)
  (.cons (.asg (.nm 1) (.bin .Add (.var 1) (.cst (.int 1))))
  .nil))
def b_law_is_prime : XSs :=
  (.cons (.asg (.nm 1) (.cst (.int 2)))
  (.cons (.whl p_law_is_prime_1 p_law_is_prime_2)
  (.cons (.ret (.cmp .Gt (.var 0) (.cst (.int 1))))
  .nil)))
def p_law_kind_1 : XE :=
  (.and (.cmp .Gt (.var 1) (.cst (.int 0))) (.not (.call "_law_is_prime" (.cons (.var 1) .nil))))
def p_law_kind_2 : XSs :=
  (.cons (.asg (.nm 1) (.bin .Sub (.var 1) (.cst (.int 1))))
  .nil)
def b_law_kind : XSs :=
  (.cons (.asg (.nm 1) (.bin .Mod (.bin .FloorDiv (.var 0) (.cst (.int 2))) (.cst (.int 99))))
  (.cons (.whl p_law_kind_1 p_law_kind_2)
  (.cons (.ret (.bin .Mult (.var 1) (.bin .Mod (.var 0) (.cst (.int 2)))))
  .nil)))
def b_law_mix : XSs :=
  (.cons (.ife (.and (.cmp .Eq (.bin .Mod (.var 0) (.cst (.int 2))) (.cst (.int 1))) (.cmp .NotEq (.bin .RShift (.var 0) (.cst (.int 27))) (.cst (.int 0)))) (.cons (.ret (.bin .Mod (.bin .RShift (.var 0) (.bin .Add (.cst (.int 1)) (.bin .Mult (.cst (.int 20)) (.var 1)))) (.cst (.int 1048576))))
  .nil) .nil)
  (.cons (.asg (.nm 2) (.bin .Mod (.bin .Add (.bin .Mult (.var 0) (.bin .Add (.bin .Mult (.cst (.int 2)) (.var 1)) (.cst (.int 3)))) (.var 1)) (.cst (.int 2147483629))))
  (.cons (.asg (.nm 2) (.bin .Mod (.bin .Mult (.bin .Add (.bin .Mult (.var 2) (.var 2)) (.cst (.int 1))) (.cst (.int 48271))) (.cst (.int 2147483629))))
  (.cons (.ret (.bin .Mod (.bin .Mult (.var 2) (.var 2)) (.cst (.int 2147483587))))
  .nil))))
def p_law_divisor_1 : XE :=
  (.cmp .NotEq (.var 1) (.cst (.int 0)))
def p_law_divisor_2 : XSs :=
  (.cons (.par [0, 1] (.cons (.var 1) (.cons (.bin .Mod (.var 0) (.var 1)) .nil)))
  .nil)
def b_law_divisor : XSs :=
  (.cons (.whl p_law_divisor_1 p_law_divisor_2)
  (.cons (.ret (.bi .abs (.cons (.var 0) .nil)))
  .nil))
open Num
theorem fm_pos (a : Int) {b : Int} (h : 0 < b) : 0 ≤ a.fmod b ∧ a.fmod b < b := ⟨Int.fmod_nonneg_of_pos _ h, Int.fmod_lt_of_pos _ h⟩
def P_law_is_prime (o : Option Sig) : Prop := ∀ (n : Nat) (sf : Bool), n < 2 ^ 900 → clO o sf [.int (n : Int)] = some (.bool (primeB n))
theorem trial_run (Γ : Tab) (s : Sta) (n b : Nat) (hb : 1 ≤ b) (hbn : b ≤ n + 2) (hn : n < 2 ^ 900) (f : Nat) (hf : n + 3 - b ≤ f) :
    (trialF f n b = false → whlGo (ev Γ p_law_is_prime_1) (exs Γ p_law_is_prime_2) [some (s, .int n), some (.shr, .int b)] = some (.rt false (.bool false))) ∧
    (trialF f n b = true → ∃ b' : Int, whlGo (ev Γ p_law_is_prime_1) (exs Γ p_law_is_prime_2) [some (s, .int n), some (.shr, .int b)] = some (.nx [some (s, .int n), some (.shr, .int b')])) := by
  have hm : mulOk (b : Int) (b : Int) = true := mulOk_small (by omega) (by omega)
  have hb0 : ¬ b = 0 := by omega
  have hle : (b : Int) * b ≤ n ↔ b * b ≤ n := by omega
  have hmod : ((n : Int).fmod b = 0) ↔ n % b = 0 := by
    rw [Int.fmod_eq_emod_of_nonneg _ (by omega)]
    omega
  cases f with
  | zero => omega
  | succ f =>
  rw [whl_eq, trialF]
  conv => unfold p_law_is_prime_1 p_law_is_prime_2
  by_cases h : b * b ≤ n
  · have hbn' : b ≤ n := Nat.le_trans (Nat.le_mul_of_pos_right _ hb) h
    by_cases h2 : n % b = 0
    · simp [hm, hb0, hle, hmod, h, h2]
    · have ih := trial_run Γ s n (b + 1) (by omega) (by omega) hn f (by omega)
      simp [hm, hb0, hle, hmod, h, h2]
      exact ih
  · simp [hm, hb0, hle, hmod, h]
theorem run_law_is_prime (Γ : Tab) : P_law_is_prime (some (sgR Γ b_law_is_prime 2 1 false false)) := fun n sf hn => by
  refine clR (f := false) ?_
  have t := trial_run Γ .shr n 2 (by omega) (by omega) (by omega) (n + 1) (by omega)
  have e2 : ((2 : Nat) : Int) = 2 := rfl
  rw [e2] at t
  unfold b_law_is_prime primeB
  cases ht : trialF (n + 1) n 2 with
  | false =>
    have t1 := t.1 ht
    simp [startE, t1]
  | true =>
    obtain ⟨b', t2⟩ := t.2 ht
    simp [startE, t2]
    omega
def lastP : Nat → Nat
  | 0 => 0
  | n + 1 => if primeB (n + 1) then n + 1 else lastP n
theorem lastP_le : ∀ n : Nat, lastP n ≤ n
  | 0 => Nat.le_refl _
  | n + 1 => by
    unfold lastP
    split
    · exact Nat.le_refl _
    · exact Nat.le_succ_of_le (lastP_le n)
theorem lastP_prime : ∀ n : Nat, lastP n = 0 ∨ primeB (lastP n) = true
  | 0 => .inl rfl
  | n + 1 => by
    unfold lastP
    split
    · rename_i h
      exact .inr h
    · exact lastP_prime n
theorem lastP_run (Γ : Tab) (s : Sta) (c : D) (h1 : P_law_is_prime (Γ "_law_is_prime")) : ∀ (n : Nat) (hn : n < 2 ^ 900),
    whlGo (ev Γ p_law_kind_1) (exs Γ p_law_kind_2) [some (s, c), some (.shr, .int n)] = some (.nx [some (s, c), some (.shr, .int (lastP n))])
  | 0, _ => by
    have e := fun sf => h1 0 sf (by decide)
    rw [whl_eq, lastP]
    unfold p_law_kind_1
    have e0 : ((0 : Nat) : Int) = 0 := rfl
    rw [e0] at e ⊢
    simp [e]
  | n + 1, hn => by
    have e := fun sf => h1 (n + 1) sf hn
    have ih := lastP_run Γ s c h1 n (by omega)
    rw [whl_eq, lastP]
    have h2 : (0 : Int) < ((n + 1 : Nat) : Int) := by omega
    have h3 : ((n + 1 : Nat) : Int) - 1 = n := by omega
    conv => unfold p_law_kind_1 p_law_kind_2
    cases hp : primeB (n + 1) with
    | true =>
      rw [hp] at e
      simp only [Int.natCast_add, Int.natCast_one] at e h2 h3
      simp [e, h2, h3]
    | false =>
      rw [hp] at e
      simp only [Int.natCast_add, Int.natCast_one] at e h2 h3
      simp [e, h2, h3]
      exact ih
def P_law_kind (o : Option Sig) : Prop := ∀ (c : Int), ∃ K : Kd, ∀ sf : Bool, clO o sf [.int c] = some (.int K.k)
theorem run_law_kind (Γ : Tab) (h1 : P_law_is_prime (Γ "_law_is_prime")) : P_law_kind (some (sgR Γ b_law_kind 2 1 false false)) := fun c => by
  have h0 := fm_pos (c.fdiv 2) (b := 99) (by decide)
  obtain ⟨n, hn⟩ := Int.eq_ofNat_of_zero_le h0.1
  have hr := lastP_run Γ .shr (.int c) h1 n (by omega)
  have hl := lastP_le n
  have hq := lastP_prime n
  have hm := fm_pos c (b := 2) (by decide)
  have hmm : mulOk (lastP n : Int) (c.fmod 2) = true := mulOk_small (by omega) (by omega)
  have fin : ∀ K : Kd, (lastP n : Int) * c.fmod 2 = K.k → ∀ sf : Bool, clO (some (sgR Γ b_law_kind 2 1 false false)) sf [.int c] = some (.int K.k) := fun K e sf => by
    refine clR (f := false) ?_
    rw [← e]
    unfold b_law_kind
    simp [startE, hn, hr, hmm]
  have h2 : c.fmod 2 = 0 ∨ c.fmod 2 = 1 := by omega
  rcases h2 with h2 | h2
  · exact ⟨.q, fin .q (by rw [h2, Int.mul_zero]; rfl)⟩
  · rcases hq with hq | hq
    · exact ⟨.q, fin .q (by rw [hq, h2]; rfl)⟩
    · by_cases hz : lastP n = 0
      · exact ⟨.q, fin .q (by rw [hz, h2]; rfl)⟩
      · have hp : PrimeP (lastP n) := ⟨by omega, hq⟩
        exact ⟨.z (lastP n) hp, fin (.z (lastP n) hp) (by rw [h2, Int.mul_one]; rfl)⟩
def CellOk (c : Int) : Prop := c.natAbs.log2 ≤ 1048576
def P_law_mix (o : Option Sig) : Prop := ∀ (c j : Int), CellOk c → 0 ≤ j → j ≤ 100000 → ∃ m : Int, 0 ≤ m ∧ m < 2147483648 ∧ ∀ sf : Bool, clO o sf [.int c, .int j] = some (.int m)
theorem run_law_mix (Γ : Tab) : P_law_mix (some (sgR Γ b_law_mix 3 2 false false)) := fun c j hc hj hj1 => by
  have l3 : ∀ z : Int, 0 ≤ z → z ≤ 300000 → z.natAbs.log2 < 1000 := fun z h0 h1 => by
    by_cases hz : z.natAbs = 0
    · rw [hz]; decide
    · exact (Nat.log2_lt hz).mpr (by omega)
  have mj : mulOk 20 j = true := mulOk_small (by decide) (by omega)
  have m2 : mulOk 2 j = true := mulOk_small (by decide) (by omega)
  have mc : mulOk c (2 * j + 3) = true := by
    have := l3 (2 * j + 3) (by omega) (by omega)
    unfold CellOk at hc
    exact decide_eq_true (by omega)
  by_cases hb : c.fmod 2 = 1 ∧ ¬ c / 134217728 = 0
  · have h1 := fm_pos (c / 2 ^ (1 + 20 * j).toNat) (b := 1048576) (by decide)
    refine ⟨(c / 2 ^ (1 + 20 * j).toNat).fmod 1048576, h1.1, by omega, fun sf => clR (f := false) ?_⟩
    have h0 : (0 : Int) ≤ 1 + 20 * j := by omega
    unfold b_law_mix
    simp [startE, hb.1, hb.2, mj, h0]
  · have h1 := fm_pos (c * (2 * j + 3) + j) (b := 2147483629) (by decide)
    have h2 := fm_pos (((c * (2 * j + 3) + j).fmod 2147483629 * (c * (2 * j + 3) + j).fmod 2147483629 + 1) * 48271) (b := 2147483629) (by decide)
    generalize hx : (c * (2 * j + 3) + j).fmod 2147483629 = x at h1 h2
    have ma : mulOk x x = true := mulOk_small (by omega) (by omega)
    have hxx : x * x ≤ 2147483629 * 2147483629 := Int.mul_le_mul (by omega) (by omega) (by omega) (by omega)
    have hxx0 : 0 ≤ x * x := Int.mul_nonneg (by omega) (by omega)
    have mb : mulOk (x * x + 1) 48271 = true := mulOk_small (by omega) (by decide)
    generalize hy : ((x * x + 1) * 48271).fmod 2147483629 = y at h2
    have my : mulOk y y = true := mulOk_small (by omega) (by omega)
    have h3 := fm_pos (y * y) (b := 2147483587) (by decide)
    refine ⟨(y * y).fmod 2147483587, h3.1, by omega, fun sf => clR (f := false) ?_⟩
    unfold b_law_mix
    by_cases hc2 : c.fmod 2 = 1
    · have hd : c / 134217728 = 0 := Classical.byContradiction fun z => hb ⟨hc2, z⟩
      simp [startE, hc2, hd, m2, mc, hx, ma, mb, hy, my]
    · simp [startE, hc2, m2, mc, hx, ma, mb, hy, my]
theorem run_law_divisor (Γ : Tab) : P_divisor (some (sgR Γ b_law_divisor 2 2 false false)) := run_divisor Γ
def P_law_lowest (o : Option Sig) : Prop := ∀ (t b : Int) (sf : Bool), 0 < b → clO o sf [.int t, .int b] = some (encQ (Rat.divInt t b))
theorem Zp.int_enc {p : Nat} [PrimeP p] {v : Int} (h0 : 0 ≤ v) (h1 : v < p) : PyData.int v = encZ (ofI v : Zp p) := by
  unfold encZ
  rw [Zp.ofI_val, Int.fmod_eq_emod_of_nonneg _ (by omega), Int.emod_eq_of_lt h0 h1]
end VI
set_option Elab.async false
set_option linter.all false
set_option maxRecDepth 100000
set_option exponentiation.threshold 2000
set_option maxHeartbeats 4000000
namespace VI
open PySem
open Num
theorem P_lowest.weak {o : Option Sig} (h : P_lowest o) : P_law_lowest o := fun t b sf hb => h t b sf (by omega)
theorem if01 (t : Prop) [Decidable t] : (if t then (1 : Int) else 0) = 0 ∨ (if t then (1 : Int) else 0) = 1 := by split <;> simp
end VI
set_option Elab.async false
set_option linter.all false
set_option maxRecDepth 100000
set_option exponentiation.threshold 2000
set_option maxHeartbeats 4000000
namespace VI
open PySem
def p_read_figures_1 : XSs :=
  (.cons (.ife (.cmp .NotIn (.var 1) (.cst (.str "0123456789"))) (.cons (.ret (.cst .none))
  .nil) .nil)
  .nil)
def x_read_figures : XSs :=
  (.cons (.ife (.or (.not (.chn .LtE .LtE (.cst (.int 1)) (.bi .len (.cons (.var 0) .nil)) (.cst (.int 20)))) (.and (.cmp .Eq (.ix (.var 0) (.cst (.int 0))) (.cst (.str "0"))) (.cmp .NotEq (.var 0) (.cst (.str "0"))))) (.cons (.ret (.cst .none))
  .nil) .nil)
  (.cons (.for (.nm 1) (.seq (.var 0)) p_read_figures_1)
  (.cons (.ret (.bi .int (.cons (.var 0) .nil)))
  .nil)))
def b_read_figures : XSs :=
  (.cons (.ife (.or (.not (.chn .LtE .LtE (.cst (.int 1)) (.bi .len (.cons (.var 0) .nil)) (.cst (.int 20)))) (.and (.cmp .Eq (.ix (.var 0) (.cst (.int 0))) (.cst (.str "0"))) (.cmp .NotEq (.var 0) (.cst (.str "0"))))) (.cons (.ret (.cst .none))
  .nil) .nil)
  (.cons (.for (.nm 1) (.seq (.var 0)) p_read_figures_1)
  (.cons (.ret (.bi .int (.cons (.var 0) .nil)))
  (.cons .stop .nil))))
def x_read_whole : XSs :=
  (.cons (.ife (.cmp .NotEq (.sl (.var 0) (.cst .none) (.cst (.int 1))) (.cst (.str "-"))) (.cons (.ret (.call "read_figures" (.cons (.var 0) .nil)))
  .nil) .nil)
  (.cons (.asg (.nm 1) (.call "read_figures" (.cons (.sl (.var 0) (.cst (.int 1)) (.cst .none)) .nil)))
  (.cons (.ife (.cmp .Is (.var 1) (.cst .none)) (.cons (.ret (.cst .none)) .nil) .nil)
  (.cons (.ife (.cmp .Eq (.var 1) (.cst (.int 0))) (.cons (.ret (.cst .none))
  .nil) .nil)
  (.cons (.ret (.neg (.var 1)))
  .nil)))))
def b_read_whole : XSs :=
  (.cons (.ife (.cmp .NotEq (.sl (.var 0) (.cst .none) (.cst (.int 1))) (.cst (.str "-"))) (.cons (.ret (.call "read_figures" (.cons (.var 0) .nil)))
  .nil) .nil)
  (.cons (.asg (.nm 1) (.call "read_figures" (.cons (.sl (.var 0) (.cst (.int 1)) (.cst .none)) .nil)))
  (.cons (.ife (.cmp .Is (.var 1) (.cst .none)) (.cons (.ret (.cst .none)) .nil) .nil)
  (.cons (.ife (.cmp .Eq (.var 1) (.cst (.int 0))) (.cons (.ret (.cst .none))
  .nil) .nil)
  (.cons (.ret (.neg (.var 1)))
  (.cons .stop .nil))))))
def x_read_fraction : XSs :=
  (.cons (.asg (.tp [2, 3, 4]) (.bi .part (.cons (.var 0) (.cons (.cst (.str "/")) .nil))))
  (.cons (.ife (.cmp .Eq (.var 3) (.cst (.str ""))) (.cons (.asg (.nm 5) (.call "read_whole" (.cons (.var 2) .nil)))
  (.cons (.ife (.cmp .Is (.var 5) (.cst .none)) (.cons (.ret (.cst .none)) .nil) .nil)
  (.cons (.ret (.tup (.cons (.var 5) (.cons (.cst (.int 1)) .nil))))
  .nil))) .nil)
  (.cons (.asg (.nm 5) (.call "read_whole" (.cons (.var 2) .nil)))
  (.cons (.ife (.cmp .Is (.var 5) (.cst .none)) (.cons (.ret (.cst .none)) .nil) .nil)
  (.cons (.asg (.nm 6) (.call "read_figures" (.cons (.var 4) .nil)))
  (.cons (.ife (.cmp .Is (.var 6) (.cst .none)) (.cons (.ret (.cst .none)) .nil) .nil)
  (.cons (.asg (.nm 1) (.tup (.cons (.var 5) (.cons (.var 6) .nil))))
  (.cons (.ife (.or (.cmp .Lt (.ix (.var 1) (.cst (.int 1))) (.cst (.int 2))) (.cmp .NotEq (.call "lowest" (.cons (.ix (.var 1) (.cst (.int 0))) (.cons (.ix (.var 1) (.cst (.int 1))) .nil))) (.var 1))) (.cons (.ret (.cst .none))
  .nil) .nil)
  (.cons (.ife (.cmp .Is (.var 1) (.cst .none)) (.cons .stop .nil) .nil)
  (.cons (.ret (.var 1))
  .nil))))))))))
def b_read_fraction : XSs :=
  (.cons (.asg (.tp [2, 3, 4]) (.bi .part (.cons (.var 0) (.cons (.cst (.str "/")) .nil))))
  (.cons (.ife (.cmp .Eq (.var 3) (.cst (.str ""))) (.cons (.asg (.nm 5) (.call "read_whole" (.cons (.var 2) .nil)))
  (.cons (.ife (.cmp .Is (.var 5) (.cst .none)) (.cons (.ret (.cst .none)) .nil) .nil)
  (.cons (.ret (.tup (.cons (.var 5) (.cons (.cst (.int 1)) .nil))))
  .nil))) .nil)
  (.cons (.asg (.nm 5) (.call "read_whole" (.cons (.var 2) .nil)))
  (.cons (.ife (.cmp .Is (.var 5) (.cst .none)) (.cons (.ret (.cst .none)) .nil) .nil)
  (.cons (.asg (.nm 6) (.call "read_figures" (.cons (.var 4) .nil)))
  (.cons (.ife (.cmp .Is (.var 6) (.cst .none)) (.cons (.ret (.cst .none)) .nil) .nil)
  (.cons (.asg (.nm 1) (.tup (.cons (.var 5) (.cons (.var 6) .nil))))
  (.cons (.ife (.or (.cmp .Lt (.ix (.var 1) (.cst (.int 1))) (.cst (.int 2))) (.cmp .NotEq (.call "lowest" (.cons (.ix (.var 1) (.cst (.int 0))) (.cons (.ix (.var 1) (.cst (.int 1))) .nil))) (.var 1))) (.cons (.ret (.cst .none))
  .nil) .nil)
  (.cons (.ife (.cmp .Is (.var 1) (.cst .none)) (.cons .stop .nil) .nil)
  (.cons (.ret (.var 1))
  (.cons .stop .nil)))))))))))
def x_read_number : XSs :=
  (.cons (.ife (.cmp .Eq (.var 0) (.cst (.int 0))) (.cons (.ret (.call "read_fraction" (.cons (.var 1) .nil)))
  .nil) .nil)
  (.cons (.asg (.nm 2) (.call "read_figures" (.cons (.var 1) .nil)))
  (.cons (.ife (.cmp .Is (.var 2) (.cst .none)) (.cons (.ret (.cst .none)) .nil) .nil)
  (.cons (.ife (.cmp .GtE (.var 2) (.var 0)) (.cons (.ret (.cst .none))
  .nil) .nil)
  (.cons (.ife (.cmp .Is (.var 2) (.cst .none)) (.cons .stop .nil) .nil)
  (.cons (.ret (.var 2))
  .nil))))))
def b_read_number : XSs :=
  (.cons (.ife (.cmp .Eq (.var 0) (.cst (.int 0))) (.cons (.ret (.call "read_fraction" (.cons (.var 1) .nil)))
  .nil) .nil)
  (.cons (.asg (.nm 2) (.call "read_figures" (.cons (.var 1) .nil)))
  (.cons (.ife (.cmp .Is (.var 2) (.cst .none)) (.cons (.ret (.cst .none)) .nil) .nil)
  (.cons (.ife (.cmp .GtE (.var 2) (.var 0)) (.cons (.ret (.cst .none))
  .nil) .nil)
  (.cons (.ife (.cmp .Is (.var 2) (.cst .none)) (.cons .stop .nil) .nil)
  (.cons (.ret (.var 2))
  (.cons .stop .nil)))))))
def p_read_table_1 : XSs :=
  (.cons (.asg (.nm 8) (.call "read_number" (.cons (.var 0) (.cons (.var 5) .nil)))) (.cons (.ife (.cmp .Is (.var 8) (.cst .none)) (.cons (.ret (.cst .none)) .nil) .nil) (.cons (.app (.var 6) (.var 8)) .nil)))
def p_read_table_2 : XSs :=
  (.cons (.ife (.isi (.var 2) .list) .nil (.cons .stop .nil))
  (.cons (.asg (.nm 7) (.bi .split (.cons (.var 3) (.cons (.cst (.str " ")) .nil))))
  (.cons (.asg (.nm 6) (.lst .nil))
  (.cons (.for (.nm 5) (.seq (.var 7)) p_read_table_1)
  (.cons (.app (.var 2) (.var 6))
  .nil)))))
def p_read_table_3 : XSs :=
  (.cons (.ife (.cmp .NotEq (.bi .len (.cons (.var 4) .nil)) (.bi .len (.cons (.ix (.var 2) (.cst (.int 0))) .nil))) (.cons (.ret (.cst .none))
  .nil) .nil)
  .nil)
def x_read_table : XSs :=
  (.cons (.ife (.not (.isi (.var 1) .str)) (.cons (.ret (.cst .none))
  .nil) .nil)
  (.cons (.asg (.nm 2) (.lst .nil))
  (.cons (.for (.nm 3) (.seq (.bi .split (.cons (.var 1) (.cons (.cst (.str "; ")) .nil)))) p_read_table_2)
  (.cons (.for (.nm 4) (.seq (.var 2)) p_read_table_3)
  (.cons (.ife (.or (.cmp .Gt (.bi .len (.cons (.var 2) .nil)) (.cst (.int 12))) (.cmp .Gt (.bi .len (.cons (.ix (.var 2) (.cst (.int 0))) .nil)) (.cst (.int 12)))) (.cons (.ret (.cst .none))
  .nil) .nil)
  (.cons (.ife (.cmp .Is (.var 2) (.cst .none)) (.cons .stop .nil) .nil)
  (.cons (.ret (.var 2))
  .nil)))))))
def b_read_table : XSs :=
  (.cons (.ife (.not (.isi (.var 1) .str)) (.cons (.ret (.cst .none))
  .nil) .nil)
  (.cons (.asg (.nm 2) (.lst .nil))
  (.cons (.for (.nm 3) (.seq (.bi .split (.cons (.var 1) (.cons (.cst (.str "; ")) .nil)))) p_read_table_2)
  (.cons (.for (.nm 4) (.seq (.var 2)) p_read_table_3)
  (.cons (.ife (.or (.cmp .Gt (.bi .len (.cons (.var 2) .nil)) (.cst (.int 12))) (.cmp .Gt (.bi .len (.cons (.ix (.var 2) (.cst (.int 0))) .nil)) (.cst (.int 12)))) (.cons (.ret (.cst .none))
  .nil) .nil)
  (.cons (.ife (.cmp .Is (.var 2) (.cst .none)) (.cons .stop .nil) .nil)
  (.cons (.ret (.var 2))
  (.cons .stop .nil))))))))
def b_show_number : XSs :=
  (.cons (.ife (.and (.cmp .Eq (.var 0) (.cst (.int 0))) (.cmp .NotEq (.ix (.var 1) (.cst (.int 1))) (.cst (.int 1)))) (.cons (.ret (.bi .fst (.cons (.ix (.var 1) (.cst (.int 0))) (.cons (.cst (.str "/")) (.cons (.ix (.var 1) (.cst (.int 1))) .nil)))))
  .nil) .nil)
  (.cons (.ife (.cmp .Eq (.var 0) (.cst (.int 0))) (.cons (.ret (.bi .str (.cons (.ix (.var 1) (.cst (.int 0))) .nil)))
  .nil) .nil)
  (.cons (.ret (.bi .str (.cons (.var 1) .nil)))
  .nil)))
def p_show_table_1 : XE :=
  (.call "show_number" (.cons (.var 0) (.cons (.var 3) .nil)))
def p_show_table_2 : XE :=
  (.bi .join (.cons (.cst (.str " ")) (.cons (.lc [3] (.nm 3) (.seq (.var 2)) (.cst (.bool true)) p_show_table_1) .nil)))
def b_show_table : XSs :=
  (.cons (.ret (.bi .join (.cons (.cst (.str "; ")) (.cons (.lc [2] (.nm 2) (.seq (.var 1)) (.cst (.bool true)) p_show_table_2) .nil))))
  .nil)
open Num
open scoped Num
abbrev isFig (c : Nat) : Prop := 48 ≤ c ∧ c ≤ 57
abbrev sgn (x : Str) : List Nat := x.cps.toList
theorem sgn_len (x : Str) : (sgn x).length = x.length := by
  show x.cps.toList.length = x.cps.size
  simp
@[simp] theorem eqv_str (x y : Str) : PyData.eqv (.str x) (.str y) = decide (x = y) := by
  simp only [PyData.eqv]
  rw [Bool.eq_iff_iff]
  simp
@[simp] theorem cmp_str_eq (x y : Str) : cmpD .Eq (.str x) (.str y) = some (decide (x = y)) := by
  simp [cmpD, strD]
@[simp] theorem cmp_str_ne (x y : Str) : cmpD .NotEq (.str x) (.str y) = some (!decide (x = y)) := by
  simp [cmpD, strD]
@[simp] theorem is_none : cmpD .Is .none .none = some true := rfl
@[simp] theorem is_int {i : Int} : cmpD .Is (.int i) .none = some false := rfl
@[simp] theorem is_str {x : Str} : cmpD .Is (.str x) .none = some false := rfl
@[simp] theorem is_tup {x : List D} : cmpD .Is (.tuple x) .none = some false := rfl
@[simp] theorem is_lst {x : List D} : cmpD .Is (.list x) .none = some false := rfl
@[simp] theorem isn_none : cmpD .IsNot .none .none = some false := rfl
@[simp] theorem isn_int {i : Int} : cmpD .IsNot (.int i) .none = some true := rfl
@[simp] theorem isn_str {x : Str} : cmpD .IsNot (.str x) .none = some true := rfl
@[simp] theorem isn_tup {x : List D} : cmpD .IsNot (.tuple x) .none = some true := rfl
@[simp] theorem isn_lst {x : List D} : cmpD .IsNot (.list x) .none = some true := rfl
@[simp] theorem len_str {x : Str} : biD .len [.str x] = if x.length ≤ 1000000 then some (.int x.length) else none := by
  simp [biD]
theorem figs_sgn : sgn "0123456789" = [48, 49, 50, 51, 52, 53, 54, 55, 56, 57] := by decide +kernel
theorem notin_fig (c : Nat) : cmpD .NotIn (.str ⟨#[c]⟩) (.str "0123456789") = some (!decide (isFig c)) := by
  show some (!decide (c ∈ sgn "0123456789")) = _
  rw [figs_sgn]
  congr 2
  rw [decide_eq_decide]
  simp only [List.mem_cons, List.not_mem_nil, or_false]
  omega
abbrev FigOk (x : Str) : Prop := 1 ≤ x.length ∧ x.length ≤ 20 ∧ ¬ ((sgn x).head? = some 48 ∧ x ≠ "0") ∧ ∀ c ∈ sgn x, isFig c
def figO (x : Str) : Option Int := if FigOk x then intText? x else none
def optI : Option Int → D
  | some n => .int n
  | none => .none
theorem figO_int {x : Str} (h : FigOk x) : ∃ n : Nat, intText? x = some (n : Int) ∧ figO x = some (n : Int) := by
  have hne : sgn x ≠ [] := fun z => by
    have := sgn_len x
    rw [z] at this
    simp at this
    omega
  have e := PySem.intText_digits (x := x) (fun c hc => h.2.2.2 c hc) hne (by omega)
  exact ⟨_, e, by unfold figO; rw [if_pos h, e]⟩
theorem figO_none {x : Str} (h : ¬ FigOk x) : figO x = none := by
  unfold figO
  rw [if_neg h]
theorem figs_step (Γ : Tab) (a u : Option (Sta × D)) (t : Env) (c : Nat) : forF Γ (.nm 1) p_read_figures_1 (.str ⟨#[c]⟩) (a :: u :: t) = if isFig c then some (.nx (a :: some (.shr, .str ⟨#[c]⟩) :: t)) else some (.rt false .none) := by
  have e := notin_fig c
  unfold forF p_read_figures_1
  by_cases h : isFig c
  · rw [decide_eq_true h] at e
    rw [if_pos h]
    simp [e]
  · rw [decide_eq_false h] at e
    rw [if_neg h]
    simp [e]
theorem figs_all (Γ : Tab) (a : Option (Sta × D)) (t : Env) : ∀ (cs : List Nat) (u : Option (Sta × D)), (∀ c ∈ cs, isFig c) → ∃ u', forGo (forF Γ (.nm 1) p_read_figures_1) (cs.map fun c => PyData.str ⟨#[c]⟩) (a :: u :: t) = some (.nx (a :: u' :: t))
  | [], u, _ => ⟨u, rfl⟩
  | c :: cs, u, h => by
    obtain ⟨u', e⟩ := figs_all Γ a t cs (some (.shr, .str ⟨#[c]⟩)) fun d hd => h d (List.mem_cons_of_mem _ hd)
    refine ⟨u', ?_⟩
    rw [List.map_cons, forGo, figs_step, if_pos (h c List.mem_cons_self)]
    exact e
theorem figs_not (Γ : Tab) (a : Option (Sta × D)) (t : Env) : ∀ (cs : List Nat) (u : Option (Sta × D)), (¬ ∀ c ∈ cs, isFig c) → forGo (forF Γ (.nm 1) p_read_figures_1) (cs.map fun c => PyData.str ⟨#[c]⟩) (a :: u :: t) = some (.rt false .none)
  | [], u, h => (h fun c hc => by cases hc).elim
  | c :: cs, u, h => by
    rw [List.map_cons, forGo, figs_step]
    by_cases hc : isFig c
    · rw [if_pos hc]
      refine figs_not Γ a t cs _ fun z => h fun d hd => ?_
      rcases List.mem_cons.mp hd with rfl | hd
      · exact hc
      · exact z d hd
    · rw [if_neg hc]
def P_figs (o : Option Sig) : Prop := ∀ (x : Str) (sf : Bool), x.length ≤ 900000 → clO o sf [.str x] = some (optI (figO x))
theorem ix_head {x : Str} {c : Nat} {r : List Nat} (h : sgn x = c :: r) (hl : x.length ≤ 1000000) : ixD (.str x) (.int 0) = some (.str ⟨#[c]⟩) := by
  have h' : x.cps.toList = c :: r := h
  simp only [ixD, lim_eq, if_pos hl, h', L2.atI, L2.ixN]
  simp
theorem one_eq (c : Nat) : ((⟨#[c]⟩ : Str) = "0") ↔ c = 48 := by
  have e : ("0" : Str) = ⟨#[48]⟩ := by decide +kernel
  rw [e]
  constructor
  · intro h
    have := congrArg (fun x : Str => x.cps.toList) h
    simpa using this
  · rintro rfl
    rfl
theorem run_read_figures (Γ : Tab) : P_figs (some (sgR Γ b_read_figures 5 1 false false)) := fun x sf hx => by
  have hl : x.length ≤ 1000000 := by omega
  refine clR (f := false) ?_
  by_cases h1 : 1 ≤ x.length ∧ x.length ≤ 20
  · have hs : ∃ c r, sgn x = c :: r := by
      cases h : sgn x with
      | nil =>
        have := sgn_len x
        rw [h] at this
        simp at this
        omega
      | cons c r => exact ⟨c, r, rfl⟩
    obtain ⟨c, r, hs⟩ := hs
    have ei := ix_head hs hl
    have c1 : (1 : Int) ≤ x.length := by omega
    have c2 : (x.length : Int) ≤ 20 := by omega
    have oe := one_eq c
    by_cases h2 : c = 48 ∧ x ≠ "0"
    · have n : ¬ FigOk x := fun z => z.2.2.1 ⟨by rw [hs, h2.1]; rfl, h2.2⟩
      rw [figO_none n]
      have oe' : ((⟨#[c]⟩ : Str) = "0") := oe.mpr h2.1
      unfold b_read_figures
      simp [startE, hl, h1.1, h1.2, c1, c2, ei, oe', h2.2, optI]
    · have t : ¬ ((⟨#[c]⟩ : Str) = "0" ∧ ¬ x = "0") := fun z => h2 ⟨oe.mp z.1, z.2⟩
      have ls : (sgn x).map (fun c => PyData.str ⟨#[c]⟩) = x.cps.toList.map (fun c => PyData.str ⟨#[c]⟩) := rfl
      by_cases h3 : ∀ c ∈ sgn x, isFig c
      · have ok : FigOk x := ⟨h1.1, h1.2, fun z => h2 ⟨by rw [hs] at z; simpa using z.1, z.2⟩, h3⟩
        obtain ⟨n, e1, e2⟩ := figO_int ok
        obtain ⟨u', e3⟩ := figs_all Γ (some (.shr, .str x)) [none, none, none] (sgn x) none h3
        rw [ls] at e3
        rw [e2]
        have l6 : x.length ≤ 640 := by omega
        have bi : biD .int [.str x] = some (.int n) := by
          simp only [biD, if_pos l6, e1]
          rfl
        unfold b_read_figures
        simp [startE, hl, h1.1, h1.2, c1, c2, ei, e3, bi, optI, t]
      · have n : ¬ FigOk x := fun z => h3 z.2.2.2
        have e3 := figs_not Γ (some (.shr, .str x)) [none, none, none] (sgn x) none h3
        rw [ls] at e3
        rw [figO_none n]
        unfold b_read_figures
        simp [startE, hl, h1.1, h1.2, c1, c2, ei, e3, optI, t]
  · have n : ¬ FigOk x := fun z => h1 ⟨z.1, z.2.1⟩
    rw [figO_none n]
    have nn : ¬ ((1 : Int) ≤ x.length ∧ (x.length : Int) ≤ 20) := by omega
    unfold b_read_figures
    by_cases q : (1 : Int) ≤ x.length
    · have q2 : ¬ (x.length : Int) ≤ 20 := fun z => nn ⟨q, z⟩
      simp [startE, hl, q, q2, optI]
    · simp [startE, hl, q, optI]
theorem spl_le (S : List Nat) : ∀ (l : List Nat) (k : Nat) (acc : List Nat), ∀ p ∈ TL.spl S k acc l, p.length ≤ acc.length + l.length
  | [], k, acc, p, h => by
    rw [TL.spl_nil, List.mem_singleton] at h
    rw [h]
    omega
  | c :: r, 0, acc, p, h => by
    by_cases q : TL.pre S (c :: r) = true
    · rw [TL.spl_hit q] at h
      rcases List.mem_cons.mp h with rfl | h
      · omega
      · have := spl_le S r _ [] p h
        simp at this ⊢
        omega
    · rw [TL.spl_miss (by simpa using q)] at h
      have := spl_le S r 0 _ p h
      simp at this ⊢
      omega
  | c :: r, k + 1, acc, p, h => by
    have h : p ∈ TL.spl S k acc r := h
    have := spl_le S r k acc p h
    simp
    omega
theorem spl_ne (S : List Nat) : ∀ (l : List Nat) (k : Nat) (acc : List Nat), TL.spl S k acc l ≠ []
  | [], k, acc => by
    rw [TL.spl_nil]
    exact List.cons_ne_nil _ _
  | c :: r, 0, acc => by
    by_cases q : TL.pre S (c :: r) = true
    · rw [TL.spl_hit q]
      exact List.cons_ne_nil _ _
    · rw [TL.spl_miss (by simpa using q)]
      exact spl_ne S r 0 _
  | c :: r, k + 1, acc => spl_ne S r k acc
structure Sep (y : Str) : Prop where
  ne : sgn y ≠ []
  low : y.cps.all (· < 256) = true
theorem Sep.map {y : Str} (s : Sep y) (x : Str) : (Txt.split x y).map sgn = TL.spl (sgn y) 0 [] (sgn x) := TL.split_spl x y s.ne (TL.kind_ok s.low)
theorem Sep.le {y : Str} (s : Sep y) {x p : Str} (h : p ∈ Txt.split x y) : p.length ≤ x.length := by
  have := spl_le (sgn y) (sgn x) 0 [] (sgn p) (by rw [← s.map]; exact List.mem_map.mpr ⟨p, h, rfl⟩)
  rw [sgn_len, sgn_len] at this
  simpa using this
theorem Sep.some {y : Str} (s : Sep y) (x : Str) : Txt.split x y ≠ [] := fun h => by
  have := spl_ne (sgn y) (sgn x) 0 []
  rw [← s.map, h] at this
  exact this rfl
theorem Sep.len {y : Str} (s : Sep y) : (y.length == 0) = false := by
  have := s.ne
  rw [← Bool.not_eq_true, beq_iff_eq, ← sgn_len]
  intro h
  exact s.ne (List.length_eq_zero_iff.mp h)
theorem sep_semi : Sep "; " := ⟨by decide +kernel, by decide +kernel⟩
theorem sep_blank : Sep " " := ⟨by decide +kernel, by decide +kernel⟩
theorem sep_stroke : Sep "/" := ⟨by decide +kernel, by decide +kernel⟩
theorem sgn_stroke : sgn "/" = [47] := by decide +kernel
theorem split_bi {x y : Str} (s : Sep y) (h : x.length ≤ 999998) : biD .split [.str x, .str y] = some (.list ((Txt.split x y).map .str)) := by
  have l : x.length + 2 ≤ lim := by unfold lim; omega
  simp only [biD, s.len, l, and_self, if_true]
theorem slice_one (x : Str) : Txt.slice x (some 1) none = ⟨((sgn x).drop 1).toArray⟩ := by
  have := SX.slice_from (a := sgn x) (i := 1) (by decide)
  rw [SX.S_tl] at this
  exact this
theorem slice_one_le (x : Str) : (Txt.slice x (some 1) none).length ≤ x.length := by
  rw [slice_one]
  show ((sgn x).drop 1).toArray.size ≤ _
  rw [List.size_toArray, List.length_drop, sgn_len]
  omega
def wholeO (x : Str) : Option Int := if Txt.slice x none (some 1) = "-" then (figO (Txt.slice x (some 1) none)).bind fun n => if n = 0 then none else some (-n) else figO x
def P_whole (o : Option Sig) : Prop := ∀ (x : Str) (sf : Bool), x.length ≤ 900000 → clO o sf [.str x] = some (optI (wholeO x))
theorem run_read_whole (Γ : Tab) (h1 : P_figs (Γ "read_figures")) : P_whole (some (sgR Γ b_read_whole 5 1 false false)) := fun x sf hx => by
  have hl : x.length ≤ 1000000 := by omega
  have e1 : slD (.str x) none (some 1) = some (.str (Txt.slice x none (some 1))) := by simp only [slD, lim_eq, if_pos hl]
  have e2 : slD (.str x) (some 1) none = some (.str (Txt.slice x (some 1) none)) := by simp only [slD, lim_eq, if_pos hl]
  by_cases h : Txt.slice x none (some 1) = "-"
  · have e3 := fun sf => h1 (Txt.slice x (some 1) none) sf (Nat.le_trans (slice_one_le x) hx)
    unfold wholeO
    rw [if_pos h]
    refine clR (f := false) ?_
    cases hf : figO (Txt.slice x (some 1) none) with
    | none =>
      rw [hf] at e3
      unfold b_read_whole
      simp [startE, e1, e2, h, e3, optI, partD]
    | some n =>
      rw [hf] at e3
      by_cases n0 : n = 0
      · unfold b_read_whole
        simp [startE, e1, e2, h, e3, optI, partD, n0]
      · unfold b_read_whole
        simp [startE, e1, e2, h, e3, optI, partD, n0]
  · have e3 := fun sf => h1 x sf hx
    unfold wholeO
    rw [if_neg h]
    refine clR (f := frO (Γ "read_figures")) ?_
    unfold b_read_whole
    simp [startE, e1, h, e3, partD]
theorem par_le (S : List Nat) : ∀ (l acc : List Nat) (p q : List Nat), TL.par S acc l = some (p, q) → p.length ≤ acc.length + l.length ∧ q.length ≤ l.length
  | [], acc, p, q, h => by cases h
  | c :: r, acc, p, q, h => by
    by_cases z : TL.pre S (c :: r) = true
    · rw [TL.par_hit z] at h
      cases h
      refine ⟨by omega, ?_⟩
      rw [List.length_drop]
      omega
    · rw [TL.par_miss (by simpa using z)] at h
      have := par_le S r _ p q h
      simp at this ⊢
      omega
theorem stroke_none : ∀ (l acc : List Nat), TL.par [47] acc l = none → TL.spl [47] 0 acc l = [acc ++ l]
  | [], acc, _ => by rw [TL.spl_nil, List.append_nil]
  | c :: r, acc, h => by
    by_cases z : TL.pre [47] (c :: r) = true
    · rw [TL.par_hit z] at h
      cases h
    · have z : TL.pre [47] (c :: r) = false := by simpa using z
      rw [TL.par_miss z] at h
      rw [TL.spl_miss z, stroke_none r _ h, List.append_assoc]
      rfl
theorem stroke_some : ∀ (l acc p q : List Nat), TL.par [47] acc l = some (p, q) → TL.spl [47] 0 acc l = p :: TL.spl [47] 0 [] q
  | [], acc, p, q, h => by cases h
  | c :: r, acc, p, q, h => by
    by_cases z : TL.pre [47] (c :: r) = true
    · rw [TL.par_hit z] at h
      rw [TL.spl_hit z]
      cases h
      rfl
    · have z : TL.pre [47] (c :: r) = false := by simpa using z
      rw [TL.par_miss z] at h
      rw [TL.spl_miss z]
      exact stroke_some r _ p q h
theorem stroke_cases (x : Str) : (Txt.partition x "/" = (x, Str.empty, Str.empty) ∧ Txt.split x "/" = [x]) ∨
    ∃ p q : Str, Txt.partition x "/" = (p, ("/" : Str), q) ∧ Txt.split x "/" = p :: Txt.split q "/" ∧ p.length ≤ x.length ∧ q.length ≤ x.length := by
  have e := TL.partition_par x "/" sep_stroke.ne
  have m := sep_stroke.map x
  rw [sgn_stroke] at m
  have e' : TL.par (TL.tl "/") [] (TL.tl x) = TL.par [47] [] (sgn x) := by rw [← sgn_stroke]
  rw [e'] at e
  cases h : TL.par [47] [] (sgn x) with
  | none =>
    rw [h] at e
    rw [stroke_none _ _ h] at m
    refine .inl ⟨e, TL.map_tl_inj ?_⟩
    exact m
  | some pq =>
    obtain ⟨p, q⟩ := pq
    rw [h] at e
    rw [stroke_some _ _ _ _ h] at m
    obtain ⟨l1, l2⟩ := par_le _ _ _ _ _ h
    rw [sgn_len] at l1 l2
    refine .inr ⟨⟨p.toArray⟩, ⟨q.toArray⟩, e, TL.map_tl_inj ?_, by simpa [Str.length] using l1, by simpa [Str.length] using l2⟩
    have m2 := sep_stroke.map ⟨q.toArray⟩
    rw [sgn_stroke] at m2
    rw [List.map_cons]
    refine m.trans ?_
    exact congrArg (p :: ·) m2.symm
theorem empty_str : (Str.empty : Str) = "" := by decide +kernel
theorem stroke_ne : ¬ ("/" : Str) = "" := by decide +kernel
def fracO (x : Str) : Option (Int × Int) := if (Txt.partition x "/").2.1 = "" then (wholeO (Txt.partition x "/").1).map fun t => (t, 1)
  else match wholeO (Txt.partition x "/").1, figO (Txt.partition x "/").2.2 with
    | some t, some b => if 2 ≤ b ∧ t.gcd b = 1 then some (t, b) else none
    | _, _ => none
def optP : Option (Int × Int) → D
  | some p => .tuple [.int p.1, .int p.2]
  | none => .none
def P_read_fraction (o : Option Sig) : Prop := ∀ (x : Str) (sf : Bool), x.length ≤ 900000 → clO o sf [.str x] = some (optP (fracO x))
theorem part_bi {x : Str} (h : x.length ≤ 900000) : biD .part [.str x, .str "/"] = some (.tuple [.str (Txt.partition x "/").1, .str (Txt.partition x "/").2.1, .str (Txt.partition x "/").2.2]) := by
  have l : x.length ≤ lim := by unfold lim; omega
  simp only [biD, sep_stroke.len, l, and_self, if_true]
theorem low_same {t b : Int} (hb : 2 ≤ b) : ((Rat.divInt t b).num = t ∧ ((Rat.divInt t b).den : Int) = b) ↔ t.gcd b = 1 := by
  obtain ⟨e1, e2⟩ := low_pos (t := t) (b := b) (by omega)
  constructor
  · intro h
    have := (Rat.divInt t b).reduced
    unfold Nat.Coprime at this
    rw [h.1] at this
    have h2 : (Rat.divInt t b).den = b.natAbs := by omega
    rw [h2] at this
    exact this
  · intro h
    rw [← e1, ← e2, h]
    simp
theorem cmp_pair (a b c d : Int) : cmpD .NotEq (.tuple [.int a, .int b]) (.tuple [.int c, .int d]) = some (!decide (a = c ∧ b = d)) := by
  have s : ∀ a b : Int, SeqAt.shaped (.tuple [.int a, .int b]) = true := fun a b => rfl
  simp only [cmpD, s, Bool.and_self, Bool.true_or, if_true]
  congr 2
  rw [Bool.eq_iff_iff]
  simp [PyData.eqv, PyData.eqvAll]
theorem run_read_fraction (Γ : Tab) (h1 : P_figs (Γ "read_figures")) (h2 : P_whole (Γ "read_whole")) (h3 : P_lowest (Γ "lowest")) : P_read_fraction (some (sgR Γ b_read_fraction 8 1 false false)) := fun x sf hx => by
  have ep := part_bi hx
  refine clR (f := false) ?_
  unfold fracO
  rcases stroke_cases x with ⟨hp, _⟩ | ⟨p, q, hp, _, l1, l2⟩
  · rw [hp] at ep ⊢
    have e2 := fun sf => h2 x sf hx
    rw [empty_str] at ep ⊢
    simp only [if_true]
    cases hw : wholeO x with
    | none =>
      rw [hw] at e2
      unfold b_read_fraction
      simp [startE, ep, setT, setAll, e2, optI, optP]
    | some t =>
      rw [hw] at e2
      unfold b_read_fraction
      simp [startE, ep, setT, setAll, e2, optI, optP]
  · rw [hp] at ep ⊢
    have e1 := fun sf => h1 q sf (by omega)
    have e2 := fun sf => h2 p sf (by omega)
    simp only [stroke_ne, if_false]
    cases hw : wholeO p with
    | none =>
      rw [hw] at e2
      unfold b_read_fraction
      simp [startE, ep, setT, setAll, e2, optI, optP, stroke_ne]
    | some t =>
      rw [hw] at e2
      cases hf : figO q with
      | none =>
        rw [hf] at e1
        unfold b_read_fraction
        simp [startE, ep, setT, setAll, e1, e2, optI, optP, stroke_ne]
      | some b =>
        rw [hf] at e1
        by_cases hb : 2 ≤ b
        · have e3 := fun sf => h3 t b sf (by omega)
          have ls := low_same (t := t) hb
          have hb' : ¬ b < 2 := by omega
          have ec := cmp_pair (Rat.divInt t b).num (Rat.divInt t b).den t b
          rw [show (decide ((Rat.divInt t b).num = t ∧ ((Rat.divInt t b).den : Int) = b)) = decide (t.gcd b = 1) from decide_eq_decide.mpr ls] at ec
          have e3 : ∀ sf, clO (Γ "lowest") sf [.int t, .int b] = some (.tuple [.int (Rat.divInt t b).num, .int (Rat.divInt t b).den]) := e3
          by_cases hg : t.gcd b = 1
          · simp only [hg, decide_true, Bool.not_true] at ec
            unfold b_read_fraction
            simp [startE, ep, setT, setAll, e1, e2, e3, optI, optP, stroke_ne, hb, hb', hg, ec]
          · simp only [hg, decide_false, Bool.not_false] at ec
            unfold b_read_fraction
            simp [startE, ep, setT, setAll, e1, e2, e3, optI, optP, stroke_ne, hb, hb', hg, ec]
        · have hb' : b < 2 := by omega
          unfold b_read_fraction
          simp [startE, ep, setT, setAll, e1, e2, optI, optP, stroke_ne, hb, hb']
def numO (K : Kd) (x : Str) : Option K.F := match K with
  | .q => (fracO x).map fun p => Rat.divInt p.1 p.2
  | .z p h => (figO x).bind fun n => if n < p then some (ofI n : Zp p) else none
def optN {K : Kd} : Option K.F → D
  | some v => enc v
  | none => .none
theorem figO_nn {x : Str} {n : Int} (h : figO x = some n) : 0 ≤ n := by
  unfold figO at h
  split at h
  · rename_i hh
    obtain ⟨m, e1, _⟩ := figO_int hh
    rw [e1] at h
    cases h
    omega
  · cases h
theorem fracO_pos {x : Str} {p : Int × Int} (h : fracO x = some p) : (Rat.divInt p.1 p.2).num = p.1 ∧ ((Rat.divInt p.1 p.2).den : Int) = p.2 := by
  unfold fracO at h
  split at h
  · obtain ⟨t, _, rfl⟩ := Option.map_eq_some_iff.mp h
    obtain ⟨e1, e2⟩ := low_pos (t := t) (b := 1) (by decide)
    refine ⟨by rw [← e1]; simp, by rw [← e2]; simp⟩
  · split at h
    · rename_i t b h1 h2
      split at h
      · rename_i hh
        cases h
        exact (low_same hh.1).mpr hh.2
      · cases h
    · cases h
theorem optN_q (x : Str) : optP (fracO x) = optN (numO .q x) := by
  unfold numO
  cases h : fracO x with
  | none => rfl
  | some p =>
    obtain ⟨e1, e2⟩ := fracO_pos h
    show PyData.tuple [.int p.1, .int p.2] = encQ (Rat.divInt p.1 p.2)
    unfold encQ
    rw [e1, e2]
def P_read_number (o : Option Sig) : Prop := ∀ (K : Kd) (x : Str) (sf : Bool), x.length ≤ 900000 → clO o sf [.int K.k, .str x] = some (optN (numO K x))
theorem run_read_number (Γ : Tab) (h1 : P_figs (Γ "read_figures")) (h2 : P_read_fraction (Γ "read_fraction")) : P_read_number (some (sgR Γ b_read_number 6 2 false false)) := fun K x sf hx => by
  cases K with
  | q =>
    have e2 := fun sf => h2 x sf hx
    rw [optN_q] at e2
    refine clR (f := frO (Γ "read_fraction")) ?_
    show exs Γ b_read_number (startE false 6 [.int 0, .str x]) = _
    generalize optN (numO .q x) = d at e2
    unfold b_read_number
    simp [startE, e2]
  | z p h =>
    have e1 := fun sf => h1 x sf hx
    refine clR (f := false) ?_
    have hp := k_n0 h
    show exs Γ b_read_number (startE false 6 [.int (p : Int), .str x]) = some (.rt false (optN (K := .z p h) ((figO x).bind fun n => if n < p then some (ofI n : Zp p) else none)))
    cases hf : figO x with
    | none =>
      rw [hf] at e1
      unfold b_read_number
      simp [startE, e1, optI, optN, hp]
    | some n =>
      rw [hf] at e1
      have hn := figO_nn hf
      by_cases hl : n < p
      · have e4 : enc (F := Kd.F (.z p h)) (ofI n : Zp p) = .int n := (Zp.int_enc hn hl).symm
        have hl' : ¬ (p : Int) ≤ n := by omega
        simp only [Option.bind_some, hl, if_true, optN]
        rw [e4]
        unfold b_read_number
        simp [startE, e1, optI, hp, hl']
      · have hl' : (p : Int) ≤ n := by omega
        simp only [Option.bind_some, hl, if_false, optN]
        unfold b_read_number
        simp [startE, e1, optI, hp, hl']
def seqO {α : Type} : List (Option α) → Option (List α)
  | [] => some []
  | none :: _ => none
  | some a :: r => (seqO r).map (a :: ·)
theorem seqO_len {α : Type} : ∀ {l : List (Option α)} {m : List α}, seqO l = some m → m.length = l.length
  | [], m, h => by cases h; rfl
  | none :: _, m, h => by cases h
  | some a :: r, m, h => by
    obtain ⟨m', h1, rfl⟩ := Option.map_eq_some_iff.mp h
    simp [seqO_len h1]
def rowO (K : Kd) (part : Str) : Option (List K.F) := seqO ((Txt.split part " ").map (numO K))
def partsO (K : Kd) (x : Str) : Option (List (List K.F)) := seqO ((Txt.split x "; ").map (rowO K))
def Fits {α : Type} (m : List (List α)) : Prop := (∀ r ∈ m, r.length = (m.headD []).length) ∧ m.length ≤ 12 ∧ (m.headD []).length ≤ 12
open Classical in
noncomputable def tabO (K : Kd) (x : Str) : Option (List (List K.F)) := match partsO K x with
  | some m => if Fits m then some m else none
  | none => none
noncomputable def optM {K : Kd} : Option (List (List K.F)) → D
  | some m => encM m
  | none => .none
theorem optN_is {K : Kd} (v : K.F) : cmpD .Is (enc v) .none = some false := by
  cases K <;> rfl
theorem row_step (Γ : Tab) (h : P_read_number (Γ "read_number")) (K : Kd) {w : Str} (hw : w.length ≤ 900000) (x tb pt rw' u5 t7 u8 : Option (Sta × D)) (acc : List D) (ha : acc.length < 999999) :
    forF Γ (.nm 5) p_read_table_1 (.str w) [some (.shr, .int K.k), x, tb, pt, rw', u5, some (.own, .list acc), t7, u8] = match numO K w with
      | some v => some (.nx [some (.shr, .int K.k), x, tb, pt, rw', some (.shr, .str w), some (.own, .list (acc ++ [enc v])), t7, some (.shr, enc v)])
      | none => some (.rt false .none) := by
  have e := fun sf => h K w sf hw
  have ha' : acc.length < 1000000 := by omega
  cases hn : numO K w with
  | none =>
    rw [hn] at e
    simp only [optN] at e
    unfold forF p_read_table_1
    simp [e]
  | some v =>
    rw [hn] at e
    simp only [optN] at e
    have i := optN_is v
    have l := enc_list v
    dsimp only
    generalize enc v = d at e i l
    unfold forF p_read_table_1
    simp [e, i, l, ha']
theorem row_all (Γ : Tab) (h : P_read_number (Γ "read_number")) (K : Kd) (x tb pt rw' t7 : Option (Sta × D)) : ∀ (ws : List Str) (acc : List D) (u5 u8 : Option (Sta × D)), (∀ w ∈ ws, w.length ≤ 900000) → acc.length + ws.length < 999999 →
    match seqO (ws.map (numO K)) with
      | some vs => ∃ v5 v8, forGo (forF Γ (.nm 5) p_read_table_1) (ws.map PyData.str) [some (.shr, .int K.k), x, tb, pt, rw', u5, some (.own, .list acc), t7, u8] = some (.nx [some (.shr, .int K.k), x, tb, pt, rw', v5, some (.own, .list (acc ++ vs.map enc)), t7, v8])
      | none => forGo (forF Γ (.nm 5) p_read_table_1) (ws.map PyData.str) [some (.shr, .int K.k), x, tb, pt, rw', u5, some (.own, .list acc), t7, u8] = some (.rt false .none)
  | [], acc, u5, u8, _, _ => ⟨u5, u8, by simp [forGo]⟩
  | w :: ws, acc, u5, u8, hw, hl => by
    have st := row_step Γ h K (hw w List.mem_cons_self) x tb pt rw' u5 t7 u8 acc (by simp at hl; omega)
    rw [List.map_cons, List.map_cons]
    cases hn : numO K w with
    | none =>
      rw [hn] at st
      simp only [seqO]
      rw [forGo, st]
    | some v =>
      rw [hn] at st
      simp only [] at st
      have ih := row_all Γ h K x tb pt rw' t7 ws (acc ++ [enc v]) (some (.shr, .str w)) (some (.shr, enc v)) (fun z hz => hw z (List.mem_cons_of_mem _ hz)) (by simp at hl ⊢; omega)
      simp only [seqO]
      rw [forGo, st]
      cases hs : seqO (ws.map (numO K)) with
      | none =>
        rw [hs] at ih
        simp only [Option.map_none]
        exact ih
      | some vs =>
        rw [hs] at ih
        obtain ⟨v5, v8, e⟩ := ih
        simp only [Option.map_some]
        refine ⟨v5, v8, ?_⟩
        rw [e, List.map_cons, List.append_assoc]
        rfl
theorem part_step (Γ : Tab) (h : P_read_number (Γ "read_number")) (K : Kd) {p : Str} (hp : p.length ≤ 900000) (hs : (Txt.split p " ").length < 999000) (x u3 u4 u5 u6 u7 u8 : Option (Sta × D)) (tb : List D) (ht : tb.length < 999999) :
    match rowO K p with
      | some r => ∃ v5 v6 v7 v8, forF Γ (.nm 3) p_read_table_2 (.str p) [some (.shr, .int K.k), x, some (.own, .list tb), u3, u4, u5, u6, u7, u8] = some (.nx [some (.shr, .int K.k), x, some (.own, .list (tb ++ [encR r])), some (.shr, .str p), u4, v5, v6, v7, v8])
      | none => forF Γ (.nm 3) p_read_table_2 (.str p) [some (.shr, .int K.k), x, some (.own, .list tb), u3, u4, u5, u6, u7, u8] = some (.rt false .none) := by
  have eb := split_bi (x := p) sep_blank (by omega)
  have ht' : tb.length < 1000000 := by omega
  have lp := row_all Γ h K x (some (.own, .list tb)) (some (.shr, .str p)) u4 (some (.shr, .list ((Txt.split p " ").map .str))) (Txt.split p " ") [] u5 u8 (fun w hw => by have := sep_blank.le hw; omega) (by simpa using (by omega : (Txt.split p " ").length < 999999))
  unfold rowO
  cases hr : seqO ((Txt.split p " ").map (numO K)) with
  | none =>
    rw [hr] at lp
    simp only [] at lp ⊢
    generalize (Txt.split p " ").map PyData.str = wd at eb lp
    unfold forF p_read_table_2
    simp [eb, lp, frBi]
  | some vs =>
    rw [hr] at lp
    simp only [] at lp ⊢
    obtain ⟨v5, v8, lp⟩ := lp
    rw [List.nil_append] at lp
    refine ⟨v5, some (.shr, encR vs), some (.shr, .list ((Txt.split p " ").map .str)), v8, ?_⟩
    have cr : encR vs = .list (vs.map enc) := rfl
    rw [cr]
    generalize (Txt.split p " ").map PyData.str = wd at eb lp
    generalize vs.map enc = rd at lp
    unfold forF p_read_table_2
    simp [eb, lp, ht', frBi]
theorem parts_all (Γ : Tab) (h : P_read_number (Γ "read_number")) (K : Kd) (x u4 : Option (Sta × D)) : ∀ (ps : List Str) (tb : List D) (u3 u5 u6 u7 u8 : Option (Sta × D)), (∀ p ∈ ps, p.length ≤ 900000 ∧ (Txt.split p " ").length < 999000) → tb.length + ps.length < 999999 →
    match seqO (ps.map (rowO K)) with
      | some m => ∃ v3 v5 v6 v7 v8, forGo (forF Γ (.nm 3) p_read_table_2) (ps.map PyData.str) [some (.shr, .int K.k), x, some (.own, .list tb), u3, u4, u5, u6, u7, u8] = some (.nx [some (.shr, .int K.k), x, some (.own, .list (tb ++ m.map fun r => encR r)), v3, u4, v5, v6, v7, v8])
      | none => forGo (forF Γ (.nm 3) p_read_table_2) (ps.map PyData.str) [some (.shr, .int K.k), x, some (.own, .list tb), u3, u4, u5, u6, u7, u8] = some (.rt false .none)
  | [], tb, u3, u5, u6, u7, u8, _, _ => ⟨u3, u5, u6, u7, u8, by simp [forGo]⟩
  | p :: ps, tb, u3, u5, u6, u7, u8, hp, hl => by
    obtain ⟨hp1, hp2⟩ := hp p List.mem_cons_self
    have st := part_step Γ h K hp1 hp2 x u3 u4 u5 u6 u7 u8 tb (by simp at hl; omega)
    rw [List.map_cons, List.map_cons]
    cases hr : rowO K p with
    | none =>
      rw [hr] at st
      simp only [seqO]
      rw [forGo, st]
    | some r =>
      rw [hr] at st
      simp only [] at st
      obtain ⟨v5, v6, v7, v8, st⟩ := st
      have ih := parts_all Γ h K x u4 ps (tb ++ [encR r]) (some (.shr, .str p)) v5 v6 v7 v8 (fun z hz => hp z (List.mem_cons_of_mem _ hz)) (by simp at hl ⊢; omega)
      simp only [seqO]
      rw [forGo, st]
      cases hs : seqO (ps.map (rowO K)) with
      | none =>
        rw [hs] at ih
        simp only [Option.map_none]
        exact ih
      | some m =>
        rw [hs] at ih
        obtain ⟨w3, w5, w6, w7, w8, e⟩ := ih
        simp only [Option.map_some]
        refine ⟨w3, w5, w6, w7, w8, ?_⟩
        rw [e, List.map_cons, List.append_assoc]
        rfl
theorem lens_all (Γ : Tab) {K : Kd} (k x u3 u5 u6 u7 u8 : Option (Sta × D)) (r0 : List K.F) (rest : List D) : ∀ (m : List (List K.F)) (u4 : Option (Sta × D)),
    (if ∀ r ∈ m, r.length = r0.length then ∃ v4, forGo (forF Γ (.nm 4) p_read_table_3) (m.map fun r => encR r) [k, x, some (.shr, .list (encR r0 :: rest)), u3, u4, u5, u6, u7, u8] = some (.nx [k, x, some (.shr, .list (encR r0 :: rest)), u3, v4, u5, u6, u7, u8])
      else forGo (forF Γ (.nm 4) p_read_table_3) (m.map fun r => encR r) [k, x, some (.shr, .list (encR r0 :: rest)), u3, u4, u5, u6, u7, u8] = some (.rt false .none))
  | [], u4 => by
    rw [if_pos (fun r hr => by cases hr)]
    exact ⟨u4, by simp [forGo]⟩
  | r :: m, u4 => by
    have st : forF Γ (.nm 4) p_read_table_3 (encR r) [k, x, some (.shr, .list (encR r0 :: rest)), u3, u4, u5, u6, u7, u8] = if r.length = r0.length then some (.nx [k, x, some (.shr, .list (encR r0 :: rest)), u3, some (.shr, encR r), u5, u6, u7, u8]) else some (.rt false .none) := by
      have i0 : L2.atI (encR r0 :: rest) 0 = some (encR r0) := by simp
      unfold forF p_read_table_3
      by_cases hl : r.length = r0.length
      · simp [i0, hl]
      · have hl' : ¬ (r.length : Int) = r0.length := by omega
        simp [i0, hl, hl']
    have ih := lens_all Γ k x u3 u5 u6 u7 u8 r0 rest m (some (.shr, encR r))
    rw [List.map_cons]
    by_cases hl : r.length = r0.length
    · rw [if_pos hl] at st
      by_cases hm : ∀ r ∈ m, r.length = r0.length
      · rw [if_pos hm] at ih
        obtain ⟨v4, ih⟩ := ih
        rw [if_pos (fun z hz => (List.mem_cons.mp hz).elim (fun e => by rw [e]; exact hl) (hm z))]
        exact ⟨v4, by rw [forGo, st]; exact ih⟩
      · rw [if_neg hm] at ih
        rw [if_neg (fun z => hm fun y hy => z y (List.mem_cons_of_mem _ hy)), forGo, st]
        exact ih
    · rw [if_neg hl] at st
      rw [if_neg (fun z => hl (z r List.mem_cons_self)), forGo, st]
def P_read_table (o : Option Sig) : Prop := ∀ (K : Kd) (x : Str) (sf : Bool), x.length ≤ 900000 → clO o sf [.int K.k, .str x] = some (optM (tabO K x))
def P_read_none (o : Option Sig) : Prop := ∀ (K : Kd) (d : D) (sf : Bool), (d = .none ∨ ∃ i, d = .int i) → clO o sf [.int K.k, d] = some .none
theorem split_len {y : Str} (s : Sep y) (x : Str) : (Txt.split x y).length ≤ x.length + 1 := by
  have key : ∀ (S l : List Nat) (k : Nat) (acc : List Nat), (TL.spl S k acc l).length ≤ l.length + 1 := by
    intro S l
    induction l with
    | nil =>
      intro k acc
      rw [TL.spl_nil]
      simp
    | cons c r ih =>
      intro k acc
      cases k with
      | zero =>
        by_cases q : TL.pre S (c :: r) = true
        · rw [TL.spl_hit q]
          have := ih (S.length - 1) []
          simp
          omega
        · rw [TL.spl_miss (by simpa using q)]
          have := ih 0 (acc ++ [c])
          simp
          omega
      | succ k =>
        have := ih k acc
        show (TL.spl S k acc r).length ≤ _
        simp
        omega
  have := key (sgn y) (sgn x) 0 []
  rw [← s.map, List.length_map, sgn_len] at this
  exact this
theorem read_table_s (Γ : Tab) (h : P_read_number (Γ "read_number")) : P_read_table (some (sgR Γ b_read_table 9 2 false false)) := fun K x sf hx => by
  refine clR (f := false) ?_
  have eb := split_bi (x := x) sep_semi (by omega)
  have sl := split_len sep_semi x
  have lp := parts_all Γ h K (some (.shr, .str x)) none (Txt.split x "; ") [] none none none none none (fun p hp => by
    have h1 := sep_semi.le hp
    have h2 := split_len sep_blank p
    omega) (by simp only [List.length_nil]; omega)
  unfold tabO partsO
  cases hs : seqO ((Txt.split x "; ").map (rowO K)) with
  | none =>
    rw [hs] at lp
    simp only [] at lp ⊢
    generalize (Txt.split x "; ").map PyData.str = wd at eb lp
    unfold b_read_table
    simp [startE, eb, lp, optM]
  | some m =>
    rw [hs] at lp
    simp only [] at lp ⊢
    obtain ⟨v3, v5, v6, v7, v8, lp⟩ := lp
    rw [List.nil_append] at lp
    have ml : m.length ≤ 900001 := by
      have := seqO_len hs
      rw [List.length_map] at this
      omega
    obtain ⟨r0, rest, rfl⟩ : ∃ r0 rest, m = r0 :: rest := by
      cases m with
      | nil =>
        have := seqO_len hs
        rw [List.length_map] at this
        exact (sep_semi.some x (List.length_eq_zero_iff.mp this.symm)).elim
      | cons r0 rest => exact ⟨r0, rest, rfl⟩
    have ln := lens_all Γ (some (.shr, .int K.k)) (some (.shr, .str x)) v3 v5 v6 v7 v8 r0 (rest.map fun r => encR r) (r0 :: rest) none
    have hd : List.map (fun r => encR r) (r0 :: rest) = encR r0 :: rest.map fun r => encR r := rfl
    rw [hd] at lp ln
    have i0 : L2.atI (encR r0 :: rest.map fun r => encR r) 0 = some (encR r0) := by simp
    have l0 : (encR r0 :: rest.map fun r => encR r).length = (r0 :: rest).length := by simp
    have cm : encM (r0 :: rest) = .list (encR r0 :: rest.map fun r => encR r) := rfl
    by_cases hf : ∀ r ∈ r0 :: rest, r.length = r0.length
    · rw [if_pos hf] at ln
      obtain ⟨v4, ln⟩ := ln
      by_cases h2 : (r0 :: rest).length ≤ 12 ∧ r0.length ≤ 12
      · rw [if_pos (show Fits (r0 :: rest) from ⟨hf, h2⟩)]
        have c1 : ¬ (12 : Int) < ((encR r0 :: rest.map fun r => encR r).length : Int) := by rw [l0]; omega
        have c2 : ¬ (12 : Int) < (r0.length : Int) := by omega
        simp only [optM]
        rw [cm]
        generalize hod : (encR r0 :: rest.map fun r => encR r) = od at lp ln i0 c1
        generalize (Txt.split x "; ").map PyData.str = wd at eb lp
        unfold b_read_table
        simp [startE, eb, lp, ln, i0, c1, c2]
      · rw [if_neg (fun z : Fits (r0 :: rest) => h2 z.2)]
        have c1 : (12 : Int) < ((encR r0 :: rest.map fun r => encR r).length : Int) ∨ (12 : Int) < (r0.length : Int) := by rw [l0]; omega
        simp only [optM]
        generalize hod : (encR r0 :: rest.map fun r => encR r) = od at lp ln i0 c1
        generalize (Txt.split x "; ").map PyData.str = wd at eb lp
        unfold b_read_table
        rcases c1 with c1 | c1
        · simp [startE, eb, lp, ln, i0, c1]
        · simp [startE, eb, lp, ln, i0, c1]
    · rw [if_neg hf] at ln
      rw [if_neg (fun z : Fits (r0 :: rest) => hf z.1)]
      simp only [optM]
      generalize hod : (encR r0 :: rest.map fun r => encR r) = od at lp ln i0
      generalize (Txt.split x "; ").map PyData.str = wd at eb lp
      unfold b_read_table
      simp [startE, eb, lp, ln, i0]
theorem read_table_n (Γ : Tab) : P_read_none (some (sgR Γ b_read_table 9 2 false false)) := fun K d sf hd => by
  refine clR (f := false) ?_
  rcases hd with rfl | ⟨i, rfl⟩
  · unfold b_read_table
    simp [startE, isiD]
  · unfold b_read_table
    simp [startE, isiD]
def P_read2 (o : Option Sig) : Prop := P_read_table o ∧ P_read_none o
theorem run_read_table (Γ : Tab) (h : P_read_number (Γ "read_number")) : P_read2 (some (sgR Γ b_read_table 9 2 false false)) := ⟨read_table_s Γ h, read_table_n Γ⟩
theorem str_app_len (x y : Str) : (x ++ y).length = x.length + y.length := by
  rw [TL.len_tl, TL.tl_append, List.length_append, ← TL.len_tl, ← TL.len_tl]
theorem empty_app (x : Str) : Str.empty ++ x = x := TL.ext_tl (by rw [TL.tl_append]; rfl)
abbrev tS (i : Int) : Str := (toString i : Str)
theorem tS_len {i : Int} (h : i.natAbs < 10 ^ 20) : (tS i).length ≤ 21 := by
  rcases Int.eq_nat_or_neg i with ⟨n, rfl | rfl⟩
  · have e := TL.tl_num n
    have l := TL.numL_len (n := n) (k := 20) (by decide) (by simpa using h)
    show (Str.ofString (toString (n : Int))).length ≤ 21
    rw [TL.len_tl, e]
    omega
  · have l := TL.numL_len (n := n) (k := 20) (by decide) (by simpa using h)
    cases n with
    | zero =>
      show (Str.ofString (toString (0 : Int))).length ≤ 21
      decide +kernel
    | succ n =>
      have e : toString (-((n + 1 : Nat) : Int)) = "-" ++ toString (n + 1) := rfl
      show (Str.ofString (toString (-((n + 1 : Nat) : Int)))).length ≤ 21
      rw [TL.len_tl, TL.tl_ofString, e, String.toList_append, List.map_append, List.length_append]
      have e2 : ((toString (n + 1)).toList.map Char.toNat) = TL.numL (n + 1) := by
        have := TL.tl_num (n + 1)
        rw [TL.tl_ofString] at this
        exact this
      rw [e2]
      have : (List.map Char.toNat "-".toList).length = 1 := by decide
      omega
theorem log_small {i : Int} (h : i.natAbs < 10 ^ 20) : i.natAbs.log2 < 1920 := by
  by_cases h0 : i.natAbs = 0
  · rw [h0]
    decide
  · exact (Nat.log2_lt h0).mpr (Nat.lt_trans h (by decide))
def BdN (K : Kd) (x : K.F) : Prop := match K with
  | .q => (x : Rat).num.natAbs < 10 ^ 20 ∧ (x : Rat).den < 10 ^ 20
  | .z _ _ => True
def numS (K : Kd) (x : K.F) : Str := match K with
  | .q => if (((x : Rat).den : Nat) : Int) = 1 then tS (x : Rat).num else tS (x : Rat).num ++ "/" ++ tS (((x : Rat).den : Nat) : Int)
  | .z p h => tS ((((x : Zp p) : Fin p).val : Nat) : Int)
theorem z_small {p : Nat} (h : PrimeP p) (x : Zp p) : ((((x : Zp p) : Fin p).val : Nat) : Int).natAbs < 10 ^ 20 := by
  have h1 := ((x : Zp p) : Fin p).isLt
  have h2 := h.lt
  omega
theorem numS_len {K : Kd} {x : K.F} (h : BdN K x) : (numS K x).length ≤ 43 := by
  cases K with
  | q =>
    have a := tS_len (i := (x : Rat).num) h.1
    have b := tS_len (i := (((x : Rat).den : Nat) : Int)) (by simpa using h.2)
    have c : ("/" : Str).length = 1 := by decide +kernel
    unfold numS
    dsimp only
    split
    · omega
    · rw [str_app_len, str_app_len]
      omega
  | z p hp => exact Nat.le_trans (tS_len (z_small hp x)) (by decide)
def P_show_number (o : Option Sig) : Prop := ∀ (K : Kd) (x : K.F) (sf : Bool), BdN K x → clO o sf [.int K.k, enc x] = some (.str (numS K x))
theorem str_bi {i : Int} (h : i.natAbs < 10 ^ 20) : biD .str [.int i] = some (.str (tS i)) := by
  simp only [biD, log_small h, if_true]
theorem run_show_number (Γ : Tab) : P_show_number (some (sgR Γ b_show_number 2 2 false false)) := fun K x sf hx => by
  refine clR (f := false) ?_
  cases K with
  | q =>
    have d1 : (((x : Rat).den : Nat) : Int).natAbs < 10 ^ 20 := by simpa using hx.2
    have b1 := str_bi hx.1
    have l1 := tS_len hx.1
    have l2 := tS_len d1
    have g1 := log_small hx.1
    have g2 := log_small d1
    have c : ("/" : Str).length = 1 := by decide +kernel
    have z : (Str.empty : Str).length = 0 := by decide +kernel
    show exs Γ b_show_number (startE false 2 [.int 0, .tuple [.int (x : Rat).num, .int (((x : Rat).den : Nat) : Int)]]) = some (.rt false (.str (numS .q x)))
    have e : numS .q x = if (((x : Rat).den : Nat) : Int) = 1 then tS (x : Rat).num else tS (x : Rat).num ++ "/" ++ tS (((x : Rat).den : Nat) : Int) := rfl
    rw [e]
    generalize (x : Rat).num = a at b1 l1 g1
    generalize (((x : Rat).den : Nat) : Int) = b at l2 g2
    by_cases hb : b = 1
    · unfold b_show_number
      simp [startE, hb, b1, frBi]
    · have pf : biD .fst [.int a, .str "/", .int b] = some (.str (tS a ++ "/" ++ tS b)) := by
        have l1' : (Str.ofString (toString a)).length ≤ 21 := l1
        have l2' : (Str.ofString (toString b)).length ≤ 21 := l2
        have p1 : Str.empty.length + (Str.ofString (toString a)).length ≤ lim := by unfold lim; omega
        have p2 : (Str.ofString (toString a)).length + ("/" : Str).length ≤ lim := by unfold lim; omega
        have p3 : (Str.ofString (toString a) ++ "/").length + (Str.ofString (toString b)).length ≤ lim := by rw [str_app_len]; unfold lim; omega
        simp only [biD, partsOf, g1, g2, p1, and_self, if_true, empty_app, p2, true_and, p3, Option.map_some]
      unfold b_show_number
      simp [startE, hb, pf, frBi]
  | z p h =>
    have b1 := str_bi (z_small h x)
    have hp := k_n0 h
    show exs Γ b_show_number (startE false 2 [.int (p : Int), .int ((((x : Zp p) : Fin p).val : Nat) : Int)]) = some (.rt false (.str (tS ((((x : Zp p) : Fin p).val : Nat) : Int))))
    generalize ((((x : Zp p) : Fin p).val : Nat) : Int) = a at b1
    unfold b_show_number
    simp [startE, hp, b1, frBi]
theorem joinL_len (S : List Nat) : ∀ parts : List (List Nat), (TL.joinL S parts).length ≤ (parts.map (·.length)).sum + parts.length * S.length
  | [] => by simp [TL.joinL]
  | [p] => by
    simp only [TL.joinL, List.map_cons, List.map_nil, List.sum_cons, List.sum_nil, List.length_singleton]
    omega
  | p :: q :: r => by
    have ih := joinL_len S (q :: r)
    simp only [TL.joinL, List.length_append, List.map_cons, List.sum_cons, List.length_cons, Nat.add_mul] at ih ⊢
    omega
theorem join_len (y : Str) (parts : List Str) : (Txt.join y parts).length ≤ (parts.map (·.length)).sum + parts.length * y.length := by
  have e := TL.tl_join y parts
  have l := joinL_len (TL.tl y) (parts.map TL.tl)
  have e1 : (Txt.join y parts).length = (TL.joinL (TL.tl y) (parts.map TL.tl)).length := by
    rw [TL.join_eq, TL.len_tl, e]
  have e2 : (parts.map TL.tl).map (·.length) = parts.map (·.length) := by
    rw [List.map_map]
    apply List.map_congr_left
    intro p _
    exact (TL.len_tl p).symm
  rw [e1]
  rw [e2, List.length_map, ← TL.len_tl] at l
  exact l
theorem sum_le {l : List Nat} {b : Nat} (h : ∀ x ∈ l, x ≤ b) : l.sum ≤ l.length * b := by
  induction l with
  | nil => simp
  | cons a l ih =>
    have h1 := h a List.mem_cons_self
    have h2 := ih fun x hx => h x (List.mem_cons_of_mem _ hx)
    rw [List.sum_cons, List.length_cons, Nat.add_mul]
    omega
def rowS (K : Kd) (r : List K.F) : Str := Txt.join " " (r.map (numS K))
def tableS (K : Kd) (m : List (List K.F)) : Str := Txt.join "; " (m.map (rowS K))
theorem strs_map (ys : List Str) : strsOf (ys.map PyData.str) = some ys := by
  induction ys with
  | nil => rfl
  | cons y ys ih =>
    rw [List.map_cons, strsOf, ih]
    rfl
theorem blank_len : (" " : Str).length = 1 := by decide +kernel
theorem semi_len : ("; " : Str).length = 2 := by decide +kernel
theorem row_sum {K : Kd} {r : List K.F} (h : ∀ x ∈ r, BdN K x) (hl : r.length ≤ 13) : ((r.map (numS K)).map (·.length)).sum + (r.map (numS K)).length * (" " : Str).length ≤ 600 := by
  have s := sum_le (l := (r.map (numS K)).map (·.length)) (b := 43) (by
    intro n hn
    obtain ⟨y, hy, rfl⟩ := List.mem_map.mp hn
    obtain ⟨x, hx, rfl⟩ := List.mem_map.mp hy
    exact numS_len (h x hx))
  rw [List.length_map, List.length_map] at s
  rw [List.length_map, blank_len]
  have : r.length * 43 ≤ 13 * 43 := Nat.mul_le_mul_right _ hl
  omega
theorem rowS_len {K : Kd} {r : List K.F} (h : ∀ x ∈ r, BdN K x) (hl : r.length ≤ 13) : (rowS K r).length ≤ 600 := Nat.le_trans (join_len " " _) (row_sum h hl)
theorem table_sum {K : Kd} {m : List (List K.F)} (h : ∀ r ∈ m, ∀ x ∈ r, BdN K x) (hr : m.length ≤ 13) (hl : ∀ r ∈ m, r.length ≤ 13) : ((m.map (rowS K)).map (·.length)).sum + (m.map (rowS K)).length * ("; " : Str).length ≤ 9000 := by
  have s := sum_le (l := (m.map (rowS K)).map (·.length)) (b := 600) (by
    intro n hn
    obtain ⟨y, hy, rfl⟩ := List.mem_map.mp hn
    obtain ⟨r, hr, rfl⟩ := List.mem_map.mp hy
    exact rowS_len (h r hr) (hl r hr))
  rw [List.length_map, List.length_map] at s
  rw [List.length_map, semi_len]
  have : m.length * 600 ≤ 13 * 600 := Nat.mul_le_mul_right _ hr
  omega
theorem tableS_len {K : Kd} {m : List (List K.F)} (h : ∀ r ∈ m, ∀ x ∈ r, BdN K x) (hr : m.length ≤ 13) (hl : ∀ r ∈ m, r.length ≤ 13) : (tableS K m).length ≤ 9000 := Nat.le_trans (join_len "; " _) (table_sum h hr hl)
theorem join_bi {y : Str} {ys : List Str} (h : (ys.map (·.length)).sum + ys.length * y.length ≤ 1000000) : biD .join [.str y, .list (ys.map PyData.str)] = some (.str (Txt.join y ys)) := by
  have h' : (ys.map (·.length)).sum + ys.length * y.length ≤ lim := h
  simp only [biD, strs_map, h', if_true]
def P_show_table (o : Option Sig) : Prop := ∀ (K : Kd) (m : List (List K.F)) (sf : Bool), (∀ r ∈ m, ∀ x ∈ r, BdN K x) → m.length ≤ 13 → (∀ r ∈ m, r.length ≤ 13) → clO o sf [.int K.k, encM m] = some (.str (tableS K m))
theorem run_show_table (Γ : Tab) (h : P_show_number (Γ "show_number")) : P_show_table (some (sgR Γ b_show_table 4 2 false false)) := fun K m sf hb hr hl => by
  refine clR (f := false) ?_
  have inner : ∀ r ∈ m, ∀ u3, lcGo (lcF Γ [some (.shr, .int K.k), some (.arg, encM m), some (.shr, encR r), u3] [3] (.nm 3) (.cst (.bool true)) p_show_table_1) (r.map enc) = some ((r.map (numS K)).map PyData.str) := fun r hrm u3 =>
    lcGo_map (g := enc) (h := numS K) (e := PyData.str) (by
      intro x hx
      have e := fun sf => h K x sf (hb r hrm x hx)
      unfold p_show_table_1
      simp [lcF, e])
  have loop := lcGo_map (f := lcF Γ [some (.shr, .int K.k), some (.arg, encM m), none, none] [2] (.nm 2) (.cst (.bool true)) p_show_table_2) (g := fun r : List K.F => encR r) (h := rowS K) (e := PyData.str) (l := m) (by
    intro r hrm
    have e := inner r hrm none
    have j := join_bi (y := " ") (ys := r.map (numS K)) (Nat.le_trans (row_sum (hb r hrm) (hl r hrm)) (by decide))
    have rl : r.length ≤ 1000000 := by have := hl r hrm; omega
    have rs : Txt.join " " (r.map (numS K)) = rowS K r := rfl
    rw [rs] at j
    unfold p_show_table_2
    generalize encM m = md at e
    generalize (r.map (numS K)).map PyData.str = sd at e j
    simp [lcF, e, j, rl])
  have j := join_bi (y := "; ") (ys := m.map (rowS K)) (Nat.le_trans (table_sum hb hr hl) (by decide))
  have ts : Txt.join "; " (m.map (rowS K)) = tableS K m := rfl
  have ml : m.length ≤ 1000000 := by omega
  rw [ts] at j
  have cm : encM m = .list (m.map fun r => encR r) := rfl
  have ll : (m.map fun r => encR r).length ≤ 1000000 := by rw [List.length_map]; exact ml
  rw [cm] at loop ⊢
  generalize (m.map (rowS K)).map PyData.str = sd at loop j
  generalize (m.map fun r => encR r) = md at loop ll
  unfold b_show_table
  simp [startE, loop, j, ll, frBi]
end VI
set_option Elab.async false
set_option linter.all false
set_option maxRecDepth 100000
set_option exponentiation.threshold 2000
set_option maxHeartbeats 4000000
namespace VI
open PySem
def b_law_number_v9 : XSs :=
  (.cons (.asg (.nm 3) (.call "_law_mix" (.cons (.var 1) (.cons (.var 2) .nil))))
  (.cons (.ife (.cmp .Gt (.var 0) (.cst (.int 0))) (.cons (.ret (.bin .Mult (.bin .Mod (.bin .FloorDiv (.var 3) (.cst (.int 4))) (.var 0)) (.bi .int (.cons (.cmp .Gt (.bin .Mod (.var 3) (.cst (.int 4))) (.cst (.int 0))) .nil))))
  .nil) .nil)
  (.cons (.asg (.nm 4) (.bin .Mult (.bin .Sub (.bin .Mod (.bin .FloorDiv (.var 3) (.cst (.int 8))) (.cst (.int 13))) (.cst (.int 6))) (.bi .int (.cons (.cmp .Gt (.bin .Mod (.var 3) (.cst (.int 8))) (.cst (.int 0))) .nil))))
  (.cons (.asg (.nm 5) (.bin .Add (.cst (.int 1)) (.bin .Mod (.bin .FloorDiv (.var 3) (.cst (.int 104))) (.cst (.int 6)))))
  (.cons (.ife (.cmp .Eq (.bin .Mod (.var 3) (.cst (.int 8))) (.cst (.int 1))) (.cons (.asg (.nm 4) (.bin .Sub (.bin .Mod (.bin .Add (.bin .Mult (.var 1) (.bin .Add (.var 2) (.cst (.int 7)))) (.var 3)) (.bin .Sub (.bin .Mult (.cst (.int 2)) (.bin .Pow (.cst (.int 10)) (.cst (.int 20)))) (.cst (.int 1)))) (.bin .Sub (.bin .Pow (.cst (.int 10)) (.cst (.int 20))) (.cst (.int 1)))))
  (.cons (.asg (.nm 5) (.bin .Add (.cst (.int 1)) (.bin .Mod (.bin .Add (.bin .Mult (.var 1) (.bin .Add (.var 2) (.cst (.int 11)))) (.var 3)) (.ix (.lst (.cons (.cst (.int 1)) (.cons (.cst (.int 9)) (.cons (.bin .Sub (.bin .Pow (.cst (.int 10)) (.cst (.int 20))) (.cst (.int 1))) .nil)))) (.bin .Mod (.bin .FloorDiv (.var 3) (.cst (.int 8))) (.cst (.int 3)))))))
  .nil)) .nil)
  (.cons (.asg (.nm 6) (.call "_law_divisor" (.cons (.var 4) (.cons (.var 5) .nil))))
  (.cons (.ret (.tup (.cons (.bin .FloorDiv (.var 4) (.var 6)) (.cons (.bin .FloorDiv (.var 5) (.var 6)) .nil))))
  .nil)))))))
def p_law_table_v4_1 : XE :=
  (.call "_law_number" (.cons (.var 0) (.cons (.var 1) (.cons (.bin .Add (.bin .Add (.cst (.int 10)) (.bin .Mult (.var 3) (.var 4))) (.var 5)) .nil))))
def p_law_table_v4_2 : XE :=
  (.lc [5] (.nm 5) (.rng (.cons (.var 3) .nil)) (.cst (.bool true)) p_law_table_v4_1)
def b_law_table_v4 : XSs :=
  (.cons (.asg (.nm 2) (.bin .Add (.cst (.int 1)) (.bin .Mod (.call "_law_mix" (.cons (.var 1) (.cons (.cst (.int 2)) .nil))) (.cst (.int 3)))))
  (.cons (.asg (.nm 3) (.bin .Add (.cst (.int 1)) (.bin .Mod (.call "_law_mix" (.cons (.var 1) (.cons (.cst (.int 3)) .nil))) (.cst (.int 3)))))
  (.cons (.ife (.cmp .Eq (.bin .Mod (.call "_law_mix" (.cons (.var 1) (.cons (.cst (.int 4)) .nil))) (.cst (.int 16))) (.cst (.int 1))) (.cons (.asg (.nm 2) (.bin .Add (.cst (.int 12)) (.bin .Mod (.call "_law_mix" (.cons (.var 1) (.cons (.cst (.int 5)) .nil))) (.cst (.int 2)))))
  (.cons (.asg (.nm 3) (.cst (.int 1)))
  .nil)) .nil)
  (.cons (.ife (.cmp .Eq (.bin .Mod (.call "_law_mix" (.cons (.var 1) (.cons (.cst (.int 4)) .nil))) (.cst (.int 16))) (.cst (.int 2))) (.cons (.asg (.nm 3) (.bin .Add (.cst (.int 12)) (.bin .Mod (.call "_law_mix" (.cons (.var 1) (.cons (.cst (.int 5)) .nil))) (.cst (.int 2)))))
  (.cons (.asg (.nm 2) (.cst (.int 1)))
  .nil)) .nil)
  (.cons (.ret (.lc [4] (.nm 4) (.rng (.cons (.var 2) .nil)) (.cst (.bool true)) p_law_table_v4_2))
  .nil)))))
def p_law_text_1 : XSs :=
  (.cons (.strs 6 (.var 5))
  (.cons (.ife (.cmp .Eq (.var 0) (.cst (.int 0))) (.cons (.strs 6 (.ix (.var 5) (.cst (.int 0))))
  (.cons (.ife (.cmp .NotEq (.ix (.var 5) (.cst (.int 1))) (.cst (.int 1))) (.cons (.asg (.nm 6) (.bin .Add (.bin .Add (.var 6) (.cst (.str "/"))) (.bi .str (.cons (.ix (.var 5) (.cst (.int 1))) .nil))))
  .nil) .nil)
  .nil)) .nil)
  (.cons (.app (.var 4) (.var 6))
  .nil)))
def p_law_text_2 : XSs :=
  (.cons (.asg (.nm 4) (.lst .nil))
  (.cons (.for (.nm 5) (.seq (.var 3)) p_law_text_1)
  (.cons (.app (.var 2) (.bi .join (.cons (.cst (.str " ")) (.cons (.var 4) .nil))))
  .nil)))
def b_law_text : XSs :=
  (.cons (.asg (.nm 2) (.lst .nil))
  (.cons (.for (.nm 3) (.seq (.var 1)) p_law_text_2)
  (.cons (.ret (.bi .join (.cons (.cst (.str "; ")) (.cons (.var 2) .nil))))
  .nil)))
def b_law_odd : XSs :=
  (.cons (.asg (.nm 1) (.lst (.cons (.cst (.str "")) (.cons (.cst (.str " ")) (.cons (.cst (.str ";")) (.cons (.cst (.str "; ")) (.cons (.cst (.str "1;")) (.cons (.cst (.str "1; ")) (.cons (.cst (.str "1;1")) (.cons (.cst (.str "1 ;1")) (.cons (.cst (.str "1 0; 1")) (.cons (.cst (.str " 1")) (.cons (.cst (.str "1 ")) (.cons (.cst (.str "1  0")) (.cons (.cst (.str "01")) (.cons (.cst (.str "-0")) (.cons (.cst (.str "-")) (.cons (.cst (.str "--1")) (.cons (.cst (.str "+1")) .nil)))))))))))))))))))
  (.cons (.asg (.nm 1) (.bin .Add (.var 1) (.lst (.cons (.cst (.str "1_0")) (.cons (.cst (.str "1.0")) (.cons (.cst (.str "1/1")) (.cons (.cst (.str "2/4")) (.cons (.cst (.str "0/3")) (.cons (.cst (.str "1/0")) (.cons (.cst (.str "1/-2")) (.cons (.cst (.str "1/2/3")) (.cons (.cst (.str "1/")) (.cons (.cst (.str "/2")) (.cons (.cst (.str "1/02")) (.cons (.cst (.str "97")) (.cons (.cst (.str "1\n")) (.cons (.cst .none) (.cons (.cst (.int 7)) .nil))))))))))))))))))
  (.cons (.ret (.ix (.var 1) (.bin .Mod (.call "_law_mix" (.cons (.var 0) (.cons (.cst (.int 60)) .nil))) (.cst (.int 32)))))
  .nil)))
def b_law_spoiled : XSs :=
  (.cons (.asg (.nm 2) (.cst (.str "   ;;//--0123456789x\n\t")))
  (.cons (.asg (.nm 3) (.bin .Mod (.call "_law_mix" (.cons (.var 1) (.cons (.cst (.int 61)) .nil))) (.cst (.int 8))))
  (.cons (.asg (.nm 4) (.bin .Mod (.call "_law_mix" (.cons (.var 1) (.cons (.cst (.int 62)) .nil))) (.bin .Add (.bi .len (.cons (.var 0) .nil)) (.cst (.int 1)))))
  (.cons (.asg (.nm 5) (.ix (.var 2) (.bin .Mod (.call "_law_mix" (.cons (.var 1) (.cons (.cst (.int 63)) .nil))) (.bi .len (.cons (.var 2) .nil)))))
  (.cons (.ife (.cmp .Eq (.var 3) (.cst (.int 0))) (.cons (.ret (.bin .Add (.bin .Add (.sl (.var 0) (.cst .none) (.var 4)) (.var 5)) (.sl (.var 0) (.var 4) (.cst .none))))
  .nil) .nil)
  (.cons (.ife (.cmp .Eq (.var 3) (.cst (.int 1))) (.cons (.ret (.bin .Add (.sl (.var 0) (.cst .none) (.var 4)) (.sl (.var 0) (.bin .Add (.var 4) (.cst (.int 1))) (.cst .none))))
  .nil) .nil)
  (.cons (.ife (.cmp .Lt (.var 3) (.cst (.int 5))) (.cons (.ret (.bin .Add (.bin .Add (.sl (.var 0) (.cst .none) (.var 4)) (.var 5)) (.sl (.var 0) (.bin .Add (.var 4) (.cst (.int 1))) (.cst .none))))
  .nil) .nil)
  (.cons (.ife (.cmp .Eq (.var 3) (.cst (.int 5))) (.cons (.ret (.call "_law_odd" (.cons (.var 1) .nil)))
  .nil) .nil)
  (.cons (.ret (.var 0))
  .nil)))))))))
def p_law_figures_1 : XSs :=
  (.cons (.ife (.cmp .NotIn (.var 1) (.cst (.str "0123456789"))) (.cons (.ret (.cst .none))
  .nil) .nil)
  .nil)
def b_law_figures : XSs :=
  (.cons (.ife (.or (.cmp .Eq (.var 0) (.cst (.str ""))) (.or (.cmp .Gt (.bi .len (.cons (.var 0) .nil)) (.cst (.int 20))) (.and (.cmp .Eq (.ix (.var 0) (.cst (.int 0))) (.cst (.str "0"))) (.cmp .Gt (.bi .len (.cons (.var 0) .nil)) (.cst (.int 1)))))) (.cons (.ret (.cst .none))
  .nil) .nil)
  (.cons (.for (.nm 1) (.seq (.var 0)) p_law_figures_1)
  (.cons (.ret (.bi .int (.cons (.var 0) .nil)))
  .nil)))
def b_law_told_number : XSs :=
  (.cons (.ife (.cmp .Gt (.var 0) (.cst (.int 0))) (.cons (.asg (.nm 6) (.call "_law_figures" (.cons (.var 1) .nil)))
  (.cons (.ife (.or (.cmp .Is (.var 6) (.cst .none)) (.cmp .GtE (.var 6) (.var 0))) (.cons (.ret (.cst .none))
  .nil) .nil)
  (.cons (.ret (.var 6))
  .nil))) .nil)
  (.cons (.asg (.nm 2) (.bi .split (.cons (.var 1) (.cons (.cst (.str "/")) .nil))))
  (.cons (.asg (.nm 3) (.bi .int (.cons (.cmp .Eq (.sl (.ix (.var 2) (.cst (.int 0))) (.cst .none) (.cst (.int 1))) (.cst (.str "-"))) .nil)))
  (.cons (.asg (.nm 4) (.call "_law_figures" (.cons (.sl (.ix (.var 2) (.cst (.int 0))) (.var 3) (.cst .none)) .nil)))
  (.cons (.ife (.or (.cmp .Is (.var 4) (.cst .none)) (.or (.and (.cmp .Eq (.var 4) (.cst (.int 0))) (.cmp .Eq (.var 3) (.cst (.int 1)))) (.cmp .Gt (.bi .len (.cons (.var 2) .nil)) (.cst (.int 2))))) (.cons (.ret (.cst .none))
  .nil) .nil)
  (.cons (.asg (.nm 5) (.cst (.int 1)))
  (.cons (.ife (.cmp .Eq (.bi .len (.cons (.var 2) .nil)) (.cst (.int 2))) (.cons (.asg (.nm 5) (.call "_law_figures" (.cons (.ix (.var 2) (.cst (.int 1))) .nil)))
  (.cons (.ife (.or (.cmp .Is (.var 5) (.cst .none)) (.or (.cmp .Lt (.var 5) (.cst (.int 2))) (.cmp .NotEq (.call "_law_divisor" (.cons (.var 4) (.cons (.var 5) .nil))) (.cst (.int 1))))) (.cons (.ret (.cst .none))
  .nil) .nil)
  .nil)) .nil)
  (.cons (.ret (.tup (.cons (.bin .Mult (.var 4) (.bin .Sub (.cst (.int 1)) (.bin .Mult (.cst (.int 2)) (.var 3)))) (.cons (.var 5) .nil))))
  .nil))))))))
def p_law_told_1 : XE :=
  (.call "_law_told_number" (.cons (.var 0) (.cons (.var 5) .nil)))
def p_law_told_2 : XSs :=
  (.cons (.asg (.nm 4) (.lc [5] (.nm 5) (.seq (.bi .split (.cons (.var 3) (.cons (.cst (.str " ")) .nil)))) (.cst (.bool true)) p_law_told_1))
  (.cons (.ife (.or (.cmp .In (.cst .none) (.var 4)) (.cmp .Gt (.bi .len (.cons (.var 4) .nil)) (.cst (.int 12)))) (.cons (.ret (.cst .none))
  .nil) .nil)
  (.cons (.app (.var 2) (.var 4))
  (.cons (.ife (.cmp .NotEq (.bi .len (.cons (.var 4) .nil)) (.bi .len (.cons (.ix (.var 2) (.cst (.int 0))) .nil))) (.cons (.ret (.cst .none))
  .nil) .nil)
  .nil))))
def b_law_told : XSs :=
  (.cons (.ife (.not (.isi (.var 1) .str)) (.cons (.ret (.cst .none))
  .nil) .nil)
  (.cons (.asg (.nm 2) (.lst .nil))
  (.cons (.for (.nm 3) (.seq (.bi .split (.cons (.var 1) (.cons (.cst (.str "; ")) .nil)))) p_law_told_2)
  (.cons (.ife (.cmp .Gt (.bi .len (.cons (.var 2) .nil)) (.cst (.int 12))) (.cons (.ret (.cst .none))
  .nil) .nil)
  (.cons (.ret (.var 2))
  .nil)))))
def p_law_is_v3_1 : XSs :=
  (.cons (.ife (.or (.isi (.var 4) .bool) (.cmp .NotEq (.isi (.var 4) .tuple) (.cmp .Eq (.var 0) (.cst (.int 0))))) (.cons (.ret (.cst (.bool false)))
  .nil) .nil)
  .nil)
def p_law_is_v3_2 : XSs :=
  (.cons (.ife (.not (.isi (.var 3) .list)) (.cons (.ret (.cst (.bool false)))
  .nil) .nil)
  (.cons (.for (.nm 4) (.seq (.var 3)) p_law_is_v3_1)
  .nil))
def b_law_is_v3 : XSs :=
  (.cons (.ife (.or (.not (.isi (.var 1) .list)) (.cmp .NotEq (.var 1) (.var 2))) (.cons (.ret (.cst (.bool false)))
  .nil) .nil)
  (.cons (.for (.nm 3) (.seq (.var 1)) p_law_is_v3_2)
  (.cons (.ret (.cst (.bool true)))
  .nil)))
def y0_law_right91 : XS :=
  (.asg (.nm 2) (.call "_law_told" (.cons (.var 0) (.cons (.var 1) .nil))))
def y1_law_right91 : XS :=
  (.asg (.nm 3) (.cst .none))
def y2_law_right91 : XS :=
  (.asg (.nm 4) (.cst .none))
def c_law_right91 : XSs :=
  (.cons (.ret (.and (.cmp .Is (.var 3) (.cst .none)) (.call "_law_is" (.cons (.var 0) (.cons (.var 4) (.cons (.var 2) .nil))))))
  .nil)
def b_law_right91 : XSs := rightS y0_law_right91 y1_law_right91 y2_law_right91 "read_table" c_law_right91
open Num
open scoped Num
theorem digits_lt : ∀ (cs : List Nat) (a : Nat), (∀ c ∈ cs, isFig c) → cs.foldl (fun acc c => acc * 10 + (c - 48)) a < (a + 1) * 10 ^ cs.length
  | [], a, _ => by simp
  | c :: cs, a, h => by
    have hc := h c List.mem_cons_self
    have ih := digits_lt cs (a * 10 + (c - 48)) fun d hd => h d (List.mem_cons_of_mem _ hd)
    rw [List.foldl_cons, List.length_cons, Nat.pow_succ]
    refine Nat.lt_of_lt_of_le ih ?_
    rw [Nat.mul_comm (10 ^ cs.length) 10, ← Nat.mul_assoc]
    exact Nat.mul_le_mul_right _ (by omega)
theorem figO_lt {x : Str} {n : Int} (h : figO x = some n) : n.natAbs < 10 ^ 20 := by
  unfold figO at h
  split at h
  · rename_i hh
    have hne : sgn x ≠ [] := fun z => by
      have := sgn_len x
      rw [z] at this
      simp at this
      omega
    have e := PySem.intText_digits (x := x) (fun c hc => hh.2.2.2 c hc) hne (by omega)
    rw [e] at h
    cases h
    have := digits_lt (sgn x) 0 hh.2.2.2
    rw [sgn_len] at this
    have p : 10 ^ x.length ≤ 10 ^ 20 := Nat.pow_le_pow_right (by decide) hh.2.1
    show (PySem.NumText.digitsVal (sgn x)) < 10 ^ 20
    unfold PySem.NumText.digitsVal
    omega
  · cases h
theorem empty_iff (x : Str) : x = "" ↔ x.length = 0 := by
  constructor
  · rintro rfl
    decide +kernel
  · intro h
    have e : sgn x = [] := by
      have := sgn_len x
      rw [h] at this
      exact List.length_eq_zero_iff.mp this
    exact TL.ext_tl (e.trans (by decide +kernel))
theorem zero_iff {x : Str} (h : (sgn x).head? = some 48) : x = "0" ↔ x.length = 1 := by
  constructor
  · rintro rfl
    decide +kernel
  · intro hl
    have e : sgn x = [48] := by
      have l := sgn_len x
      cases hs : sgn x with
      | nil => rw [hs] at l; simp at l; omega
      | cons c r =>
        rw [hs] at h l
        simp at h l
        have : r = [] := List.length_eq_zero_iff.mp (by omega)
        rw [h, this]
    exact TL.ext_tl (e.trans (by decide +kernel))
theorem run_law_figures (Γ : Tab) : P_figs (some (sgR Γ b_law_figures 2 1 false false)) := fun x sf hx => by
  have hl : x.length ≤ 1000000 := by omega
  refine clR (f := false) ?_
  by_cases h1 : 1 ≤ x.length ∧ x.length ≤ 20
  · have hs : ∃ c r, sgn x = c :: r := by
      cases h : sgn x with
      | nil =>
        have := sgn_len x
        rw [h] at this
        simp at this
        omega
      | cons c r => exact ⟨c, r, rfl⟩
    obtain ⟨c, r, hs⟩ := hs
    have ei := ix_head hs hl
    have ne : ¬ x = "" := fun z => by have := (empty_iff x).mp z; omega
    have c2 : ¬ (20 : Int) < x.length := by omega
    have oe := one_eq c
    have ls : (sgn x).map (fun c => PyData.str ⟨#[c]⟩) = x.cps.toList.map (fun c => PyData.str ⟨#[c]⟩) := rfl
    by_cases h2 : c = 48 ∧ 1 < x.length
    · have hh : (sgn x).head? = some 48 := by rw [hs, h2.1]; rfl
      have n : ¬ FigOk x := fun z => z.2.2.1 ⟨hh, fun q => by have := (zero_iff hh).mp q; omega⟩
      rw [figO_none n]
      have oe' : ((⟨#[c]⟩ : Str) = "0") := oe.mpr h2.1
      have c3 : (1 : Int) < x.length := by omega
      unfold b_law_figures
      simp [startE, hl, ne, c2, ei, oe', c3, optI]
    · have t : ¬ ((⟨#[c]⟩ : Str) = "0" ∧ (1 : Int) < x.length) := fun z => h2 ⟨oe.mp z.1, by omega⟩
      by_cases h3 : ∀ c ∈ sgn x, isFig c
      · have ok : FigOk x := ⟨h1.1, h1.2, fun z => h2 ⟨by rw [hs] at z; simpa using z.1, Classical.byContradiction fun q => z.2 ((zero_iff z.1).mpr (by omega))⟩, h3⟩
        obtain ⟨n, e1, e2⟩ := figO_int ok
        obtain ⟨u', e3⟩ := figs_all Γ (some (.shr, .str x)) [] (sgn x) none h3
        rw [ls] at e3
        have e3 : forGo (forF Γ (.nm 1) p_law_figures_1) (x.cps.toList.map fun c => PyData.str ⟨#[c]⟩) [some (.shr, .str x), none] = some (.nx [some (.shr, .str x), u']) := e3
        rw [e2]
        have l6 : x.length ≤ 640 := by omega
        have bi : biD .int [.str x] = some (.int n) := by
          simp only [biD, if_pos l6, e1]
          rfl
        unfold b_law_figures
        simp [startE, hl, ne, c2, ei, e3, bi, optI, t, frBi]
      · have n : ¬ FigOk x := fun z => h3 z.2.2.2
        have e3 := figs_not Γ (some (.shr, .str x)) [] (sgn x) none h3
        rw [ls] at e3
        have e3 : forGo (forF Γ (.nm 1) p_law_figures_1) (x.cps.toList.map fun c => PyData.str ⟨#[c]⟩) [some (.shr, .str x), none] = some (.rt false .none) := e3
        rw [figO_none n]
        unfold b_law_figures
        simp [startE, hl, ne, c2, ei, e3, optI, t]
  · have n : ¬ FigOk x := fun z => h1 ⟨z.1, z.2.1⟩
    rw [figO_none n]
    unfold b_law_figures
    by_cases q : x = ""
    · subst q
      simp [startE, optI]
    · have : x.length ≠ 0 := fun z => q ((empty_iff x).mpr z)
      have c2 : (20 : Int) < x.length := by omega
      simp [startE, hl, q, c2, optI]
theorem par_mem (s : Nat) : ∀ (l acc p q : List Nat), TL.par [s] acc l = some (p, q) → s ∈ l
  | [], acc, p, q, h => by cases h
  | c :: r, acc, p, q, h => by
    by_cases z : TL.pre [s] (c :: r) = true
    · have : c = s := by simpa [TL.pre] using z
      rw [this]
      exact List.mem_cons_self
    · rw [TL.par_miss (by simpa using z)] at h
      exact List.mem_cons_of_mem _ (par_mem s r _ p q h)
theorem stroke_fig {q : Str} (h : Txt.split q "/" ≠ [q]) : figO q = none := by
  rcases stroke_cases q with ⟨_, e⟩ | ⟨p, r, e, _⟩
  · exact (h e).elim
  · refine figO_none fun ok => ?_
    have e2 := TL.partition_par q "/" sep_stroke.ne
    cases hp : TL.par (TL.tl "/") [] (TL.tl q) with
    | none =>
      rw [hp] at e2
      rw [e2] at e
      have := congrArg (fun z : Str × Str × Str => z.2.1) e
      simp only at this
      rw [empty_str] at this
      exact stroke_ne this.symm
    | some pq =>
      obtain ⟨p1, q1⟩ := pq
      have e3 : TL.par [47] [] (sgn q) = some (p1, q1) := by rw [← sgn_stroke]; exact hp
      have := ok.2.2.2 47 (par_mem 47 _ _ _ _ e3)
      have := this.1
      omega
theorem slice_zero (x : Str) : Txt.slice x (some 0) none = x := by
  have := SX.slice_from (a := sgn x) (i := 0) (by decide)
  rw [SX.S_tl] at this
  rw [this]
  exact SX.S_tl x
theorem figO_mul {n : Int} (h : n.natAbs < 10 ^ 20) (k : Int) (hk : k.natAbs < 10) : mulOk n k = true := mulOk_small (Nat.lt_trans h (by decide)) (Nat.lt_trans hk (by decide))
theorem told_top (Γ : Tab) (h1 : P_figs (Γ "_law_figures")) {x : Str} (hx : x.length ≤ 900000) : ∃ (s : Int) (y : Str), (if Txt.slice x none (some 1) = "-" then (1 : Int) else 0) = s ∧ Txt.slice x (some s) none = y ∧ y.length ≤ 900000 ∧ (s = 0 ∨ s = 1) ∧
    wholeO x = (match figO y with | some n => if n = 0 ∧ s = 1 then none else some (n * (1 - 2 * s)) | none => none) := by
  by_cases h : Txt.slice x none (some 1) = "-"
  · refine ⟨1, _, if_pos h, rfl, Nat.le_trans (slice_one_le x) hx, .inr rfl, ?_⟩
    unfold wholeO
    rw [if_pos h]
    cases figO (Txt.slice x (some 1) none) with
    | none => rfl
    | some n =>
      simp only [Option.bind_some, and_true]
      split
      · rfl
      · congr 1
        omega
  · refine ⟨0, _, if_neg h, rfl, by rw [slice_zero]; exact hx, .inl rfl, ?_⟩
    unfold wholeO
    rw [if_neg h, slice_zero]
    cases figO x with
    | none => rfl
    | some n => simp
theorem int_of (b : Bool) : biD .int [.bool b] = some (.int (if b then 1 else 0)) := rfl
theorem run_law_told_number (Γ : Tab) (h1 : P_figs (Γ "_law_figures")) (h2 : P_divisor (Γ "_law_divisor")) : P_read_number (some (sgR Γ b_law_told_number 7 2 false false)) := fun K x sf hx => by
  refine clR (f := false) ?_
  cases K with
  | z p h =>
    have e1 := fun sf => h1 x sf hx
    have hp := k_n0 h
    have hp' : 0 < p := by omega
    show exs Γ b_law_told_number (startE false 7 [.int (p : Int), .str x]) = some (.rt false (optN (K := .z p h) ((figO x).bind fun n => if n < p then some (ofI n : Zp p) else none)))
    cases hf : figO x with
    | none =>
      rw [hf] at e1
      unfold b_law_told_number
      simp [startE, e1, optI, optN, hp']
    | some n =>
      rw [hf] at e1
      have hn := figO_nn hf
      by_cases hl : n < p
      · have e4 : enc (F := Kd.F (.z p h)) (ofI n : Zp p) = .int n := (Zp.int_enc hn hl).symm
        have hl' : ¬ (p : Int) ≤ n := by omega
        simp only [Option.bind_some, hl, if_true, optN]
        rw [e4]
        unfold b_law_told_number
        simp [startE, e1, optI, hp', hl']
      · have hl' : (p : Int) ≤ n := by omega
        simp only [Option.bind_some, hl, if_false, optN]
        unfold b_law_told_number
        simp [startE, e1, optI, hp', hl']
  | q =>
    rw [← optN_q]
    have fin : ∀ (hv : List Str) (w : Str), hv[0]? = some w → w.length ≤ 900000 → biD .split [.str x, .str "/"] = some (.list (hv.map .str)) → (hv = [w] → fracO x = (wholeO w).map fun t => (t, 1)) →
        (∀ q, hv = [w, q] → q.length ≤ 900000 ∧ fracO x = match wholeO w, figO q with | some t, some b => if 2 ≤ b ∧ t.gcd b = 1 then some (t, b) else none | _, _ => none) → (2 < hv.length → fracO x = none) →
        exs Γ b_law_told_number (startE false 7 [.int 0, .str x]) = some (.rt false (optP (fracO x))) := by
      intro hv w h0 hw eb f1 f2 f3
      obtain ⟨r, rfl⟩ : ∃ r, hv = w :: r := by
        cases hv with
        | nil => simp at h0
        | cons a r => simp at h0; exact ⟨r, by rw [h0]⟩
      obtain ⟨s, y, es, ey, hy, hs, hwo⟩ := told_top Γ h1 hw
      have e1 := fun sf => h1 y sf hy
      have i0 : L2.atI (PyData.str w :: r.map PyData.str) 0 = some (.str w) := by simp
      have wl : w.length ≤ 1000000 := by omega
      have sl1 : slD (.str w) none (some 1) = some (.str (Txt.slice w none (some 1))) := by simp only [slD, lim_eq, if_pos wl]
      have sl2 : slD (.str w) (some s) none = some (.str y) := by simp only [slD, lim_eq, if_pos wl, ey]
      have bs : biD .int [.bool (decide (Txt.slice w none (some 1) = "-"))] = some (.int s) := by
        rw [int_of, ← es]
        by_cases q : Txt.slice w none (some 1) = "-" <;> simp [q]
      rw [List.map_cons] at eb
      have ll : ((PyData.str w :: r.map PyData.str).length : Int) = 1 + r.length := by simp; omega
      have hcond : ∀ n, figO y = some n → (decide (n = 0) && decide (s = 1)) = decide (n = 0 ∧ s = 1) := fun n _ => by simp
      cases hf : figO y with
      | none =>
        rw [hf] at e1 hwo
        have w0 : wholeO w = none := hwo
        have z : fracO x = none := by
          match r, f1, f2, f3 with
          | [], f1, _, _ => rw [f1 rfl, w0]; rfl
          | [q], _, f2, _ => rw [(f2 q rfl).2, w0]
          | _ :: _ :: _, _, _, f3 => exact f3 (by simp)
        rw [z]
        generalize r.map PyData.str = rd at eb i0
        unfold b_law_told_number
        simp [startE, eb, i0, sl1, sl2, bs, e1, optI, optP, partD, frBi]
      | some n =>
        rw [hf] at e1 hwo
        have nl := figO_lt hf
        by_cases hc : n = 0 ∧ s = 1
        · have w0 : wholeO w = none := by rw [hwo]; exact if_pos hc
          have z : fracO x = none := by
            match r, f1, f2, f3 with
            | [], f1, _, _ => rw [f1 rfl, w0]; rfl
            | [q], _, f2, _ => rw [(f2 q rfl).2, w0]
            | _ :: _ :: _, _, _, f3 => exact f3 (by simp)
          rw [z]
          generalize r.map PyData.str = rd at eb i0
          obtain ⟨rfl, rfl⟩ := hc
          unfold b_law_told_number
          simp [startE, eb, i0, sl1, sl2, bs, e1, optI, optP, partD, frBi]
        · have w1 : wholeO w = some (n * (1 - 2 * s)) := by rw [hwo]; exact if_neg hc
          have m0 : mulOk 2 s = true := mulOk_small (by decide) (by rcases hs with rfl | rfl <;> decide)
          have m1 : mulOk n (1 - 2 * s) = true := figO_mul nl _ (by rcases hs with rfl | rfl <;> decide)
          match r, f1, f2, f3 with
          | [], f1, _, _ =>
            rw [f1 rfl, w1]
            have i0' : L2.atI [PyData.str w] 0 = some (.str w) := by simp
            have eb : biD .split [.str x, .str "/"] = some (.list [.str w]) := eb
            unfold b_law_told_number
            simp [startE, eb, sl1, sl2, bs, e1, optI, optP, partD, frBi, hc, m0, m1]
          | [q], _, f2, _ =>
            obtain ⟨ql, f2⟩ := f2 q rfl
            rw [f2, w1]
            have eb : biD .split [.str x, .str "/"] = some (.list [.str w, .str q]) := eb
            have eq := fun sf => h1 q sf ql
            cases hq : figO q with
            | none =>
              rw [hq] at eq
              unfold b_law_told_number
              simp [startE, eb, sl1, sl2, bs, e1, eq, optI, optP, partD, frBi, hc]
            | some b =>
              rw [hq] at eq
              have ed := h2 n b
              have gg : (n * (1 - 2 * s)).gcd b = n.gcd b := by
                rcases hs with rfl | rfl
                · simp
                · rw [show n * (1 - 2 * 1) = -n from by omega, Int.neg_gcd]
              by_cases hb : 2 ≤ b
              · have hb' : ¬ b < 2 := by omega
                by_cases hg : n.gcd b = 1
                · unfold b_law_told_number
                  simp [startE, eb, sl1, sl2, bs, e1, eq, ed, optI, optP, partD, frBi, hc, hb, hb', hg, gg, m0, m1]
                · have hg' : ¬ ((n.gcd b : Nat) : Int) = 1 := by omega
                  unfold b_law_told_number
                  simp [startE, eb, sl1, sl2, bs, e1, eq, ed, optI, optP, partD, frBi, hc, hb, hb', hg, hg', gg, m0, m1]
              · have hb' : b < 2 := by omega
                unfold b_law_told_number
                simp [startE, eb, sl1, sl2, bs, e1, eq, optI, optP, partD, frBi, hc, hb, hb']
          | q1 :: q2 :: r, _, _, f3 =>
            rw [f3 (by simp)]
            have l3 : (2 : Int) < ((PyData.str w :: (q1 :: q2 :: r).map PyData.str).length : Int) := by simp; omega
            generalize (q1 :: q2 :: r).map PyData.str = rd at eb i0 l3
            unfold b_law_told_number
            simp only [List.length_cons, Int.natCast_add, Int.natCast_one] at l3
            simp [startE, eb, i0, sl1, sl2, bs, e1, optI, optP, partD, frBi, hc, l3]
    show exs Γ b_law_told_number (startE false 7 [.int 0, .str x]) = _
    have eb := split_bi (x := x) sep_stroke (by omega)
    rcases stroke_cases x with ⟨hp, hsp⟩ | ⟨p, q, hp, hsp, l1, l2⟩
    · rw [hsp] at eb
      refine fin [x] x rfl hx eb (fun _ => ?_) (fun q z => by cases z) (fun z => by simp at z)
      unfold fracO
      rw [hp, empty_str]
      simp
    · rw [hsp] at eb
      have fr : fracO x = match wholeO p, figO q with | some t, some b => if 2 ≤ b ∧ t.gcd b = 1 then some (t, b) else none | _, _ => none := by
        unfold fracO
        rw [hp]
        exact if_neg stroke_ne
      refine fin (p :: Txt.split q "/") p rfl (by omega) eb (fun z => ?_) (fun q' z => ?_) (fun z => ?_)
      · injection z with _ z
        exact (sep_stroke.some q z).elim
      · injection z with _ z
        by_cases e : Txt.split q "/" = [q]
        · rw [e] at z
          cases z
          exact ⟨by omega, fr⟩
        · have l := sep_stroke.le (x := q) (p := q') (by rw [z]; exact List.mem_cons_self)
          refine ⟨by omega, ?_⟩
          rw [fr, stroke_fig e]
          have : figO q' = figO q' := rfl
          exfalso
          rcases stroke_cases q with ⟨_, e2⟩ | ⟨p2, q2, _, e2, _⟩
          · exact e e2
          · rw [e2] at z
            injection z with _ z
            exact sep_stroke.some q2 z
      · rw [fr, stroke_fig (fun e => by rw [e] at z; simp at z)]
        cases wholeO p <;> rfl
def goT {K : Kd} : List Str → List (List K.F) → Option (List (List K.F))
  | [], acc => some acc
  | p :: ps, acc => match rowO K p with
    | some r => if r.length ≤ 12 ∧ r.length = ((acc ++ [r]).headD []).length then goT ps (acc ++ [r]) else none
    | none => none
open Classical in
theorem goT_eq {K : Kd} : ∀ (ps : List Str) (acc : List (List K.F)), goT ps acc = match seqO (ps.map (rowO K)) with
    | some m => if ∀ r ∈ m, r.length ≤ 12 ∧ r.length = ((acc ++ m).headD []).length then some (acc ++ m) else none
    | none => none
  | [], acc => by simp [goT, seqO]
  | p :: ps, acc => by
    simp only [goT, List.map_cons]
    cases hr : rowO K p with
    | none => simp [seqO]
    | some r =>
      simp only [seqO]
      have ih := goT_eq ps (acc ++ [r])
      have hh : ∀ m : List (List K.F), ((acc ++ [r] ++ m).headD []) = (acc ++ [r]).headD [] := fun m => by cases acc <;> rfl
      have ha : ∀ m : List (List K.F), acc ++ [r] ++ m = acc ++ r :: m := fun m => by simp
      by_cases hc : r.length ≤ 12 ∧ r.length = ((acc ++ [r]).headD []).length
      · rw [if_pos hc, ih]
        cases hs : seqO (ps.map (rowO K)) with
        | none => simp
        | some m =>
          simp only [Option.map_some]
          rw [ha]
          by_cases hm : ∀ r_1 ∈ m, r_1.length ≤ 12 ∧ r_1.length = ((acc ++ r :: m).headD []).length
          · rw [if_pos hm, if_pos]
            intro q hq
            rcases List.mem_cons.mp hq with rfl | hq
            · rw [← ha, hh]
              exact hc
            · exact hm q hq
          · rw [if_neg hm, if_neg]
            exact fun z => hm fun q hq => z q (List.mem_cons_of_mem _ hq)
      · rw [if_neg hc]
        cases hs : seqO (ps.map (rowO K)) with
        | none => rfl
        | some m =>
          simp only [Option.map_some]
          rw [if_neg]
          intro z
          have := z r List.mem_cons_self
          rw [← ha, hh] at this
          exact hc this
theorem goT_tab (K : Kd) (x : Str) : (match goT (K := K) (Txt.split x "; ") [] with
    | some m => if m.length ≤ 12 then some m else none
    | none => none) = tabO K x := by
  rw [goT_eq]
  unfold tabO partsO
  cases seqO ((Txt.split x "; ").map (rowO K)) with
  | none => rfl
  | some m =>
    simp only [List.nil_append]
    by_cases h : ∀ r ∈ m, r.length ≤ 12 ∧ r.length = (m.headD []).length
    · rw [if_pos h]
      simp only []
      by_cases h2 : m.length ≤ 12
      · rw [if_pos h2, if_pos]
        refine ⟨fun r hr => (h r hr).2, h2, ?_⟩
        cases m with
        | nil => simp
        | cons r m => exact (h r List.mem_cons_self).1
      · rw [if_neg h2, if_neg fun z : Fits m => h2 z.2.1]
    · rw [if_neg h]
      rw [if_neg]
      intro z
      exact h fun r hr => ⟨by rw [z.1 r hr]; exact z.2.2, z.1 r hr⟩
theorem optN_eqv {K : Kd} (v : K.F) : PyData.eqv (enc v) .none = false := by
  cases K <;> rfl
theorem shaped_list {xs : List D} (h : ∀ x ∈ xs, x.canLay0 = true ∧ x.depth ≤ 60) : SeqAt.shaped (.list xs) = true := by
  have a : ∀ xs : List D, (∀ x ∈ xs, x.canLay0 = true ∧ x.depth ≤ 60) → PyData.canLayAll0 xs = true ∧ PyData.depthAll xs ≤ 60 := by
    intro xs
    induction xs with
    | nil => exact fun _ => ⟨by simp [PyData.canLayAll0], by simp [PyData.depthAll]⟩
    | cons x xs ih =>
      intro h
      obtain ⟨h1, h2⟩ := h x List.mem_cons_self
      obtain ⟨h3, h4⟩ := ih fun y hy => h y (List.mem_cons_of_mem _ hy)
      refine ⟨by simp [PyData.canLayAll0, h1, h3], ?_⟩
      simp only [PyData.depthAll]
      omega
  obtain ⟨h1, h2⟩ := a xs h
  have d1 : PyData.depth (.list xs) = PyData.depthAll xs + 1 := by simp [PyData.depth]
  have d2 : PyData.canLay0 (.list xs) = true := by simp [PyData.canLay0, h1]
  unfold SeqAt.shaped
  rw [d2, Bool.true_and, decide_eq_true_eq, d1]
  omega
theorem in_row {K : Kd} (ws : List Str) : cmpD .In .none (.list (ws.map fun w => optN (numO K w))) = some ((seqO (ws.map (numO K))).isNone) := by
  have s : SeqAt.shaped (.list (ws.map fun w => optN (numO K w))) = true := shaped_list fun x hx => by
    obtain ⟨w, _, rfl⟩ := List.mem_map.mp hx
    cases numO K w with
    | none => exact ⟨(rfl : PyData.canLay0 .none = true), (by decide : PyData.depth .none ≤ 60)⟩
    | some v => exact ⟨Num.tells.lay v, Nat.le_trans (Num.tells.dep v) (by decide)⟩
  have e : cmpD .In .none (.list (ws.map fun w => optN (numO K w))) = if SeqAt.shaped .none && SeqAt.shaped (.list (ws.map fun w => optN (numO K w))) then some ((ws.map fun w => optN (numO K w)).any fun z => PyData.eqv z .none) else none := rfl
  rw [e, s]
  simp only [shaped_none, Bool.and_self, if_true]
  congr 1
  clear e s
  induction ws with
  | nil => simp [seqO]
  | cons w ws ih =>
    simp only [List.map_cons, List.any_cons]
    rw [ih]
    cases hn : numO K w with
    | none => simp [seqO, optN, PyData.eqv]
    | some v =>
      simp only [seqO, optN, optN_eqv, Bool.false_or, Option.isNone_map]
theorem row_vals {K : Kd} : ∀ (ws : List Str) (vs : List K.F), seqO (ws.map (numO K)) = some vs → (ws.map fun w => optN (numO K w)) = vs.map enc
  | [], vs, h => by cases h; rfl
  | w :: ws, vs, h => by
    rw [List.map_cons] at h
    cases hn : numO K w with
    | none => rw [hn] at h; cases h
    | some v =>
      rw [hn] at h
      obtain ⟨vs', h1, rfl⟩ := Option.map_eq_some_iff.mp h
      rw [List.map_cons, List.map_cons, row_vals ws vs' h1, hn]
      rfl
theorem told_step (Γ : Tab) (h : P_read_number (Γ "_law_told_number")) (K : Kd) {p : Str} (hp : p.length ≤ 900000) (x u3 u4 : Option (Sta × D)) (acc : List (List K.F)) (ha : acc.length < 999999) :
    ∃ v4, forF Γ (.nm 3) p_law_told_2 (.str p) [some (.shr, .int K.k), x, some (.own, encM acc), u3, u4, none] = match rowO K p with
      | some r => if r.length ≤ 12 ∧ r.length = ((acc ++ [r]).headD []).length then some (.nx [some (.shr, .int K.k), x, some (.own, encM (acc ++ [r])), some (.shr, .str p), v4, none]) else some (.rt false .none)
      | none => some (.rt false .none) := by
  have eb := split_bi (x := p) sep_blank (by omega)
  have sl := split_len sep_blank p
  have ha' : acc.length < 1000000 := by omega
  have lp := lcGo_map (f := lcF Γ [some (.shr, .int K.k), x, some (.own, encM acc), some (.shr, .str p), u4, none] [5] (.nm 5) (.cst (.bool true)) p_law_told_1) (g := PyData.str) (h := fun w => numO K w) (e := fun o => optN o) (l := Txt.split p " ") (by
    intro w hw
    have e := fun sf => h K w sf (by have := sep_blank.le hw; omega)
    unfold p_law_told_1
    generalize optN (numO K w) = d at e
    simp [lcF, e])
  rw [List.map_map] at lp
  have lp : lcGo (lcF Γ [some (.shr, .int K.k), x, some (.own, encM acc), some (.shr, .str p), u4, none] [5] (.nm 5) (.cst (.bool true)) p_law_told_1) ((Txt.split p " ").map PyData.str) = some ((Txt.split p " ").map fun w => optN (numO K w)) := lp
  have ir := in_row (K := K) (Txt.split p " ")
  have wl : ((Txt.split p " ").map PyData.str).length ≤ 1000000 := by rw [List.length_map]; omega
  unfold rowO
  cases hr : seqO ((Txt.split p " ").map (numO K)) with
  | none =>
    rw [hr] at ir
    simp only [Option.isNone_none] at ir
    refine ⟨none, ?_⟩
    generalize ((Txt.split p " ").map fun w => optN (numO K w)) = od at lp ir
    generalize ((Txt.split p " ").map PyData.str) = wd at lp eb wl
    unfold forF p_law_told_2
    simp [eb, lp, wl, ir, frBi]
  | some r =>
    rw [hr] at ir
    have rv := row_vals _ _ hr
    rw [rv] at lp ir
    simp only [Option.isNone_some] at ir
    have i0 : ∃ a, L2.atI (acc.map (fun r => encR r) ++ [PyData.list (r.map enc)]) 0 = some (encR a) ∧ a = (acc ++ [r]).headD [] := by
      cases acc with
      | nil => exact ⟨r, by simp, rfl⟩
      | cons a acc => exact ⟨a, by simp, rfl⟩
    obtain ⟨a, i0, ea⟩ := i0
    have ma : (acc ++ [r]).map (fun r => encR r) = acc.map (fun r => encR r) ++ [PyData.list (r.map enc)] := by simp
    have cm : encM (acc ++ [r]) = .list (acc.map (fun r => encR r) ++ [PyData.list (r.map enc)]) := by
      show PyData.list ((acc ++ [r]).map fun r => encR r) = _
      rw [ma]
    have ca : encM acc = .list (acc.map fun r => encR r) := rfl
    have la : (acc.map fun r => encR r).length < 1000000 := by rw [List.length_map]; exact ha'
    have lr : ((r.map enc).length : Int) = r.length := by simp
    refine ⟨some (.shr, .list (r.map enc)), ?_⟩
    simp only []
    rw [cm, ← ea]
    rw [ca] at lp ⊢
    generalize (acc.map fun r => encR r) = ad at lp i0 la
    generalize hrd : r.map enc = rd at lp ir i0 lr
    generalize ((Txt.split p " ").map PyData.str) = wd at lp eb wl
    by_cases h12 : r.length ≤ 12
    · have c1 : ¬ (12 : Int) < (rd.length : Int) := by omega
      by_cases hl : r.length = a.length
      · have c2 : (rd.length : Int) = a.length := by omega
        have c3 : ¬ (12 : Int) < (a.length : Int) := by omega
        have c4 : a.length ≤ 12 := by omega
        unfold forF p_law_told_2
        simp [eb, lp, wl, ir, frBi, la, i0, c2, c3, c4, hl]
      · have c2 : ¬ (rd.length : Int) = a.length := by omega
        unfold forF p_law_told_2
        simp [eb, lp, wl, ir, frBi, c1, la, i0, c2, h12, hl]
    · have c1 : (12 : Int) < (rd.length : Int) := by omega
      unfold forF p_law_told_2
      simp [eb, lp, wl, ir, frBi, c1, h12]
theorem told_all (Γ : Tab) (h : P_read_number (Γ "_law_told_number")) (K : Kd) (x : Option (Sta × D)) : ∀ (ps : List Str) (acc : List (List K.F)) (u3 u4 : Option (Sta × D)), (∀ p ∈ ps, p.length ≤ 900000) → acc.length + ps.length < 999999 →
    match goT (K := K) ps acc with
      | some m => ∃ v3 v4, forGo (forF Γ (.nm 3) p_law_told_2) (ps.map PyData.str) [some (.shr, .int K.k), x, some (.own, encM acc), u3, u4, none] = some (.nx [some (.shr, .int K.k), x, some (.own, encM m), v3, v4, none])
      | none => forGo (forF Γ (.nm 3) p_law_told_2) (ps.map PyData.str) [some (.shr, .int K.k), x, some (.own, encM acc), u3, u4, none] = some (.rt false .none)
  | [], acc, u3, u4, _, _ => ⟨u3, u4, by simp [forGo]⟩
  | p :: ps, acc, u3, u4, hp, hl => by
    obtain ⟨v4, st⟩ := told_step Γ h K (hp p List.mem_cons_self) x u3 u4 acc (by simp at hl; omega)
    rw [List.map_cons]
    simp only [goT]
    cases hr : rowO K p with
    | none =>
      rw [hr] at st
      simp only [] at st ⊢
      rw [forGo, st]
    | some r =>
      rw [hr] at st
      simp only [] at st ⊢
      by_cases hc : r.length ≤ 12 ∧ r.length = ((acc ++ [r]).headD []).length
      · rw [if_pos hc] at st
        rw [if_pos hc, forGo, st]
        exact told_all Γ h K x ps (acc ++ [r]) _ _ (fun q hq => hp q (List.mem_cons_of_mem _ hq)) (by simp at hl ⊢; omega)
      · rw [if_neg hc] at st
        rw [if_neg hc, forGo, st]
theorem law_told_s (Γ : Tab) (h : P_read_number (Γ "_law_told_number")) : P_read_table (some (sgR Γ b_law_told 6 2 false false)) := fun K x sf hx => by
  have eb := split_bi (x := x) sep_semi (by omega)
  have sl := split_len sep_semi x
  have lp := told_all Γ h K (some (.shr, .str x)) (Txt.split x "; ") [] none none (fun p hp => by have := sep_semi.le hp; omega) (by simp only [List.length_nil]; omega)
  rw [← goT_tab]
  have c0 : encM ([] : List (List K.F)) = .list [] := rfl
  rw [c0] at lp
  cases hg : goT (K := K) (Txt.split x "; ") [] with
  | none =>
    rw [hg] at lp
    simp only [] at lp ⊢
    refine clR (f := false) ?_
    generalize (Txt.split x "; ").map PyData.str = wd at eb lp
    unfold b_law_told
    simp [startE, eb, lp, optM]
  | some m =>
    rw [hg] at lp
    simp only [] at lp ⊢
    obtain ⟨v3, v4, lp⟩ := lp
    have cm : encM m = .list (m.map fun r => encR r) := rfl
    have lm : ((m.map fun r => encR r).length : Int) = m.length := by simp
    rw [cm] at lp
    by_cases h12 : m.length ≤ 12
    · have c1 : ¬ (12 : Int) < ((m.map fun r => encR r).length : Int) := by omega
      refine clR (f := true) ?_
      rw [if_pos h12]
      show exs Γ b_law_told _ = some (.rt true (.list (m.map fun r => encR r)))
      generalize (m.map fun r => encR r) = md at lp c1
      generalize (Txt.split x "; ").map PyData.str = wd at eb lp
      unfold b_law_told
      simp [startE, eb, lp, c1]
    · have c1 : (12 : Int) < ((m.map fun r => encR r).length : Int) := by omega
      refine clR (f := false) ?_
      rw [if_neg h12]
      generalize (m.map fun r => encR r) = md at lp c1
      generalize (Txt.split x "; ").map PyData.str = wd at eb lp
      unfold b_law_told
      simp [startE, eb, lp, c1, optM]
theorem law_told_n (Γ : Tab) : P_read_none (some (sgR Γ b_law_told 6 2 false false)) := fun K d sf hd => by
  refine clR (f := false) ?_
  rcases hd with rfl | ⟨i, rfl⟩
  · unfold b_law_told
    simp [startE, isiD]
  · unfold b_law_told
    simp [startE, isiD]
theorem run_law_told (Γ : Tab) (h : P_read_number (Γ "_law_told_number")) : P_read2 (some (sgR Γ b_law_told 6 2 false false)) := ⟨law_told_s Γ h, law_told_n Γ⟩
end VI
set_option Elab.async false
set_option linter.all false
set_option maxRecDepth 100000
set_option exponentiation.threshold 2000
set_option maxHeartbeats 4000000
namespace VI
open PySem
open Num
open scoped Num
def P_law_is91 (o : Option Sig) : Prop := ∀ (K : Kd) (p : List (List K.F)) (sf : Bool), p.length ≤ 1000 → (∀ r ∈ p, r.length ≤ 1000) → clO o sf [.int K.k, encM p, encM p] = some (.bool true)
theorem run_law_is_v3 (Γ : Tab) : P_law_is91 (some (sgR Γ b_law_is_v3 5 3 false false)) := fun K p sf hl hm => by
  refine clR (f := false) ?_
  have e := cmpN_M p p
  simp only [decide_true, Bool.not_true] at e
  have l1 : ∀ (r : List K.F) (ρ1 ρ2 ρ5 : Option (Sta × D)), ∃ u, forGo (forF Γ (.nm 4) p_law_is_v3_1) (r.map enc) [some (.shr, .int K.k), ρ1, ρ2, some (.shr, encR r), ρ5] = some (.nx [some (.shr, .int K.k), ρ1, ρ2, some (.shr, encR r), u]) := fun r ρ1 ρ2 ρ5 => by
    have lp := forGo_run (f := forF Γ (.nm 4) p_law_is_v3_1) (g := fun x : K.F => enc x) (all := r)
      (I := fun pre ρ => ∃ u, ρ = [some (.shr, .int K.k), ρ1, ρ2, some (.shr, encR r), u]) ⟨ρ5, rfl⟩ (by
        rintro pre x post ρ e' ⟨u, rfl⟩
        refine Goes.nx (ρ := [some (.shr, .int K.k), ρ1, ρ2, some (.shr, encR r), some (.shr, enc x)]) ?_ ⟨_, rfl⟩
        have e1 := isi_bool x
        have e2 := isi_tuple x
        unfold forF p_law_is_v3_1
        by_cases h0 : K.k = 0 <;> simp [e1, e2, h0])
    obtain ⟨ρ', hr, u, rfl⟩ := lp
    exact ⟨u, hr⟩
  have lp := forGo_run (f := forF Γ (.nm 3) p_law_is_v3_2) (g := fun r : List K.F => encR r) (all := p)
    (I := fun pre ρ => ∃ u v, ρ = [some (.shr, .int K.k), some (.arg, encM p), some (.arg, encM p), u, v])
    (ρ := [some (.shr, .int K.k), some (.arg, encM p), some (.arg, encM p), none, none]) ⟨_, _, rfl⟩ (by
      rintro pre r post ρ e' ⟨u, v, rfl⟩
      obtain ⟨u', hu⟩ := l1 r (some (.arg, encM p)) (some (.arg, encM p)) v
      have lr : r.length ≤ 1000000 := by have := hm r (by rw [e']; simp); omega
      refine Goes.nx (ρ := [some (.shr, .int K.k), some (.arg, encM p), some (.arg, encM p), some (.shr, encR r), u']) ?_ ⟨_, _, rfl⟩
      unfold forF p_law_is_v3_2
      simp [hu])
  obtain ⟨ρ', hr, u, v, rfl⟩ := lp
  have e : cmpD .NotEq (.list (p.map fun r => encR r)) (.list (p.map fun r => encR r)) = some false := e
  unfold b_law_is_v3
  simp [startE, e, hr]
def SpoD (d : D) : Prop := d = .none ∨ (∃ i, d = .int i) ∨ ∃ x : Str, d = .str x ∧ x.length ≤ 900000
def P_law_right91 (o : Option Sig) : Prop := ∀ (K : Kd) (d : D) (sf : Bool), SpoD d → clO o sf [.int K.k, d] = some (.bool true)
theorem tabO_fits {K : Kd} {x : Str} {m : List (List K.F)} (h : tabO K x = some m) : m.length ≤ 1000 ∧ ∀ r ∈ m, r.length ≤ 1000 := by
  unfold tabO at h
  split at h
  · split at h
    · rename_i hf
      cases h
      exact ⟨by have := hf.2.1; omega, fun r hr => by have := hf.1 r hr; have := hf.2.2; omega⟩
    · cases h
  · cases h
theorem run_law_right91 (Γ : Tab) (h1 : P_read_table (Γ "_law_told")) (h2 : P_read_none (Γ "_law_told")) (h3 : P_read_table (Γ "read_table")) (h4 : P_read_none (Γ "read_table")) (h5 : P_law_is91 (Γ "_law_is")) : P_law_right91 (some (sgR Γ b_law_right91 6 2 false false)) := fun K d sf hd => by
  have no : (∀ sf, clO (Γ "_law_told") sf [.int K.k, d] = some .none) → (∀ sf, clO (Γ "read_table") sf [.int K.k, d] = some .none) → isList d = false → exs Γ b_law_right91 (startE false 6 [.int K.k, d]) = some (.rt false (.bool true)) := fun e1 e2 l => by
    unfold b_law_right91 rightS y0_law_right91 y1_law_right91 y2_law_right91 c_law_right91
    simp [startE, e1, e2, l]
  rcases hd with rfl | ⟨i, rfl⟩ | ⟨x, rfl, hx⟩
  · exact clR (no (fun sf => h2 K _ sf (.inl rfl)) (fun sf => h4 K _ sf (.inl rfl)) rfl)
  · exact clR (no (fun sf => h2 K _ sf (.inr ⟨i, rfl⟩)) (fun sf => h4 K _ sf (.inr ⟨i, rfl⟩)) rfl)
  · have e1 := fun sf => h1 K x sf hx
    have e3 := fun sf => h3 K x sf hx
    cases ht : tabO K x with
    | none =>
      rw [ht] at e1 e3
      exact clR (no e1 e3 rfl)
    | some m =>
      rw [ht] at e1 e3
      obtain ⟨l1, l2⟩ := tabO_fits ht
      have e5 := fun sf => h5 K m sf l1 l2
      refine clR (f := false) ?_
      simp only [optM] at e1 e3
      have cm : encM m = .list (m.map fun r => encR r) := rfl
      rw [cm] at e1 e3 e5
      generalize (m.map fun r => encR r) = md at e1 e3 e5
      unfold b_law_right91 rightS y0_law_right91 y1_law_right91 y2_law_right91 c_law_right91
      cases hf1 : frO (Γ "_law_told") <;> cases hf2 : frO (Γ "read_table") <;> simp [startE, e1, e3, e5, hf1, hf2]
def P_law_number91 (o : Option Sig) : Prop := ∀ (K : Kd) (c j : Int), CellOk c → 0 ≤ j → j ≤ 1000 → ∃ x : K.F, BdN K x ∧ ∀ sf : Bool, clO o sf [.int K.k, .int c, .int j] = some (enc x)
theorem bdq {t b : Int} (hb : 0 < b) (h1 : t.natAbs < 10 ^ 20) (h2 : b.natAbs < 10 ^ 20) : BdN .q (Rat.divInt t b) :=
  ⟨Nat.lt_of_le_of_lt (num_le t (by omega)) h1, Nat.lt_of_le_of_lt (den_le t (by omega)) h2⟩
theorem mul_cell {c k : Int} (hc : CellOk c) (h0 : 0 ≤ k) (h1 : k ≤ 300000) : mulOk c k = true := by
  have l3 : k.natAbs.log2 < 1000 := by
    by_cases hz : k.natAbs = 0
    · rw [hz]; decide
    · exact (Nat.log2_lt hz).mpr (by omega)
  unfold CellOk at hc
  exact decide_eq_true (by omega)
theorem run_law_number_v9 (Γ : Tab) (h0 : P_law_mix (Γ "_law_mix")) (h1 : P_divisor (Γ "_law_divisor")) : P_law_number91 (some (sgR Γ b_law_number_v9 7 3 false false)) := fun K c j hc hj hj1 => by
  obtain ⟨m, m0, m1, em⟩ := h0 c j hc hj (by omega)
  cases K with
  | z p h =>
    have hp := h.pos
    have hl := h.lt
    have hn := k_n0 h
    have f1 := fm_pos (m.fdiv 4) (b := (p : Int)) (by omega)
    have hu := if01 (0 < m.fmod 4)
    generalize hg : (if 0 < m.fmod 4 then (1 : Int) else 0) = u at hu
    have hv : (m.fdiv 4).fmod p * u = 0 ∨ (m.fdiv 4).fmod p * u = (m.fdiv 4).fmod p := by
      rcases hu with rfl | rfl
      · exact .inl (Int.mul_zero _)
      · exact .inr (Int.mul_one _)
    have mk : mulOk ((m.fdiv 4).fmod p) u = true := mulOk_small (by omega) (by omega)
    refine ⟨(ofI ((m.fdiv 4).fmod p * u) : Zp p), trivial, fun sf => clR (f := false) ?_⟩
    show exs Γ b_law_number_v9 (startE false 7 [.int (p : Int), .int c, .int j]) = some (.rt false (encZ (ofI ((m.fdiv 4).fmod p * u) : Zp p)))
    rw [← Zp.int_enc (by omega) (by omega)]
    have hp' : 0 < p := by omega
    unfold b_law_number_v9
    simp [startE, em, hp', hn, hg, mk]
  | q =>
    by_cases h8 : m.fmod 8 = 1
    · have k1 := fm_pos (c * (j + 7) + m) (b := 199999999999999999999) (by decide)
      have i3 := fm_pos (m.fdiv 8) (b := 3) (by decide)
      have a1 : mulOk c (j + 7) = true := mul_cell hc (by omega) (by omega)
      have a2 : mulOk c (j + 11) = true := mul_cell hc (by omega) (by omega)
      have hu := if01 (0 < m.fmod 8)
      have s1 := fm_pos (m.fdiv 8) (b := 13) (by decide)
      have a3 : mulOk ((m.fdiv 8).fmod 13 - 6) 1 = true := mulOk_small (by omega) (by decide)
      have fin : ∀ w : Int, 0 < w → w < 10 ^ 20 → L2.atI [PyData.int 1, PyData.int 9, PyData.int 99999999999999999999] ((m.fdiv 8).fmod 3) = some (.int w) →
          ∃ x : Kd.F .q, BdN .q x ∧ ∀ sf : Bool, clO (some (sgR Γ b_law_number_v9 7 3 false false)) sf [.int Kd.q.k, .int c, .int j] = some (enc x) := fun w w0 w1 ew => by
        have k2 := fm_pos (c * (j + 11) + m) (b := w) w0
        have e := h1 ((c * (j + 7) + m).fmod 199999999999999999999 - 99999999999999999999) (1 + (c * (j + 11) + m).fmod w)
        refine ⟨Rat.divInt ((c * (j + 7) + m).fmod 199999999999999999999 - 99999999999999999999) (1 + (c * (j + 11) + m).fmod w), bdq (by omega) (by omega) (by omega), fun sf => clR (f := false) ?_⟩
        have gz := gcd_ne (t := (c * (j + 7) + m).fmod 199999999999999999999 - 99999999999999999999) (b := 1 + (c * (j + 11) + m).fmod w) (by omega)
        obtain ⟨e1, e2⟩ := low_pos (t := (c * (j + 7) + m).fmod 199999999999999999999 - 99999999999999999999) (b := 1 + (c * (j + 11) + m).fmod w) (by omega)
        show exs Γ b_law_number_v9 (startE false 7 [.int 0, .int c, .int j]) = some (.rt false (.tuple [.int _, .int _]))
        rw [← e1, ← e2]
        generalize hw1 : (c * (j + 7) + m).fmod 199999999999999999999 = y at e gz
        generalize hw2 : (c * (j + 11) + m).fmod w = z at e gz
        have w2 : ¬ w = 0 := by omega
        unfold b_law_number_v9
        simp [startE, em, h8, a1, a2, a3, ew, e, gz, hw1, hw2, w2]
      have hi : (m.fdiv 8).fmod 3 = 0 ∨ (m.fdiv 8).fmod 3 = 1 ∨ (m.fdiv 8).fmod 3 = 2 := by omega
      rcases hi with hi | hi | hi
      · exact fin 1 (by decide) (by decide) (by rw [hi]; simp)
      · exact fin 9 (by decide) (by decide) (by rw [hi]; simp)
      · exact fin 99999999999999999999 (by decide) (by decide) (by rw [hi]; simp)
    · have s1 := fm_pos (m.fdiv 8) (b := 13) (by decide)
      have s2 := fm_pos (m.fdiv 104) (b := 6) (by decide)
      have hu := if01 (0 < m.fmod 8)
      generalize hg : (if 0 < m.fmod 8 then (1 : Int) else 0) = u at hu
      have hv : ((m.fdiv 8).fmod 13 - 6) * u = 0 ∨ ((m.fdiv 8).fmod 13 - 6) * u = (m.fdiv 8).fmod 13 - 6 := by
        rcases hu with rfl | rfl
        · exact .inl (Int.mul_zero _)
        · exact .inr (Int.mul_one _)
      have mk : mulOk ((m.fdiv 8).fmod 13 - 6) u = true := mulOk_small (by omega) (by omega)
      have e := h1 (((m.fdiv 8).fmod 13 - 6) * u) (1 + (m.fdiv 104).fmod 6)
      refine ⟨Rat.divInt (((m.fdiv 8).fmod 13 - 6) * u) (1 + (m.fdiv 104).fmod 6), bdq (by omega) (by omega) (by omega), fun sf => clR (f := false) ?_⟩
      have gz := gcd_ne (t := ((m.fdiv 8).fmod 13 - 6) * u) (b := 1 + (m.fdiv 104).fmod 6) (by omega)
      obtain ⟨e1, e2⟩ := low_pos (t := ((m.fdiv 8).fmod 13 - 6) * u) (b := 1 + (m.fdiv 104).fmod 6) (by omega)
      show exs Γ b_law_number_v9 (startE false 7 [.int 0, .int c, .int j]) = some (.rt false (.tuple [.int _, .int _]))
      rw [← e1, ← e2]
      unfold b_law_number_v9
      simp [startE, em, h8, hg, mk, e, gz]
theorem rng_n91 {n : Nat} (h : n ≤ 1000000) : rngD [.int n] = some ((List.range n).map fun (k : Nat) => .int (k : Int)) := by
  have h' : (n : Int) ≤ 1000000 := by omega
  have h2 : (-1000000 : Int) ≤ n := by omega
  simp [rngD, h', h2]
def P_law_table91 (o : Option Sig) : Prop := ∀ (K : Kd) (c : Int), CellOk c → ∃ m : List (List K.F), m ≠ [] ∧ m.length ≤ 13 ∧ (∀ r ∈ m, r.length ≤ 13) ∧ (∀ r ∈ m, ∀ x ∈ r, BdN K x) ∧ ∀ sf : Bool, clO o sf [.int K.k, .int c] = some (encM m)
theorem run_law_table_v4 (Γ : Tab) (h0 : P_law_mix (Γ "_law_mix")) (h1 : P_law_number91 (Γ "_law_number")) : P_law_table91 (some (sgR Γ b_law_table_v4 6 2 false false)) := fun K c hc => by
  obtain ⟨m2, a2, b2, e2⟩ := h0 c 2 hc (by decide) (by decide)
  obtain ⟨m3, a3, b3, e3⟩ := h0 c 3 hc (by decide) (by decide)
  obtain ⟨m4, a4, b4, e4⟩ := h0 c 4 hc (by decide) (by decide)
  obtain ⟨m5, a5, b5, e5⟩ := h0 c 5 hc (by decide) (by decide)
  have f2 := fm_pos m2 (b := 3) (by decide)
  have f3 := fm_pos m3 (b := 3) (by decide)
  have f5 := fm_pos m5 (b := 2) (by decide)
  have key : ∀ a b : Nat, 1 ≤ a → a ≤ 13 → b ≤ 13 → ∃ m : List (List K.F), m ≠ [] ∧ m.length ≤ 13 ∧ (∀ r ∈ m, r.length ≤ 13) ∧ (∀ r ∈ m, ∀ x ∈ r, BdN K x) ∧
      ev Γ (.lc [4] (.nm 4) (.rng (.cons (.var 2) .nil)) (.cst (.bool true)) p_law_table_v4_2) [some (.shr, .int K.k), some (.shr, .int c), some (.shr, .int a), some (.shr, .int b), none, none] = some (encM m) := fun a b ha1 ha hb => by
    have each : ∀ i j : Nat, ∃ x : K.F, i < 13 → j < 13 → BdN K x ∧ ∀ sf : Bool, clO (Γ "_law_number") sf [.int K.k, .int c, .int (10 + (b : Int) * i + j)] = some (enc x) := fun i j => by
      by_cases q : i < 13 ∧ j < 13
      · have : b * i ≤ 13 * 13 := Nat.mul_le_mul hb (by omega)
        have : (b : Int) * i ≤ 169 := by
          have := Int.ofNat_le.mpr this
          rw [Int.natCast_mul] at this
          omega
        have p : (0 : Int) ≤ (b : Int) * i := Int.mul_nonneg (by omega) (by omega)
        obtain ⟨x, hx⟩ := h1 K c (10 + (b : Int) * i + j) hc (by omega) (by omega)
        exact ⟨x, fun _ _ => hx⟩
      · exact ⟨0, fun z1 z2 => (q ⟨z1, z2⟩).elim⟩
    have each := fun i => Classical.axiomOfChoice (each i)
    obtain ⟨X, hX⟩ := Classical.axiomOfChoice each
    have ra := rng_n91 (n := a) (by omega)
    have rb := rng_n91 (n := b) (by omega)
    have ha6 : a ≤ 1000000 := by omega
    have hb6 : b ≤ 1000000 := by omega
    have inner : ∀ i < a, ∀ u5, lcGo (lcF Γ [some (.shr, .int K.k), some (.shr, .int c), some (.shr, .int a), some (.shr, .int b), some (.shr, .int (i : Int)), u5] [5] (.nm 5) (.cst (.bool true)) p_law_table_v4_1) ((List.range b).map fun (k : Nat) => .int (k : Int)) = some (((List.range b).map fun j => X i j).map enc) := fun i hi u5 =>
      lcGo_range0 (h := fun j => X i j) (e := enc) (n := b) (by
        intro j hjb
        have e := (hX i j (by omega) (by omega)).2
        have mk : mulOk (b : Int) (i : Int) = true := mulOk_small (by omega) (by omega)
        unfold p_law_table_v4_1
        generalize enc (X i j) = d at e
        simp [lcF, mk, e])
    have outer := lcGo_range0 (f := lcF Γ [some (.shr, .int K.k), some (.shr, .int c), some (.shr, .int a), some (.shr, .int b), none, none] [4] (.nm 4) (.cst (.bool true)) p_law_table_v4_2) (h := fun i => (List.range b).map fun j => X i j) (e := fun r : List K.F => encR r) (n := a) (by
      intro i hi
      have e := inner i hi none
      have cr : encR ((List.range b).map fun j => X i j) = .list (((List.range b).map fun j => X i j).map enc) := rfl
      rw [cr]
      generalize (((List.range b).map fun j => X i j).map enc) = rd at e
      unfold p_law_table_v4_2
      simp [lcF, rb, hb6, e])
    refine ⟨(List.range a).map fun i => (List.range b).map fun j => X i j, ?_, ?_, ?_, ?_, ?_⟩
    · intro z
      have := congrArg List.length z
      simp at this
      omega
    · simp
      omega
    · intro r hr
      obtain ⟨i, _, rfl⟩ := List.mem_map.mp hr
      simp
      omega
    · intro r hr x hx
      obtain ⟨i, hi, rfl⟩ := List.mem_map.mp hr
      obtain ⟨j, hj, rfl⟩ := List.mem_map.mp hx
      rw [List.mem_range] at hi hj
      exact (hX i j (by omega) (by omega)).1
    · have cm : encM ((List.range a).map fun i => (List.range b).map fun j => X i j) = .list (((List.range a).map fun i => (List.range b).map fun j => X i j).map fun r => encR r) := rfl
      rw [cm]
      generalize (((List.range a).map fun i => (List.range b).map fun j => X i j).map fun r => encR r) = md at outer
      simp [ra, ha6, outer]
  have step : ∀ (a b : Nat) (x y : Int), x = a → y = b → 1 ≤ a → a ≤ 13 → b ≤ 13 → ∃ m : List (List K.F), m ≠ [] ∧ m.length ≤ 13 ∧ (∀ r ∈ m, r.length ≤ 13) ∧ (∀ r ∈ m, ∀ x ∈ r, BdN K x) ∧
      exs Γ (.cons (.ret (.lc [4] (.nm 4) (.rng (.cons (.var 2) .nil)) (.cst (.bool true)) p_law_table_v4_2)) .nil) [some (.shr, .int K.k), some (.shr, .int c), some (.shr, .int x), some (.shr, .int y), none, none] = some (.rt true (encM m)) := by
    rintro a b x y rfl rfl h1 h2 h3
    obtain ⟨m, q1, q2, q3, q4, q5⟩ := key a b h1 h2 h3
    refine ⟨m, q1, q2, q3, q4, ?_⟩
    rw [exs_cons, ex_ret, dem_lc, q5]
    rfl
  have n0 : ∃ n3 : Nat, m3.fmod 3 = n3 := Int.eq_ofNat_of_zero_le f3.1
  have n1 : ∃ n2 : Nat, m2.fmod 3 = n2 := Int.eq_ofNat_of_zero_le f2.1
  have n2 : ∃ n5 : Nat, m5.fmod 2 = n5 := Int.eq_ofNat_of_zero_le f5.1
  obtain ⟨n3, en3⟩ := n0
  obtain ⟨n2', en2⟩ := n1
  obtain ⟨n5, en5⟩ := n2
  by_cases h1' : m4.fmod 16 = 1
  · obtain ⟨m, q1, q2, q3, q4, q5⟩ := step (12 + n5) 1 (12 + m5.fmod 2) 1 (by omega) rfl (by omega) (by omega) (by omega)
    refine ⟨m, q1, q2, q3, q4, fun sf => clR (f := true) ?_⟩
    unfold b_law_table_v4
    generalize encM m = md at q5
    generalize hR : (XSs.cons (.ret (.lc [4] (.nm 4) (.rng (.cons (.var 2) .nil)) (.cst (.bool true)) p_law_table_v4_2)) .nil) = R at q5 ⊢
    simp [startE, e2, e3, e4, e5, h1', q5]
  · by_cases h2' : m4.fmod 16 = 2
    · obtain ⟨m, q1, q2, q3, q4, q5⟩ := step 1 (12 + n5) 1 (12 + m5.fmod 2) rfl (by omega) (by omega) (by omega) (by omega)
      refine ⟨m, q1, q2, q3, q4, fun sf => clR (f := true) ?_⟩
      unfold b_law_table_v4
      generalize encM m = md at q5
      generalize hR : (XSs.cons (.ret (.lc [4] (.nm 4) (.rng (.cons (.var 2) .nil)) (.cst (.bool true)) p_law_table_v4_2)) .nil) = R at q5 ⊢
      simp [startE, e2, e3, e4, e5, h2', q5]
    · obtain ⟨m, q1, q2, q3, q4, q5⟩ := step (1 + n2') (1 + n3) (1 + m2.fmod 3) (1 + m3.fmod 3) (by omega) (by omega) (by omega) (by omega) (by omega)
      refine ⟨m, q1, q2, q3, q4, fun sf => clR (f := true) ?_⟩
      unfold b_law_table_v4
      generalize encM m = md at q5
      generalize hR : (XSs.cons (.ret (.lc [4] (.nm 4) (.rng (.cons (.var 2) .nil)) (.cst (.bool true)) p_law_table_v4_2)) .nil) = R at q5 ⊢
      simp [startE, e2, e3, e4, e5, h1', h2', q5]
theorem word_step (Γ : Tab) (K : Kd) {x : K.F} (hx : BdN K x) (t fd rw' u5 u6 : Option (Sta × D)) (ws : List Str) (hw : ws.length < 999999) :
    ∃ v6, forF Γ (.nm 5) p_law_text_1 (enc x) [some (.shr, .int K.k), t, fd, rw', some (.own, .list (ws.map .str)), u5, u6] = some (.nx [some (.shr, .int K.k), t, fd, rw', some (.own, .list ((ws ++ [numS K x]).map .str)), some (.shr, enc x), v6]) := by
  have wl : (ws.map PyData.str).length < 1000000 := by rw [List.length_map]; omega
  have wa : (ws ++ [numS K x]).map PyData.str = ws.map PyData.str ++ [.str (numS K x)] := by simp
  rw [wa]
  generalize ws.map PyData.str = wd at wl
  cases K with
  | q =>
    have d1 : (((x : Rat).den : Nat) : Int).natAbs < 10 ^ 20 := by simpa using hx.2
    have b2 := str_bi d1
    have l1 := tS_len hx.1
    have l2 := tS_len d1
    have g0 : ∀ i : Int, i.natAbs < 10 ^ 20 → i.natAbs.log2 < 1000 := fun i h => by
      by_cases h0 : i.natAbs = 0
      · rw [h0]
        decide
      · exact (Nat.log2_lt h0).mpr (Nat.lt_trans h (by decide))
    have g1 := g0 _ hx.1
    have g2 := g0 _ d1
    have g3 := log_small hx.1
    have c : ("/" : Str).length = 1 := by decide +kernel
    have e : numS .q x = if (((x : Rat).den : Nat) : Int) = 1 then tS (x : Rat).num else tS (x : Rat).num ++ "/" ++ tS (((x : Rat).den : Nat) : Int) := rfl
    rw [e]
    show ∃ v6, forF Γ (.nm 5) p_law_text_1 (.tuple [.int (x : Rat).num, .int (((x : Rat).den : Nat) : Int)]) [some (.shr, .int 0), t, fd, rw', some (.own, .list wd), u5, u6] = some (.nx [some (.shr, .int 0), t, fd, rw', some (.own, .list _), some (.shr, .tuple [.int (x : Rat).num, .int (((x : Rat).den : Nat) : Int)]), v6])
    generalize (x : Rat).num = a at l1 g1 g3
    generalize (((x : Rat).den : Nat) : Int) = b at l2 g2 b2
    by_cases hb : b = 1
    · refine ⟨some (.shr, .str (tS a)), ?_⟩
      subst hb
      have g4 : Nat.log2 1 < 1000 := by decide
      unfold forF p_law_text_1
      simp [g1, g4, g3, wl]
      rfl
    · refine ⟨some (.shr, .str (tS a ++ "/" ++ tS b)), ?_⟩
      have a1 : binD .Add (.str (tS a)) (.str "/") = some (.str (tS a ++ "/")) := by
        have : (tS a).length + ("/" : Str).length ≤ lim := by unfold lim; omega
        simp only [binD, this, if_true]
      have a2 : binD .Add (.str (tS a ++ "/")) (.str (tS b)) = some (.str (tS a ++ "/" ++ tS b)) := by
        have : (tS a ++ "/").length + (tS b).length ≤ lim := by rw [str_app_len]; unfold lim; omega
        simp only [binD, this, if_true]
      have a1 : binD .Add (.str (Str.ofString a.repr)) (.str "/") = some (.str (tS a ++ "/")) := a1
      unfold forF p_law_text_1
      simp only [if_neg hb]
      generalize hz : tS a ++ "/" = z at a1 a2
      generalize hy : tS b = y at a2 b2
      generalize z ++ y = zy at a2
      simp [g1, g2, g3, wl, hb, a1, a2, b2]
  | z p h =>
    have g3 := log_small (z_small h x)
    have hp := k_n0 h
    show ∃ v6, forF Γ (.nm 5) p_law_text_1 (.int ((((x : Zp p) : Fin p).val : Nat) : Int)) [some (.shr, .int (p : Int)), t, fd, rw', some (.own, .list wd), u5, u6] = some (.nx [some (.shr, .int (p : Int)), t, fd, rw', some (.own, .list (wd ++ [.str (tS ((((x : Zp p) : Fin p).val : Nat) : Int))])), some (.shr, .int ((((x : Zp p) : Fin p).val : Nat) : Int)), v6])
    generalize ((((x : Zp p) : Fin p).val : Nat) : Int) = a at g3
    refine ⟨some (.shr, .str (tS a)), ?_⟩
    unfold forF p_law_text_1
    simp [g3, hp, wl]
    rfl
theorem words_all (Γ : Tab) (K : Kd) (t fd rw' : Option (Sta × D)) : ∀ (xs : List K.F) (ws : List Str) (u5 u6 : Option (Sta × D)), (∀ x ∈ xs, BdN K x) → ws.length + xs.length < 999999 →
    ∃ v5 v6, forGo (forF Γ (.nm 5) p_law_text_1) (xs.map enc) [some (.shr, .int K.k), t, fd, rw', some (.own, .list (ws.map .str)), u5, u6] = some (.nx [some (.shr, .int K.k), t, fd, rw', some (.own, .list ((ws ++ xs.map (numS K)).map .str)), v5, v6])
  | [], ws, u5, u6, _, _ => ⟨u5, u6, by simp [forGo]⟩
  | x :: xs, ws, u5, u6, hx, hl => by
    obtain ⟨v6, st⟩ := word_step Γ K (hx x List.mem_cons_self) t fd rw' u5 u6 ws (by simp at hl; omega)
    obtain ⟨w5, w6, ih⟩ := words_all Γ K t fd rw' xs (ws ++ [numS K x]) (some (.shr, enc x)) v6 (fun y hy => hx y (List.mem_cons_of_mem _ hy)) (by simp at hl ⊢; omega)
    refine ⟨w5, w6, ?_⟩
    rw [List.map_cons, forGo, st]
    simp only []
    rw [ih, List.map_cons, List.append_assoc]
    rfl
theorem line_step (Γ : Tab) (K : Kd) {r : List K.F} (hx : ∀ x ∈ r, BdN K x) (hr : r.length ≤ 13) (t u3 u4 u5 u6 : Option (Sta × D)) (fs : List Str) (hf : fs.length < 999999) :
    ∃ v4 v5 v6, forF Γ (.nm 3) p_law_text_2 (encR r) [some (.shr, .int K.k), t, some (.own, .list (fs.map .str)), u3, u4, u5, u6] = some (.nx [some (.shr, .int K.k), t, some (.own, .list ((fs ++ [rowS K r]).map .str)), some (.shr, encR r), v4, v5, v6]) := by
  have fl : (fs.map PyData.str).length < 1000000 := by rw [List.length_map]; omega
  have fa : (fs ++ [rowS K r]).map PyData.str = fs.map PyData.str ++ [.str (rowS K r)] := by simp
  rw [fa]
  generalize fs.map PyData.str = fd at fl
  obtain ⟨v5, v6, lp⟩ := words_all Γ K t (some (.own, .list fd)) (some (.shr, encR r)) r [] u5 u6 hx (by simp; omega)
  have j := join_bi (y := " ") (ys := r.map (numS K)) (Nat.le_trans (row_sum hx hr) (by decide))
  have rs : Txt.join " " (r.map (numS K)) = rowS K r := rfl
  rw [rs] at j
  rw [List.nil_append] at lp
  refine ⟨some (.own, .list ((r.map (numS K)).map PyData.str)), v5, v6, ?_⟩
  have cr : encR r = .list (r.map enc) := rfl
  rw [cr] at lp ⊢
  generalize (r.map (numS K)).map PyData.str = sd at lp j
  generalize r.map enc = rd at lp
  have lp : forGo (forF Γ (.nm 5) p_law_text_1) rd [some (.shr, .int K.k), t, some (.own, .list fd), some (.shr, .list rd), some (.own, .list []), u5, u6] = _ := lp
  unfold forF p_law_text_2
  simp [lp, j, fl]
theorem lines_all (Γ : Tab) (K : Kd) (t : Option (Sta × D)) : ∀ (m : List (List K.F)) (fs : List Str) (u3 u4 u5 u6 : Option (Sta × D)), (∀ r ∈ m, ∀ x ∈ r, BdN K x) → (∀ r ∈ m, r.length ≤ 13) → fs.length + m.length < 999999 →
    ∃ v3 v4 v5 v6, forGo (forF Γ (.nm 3) p_law_text_2) (m.map fun r => encR r) [some (.shr, .int K.k), t, some (.own, .list (fs.map .str)), u3, u4, u5, u6] = some (.nx [some (.shr, .int K.k), t, some (.own, .list ((fs ++ m.map (rowS K)).map .str)), v3, v4, v5, v6])
  | [], fs, u3, u4, u5, u6, _, _, _ => ⟨u3, u4, u5, u6, by simp [forGo]⟩
  | r :: m, fs, u3, u4, u5, u6, hx, hl, hn => by
    obtain ⟨v4, v5, v6, st⟩ := line_step Γ K (hx r List.mem_cons_self) (hl r List.mem_cons_self) t u3 u4 u5 u6 fs (by simp at hn; omega)
    obtain ⟨w3, w4, w5, w6, ih⟩ := lines_all Γ K t m (fs ++ [rowS K r]) (some (.shr, encR r)) v4 v5 v6 (fun y hy => hx y (List.mem_cons_of_mem _ hy)) (fun y hy => hl y (List.mem_cons_of_mem _ hy)) (by simp at hn ⊢; omega)
    refine ⟨w3, w4, w5, w6, ?_⟩
    rw [List.map_cons, forGo, st]
    simp only []
    rw [ih, List.map_cons, List.append_assoc]
    rfl
theorem run_law_text (Γ : Tab) : P_show_table (some (sgR Γ b_law_text 7 2 false false)) := fun K m sf hb hr hl => by
  refine clR (f := false) ?_
  obtain ⟨v3, v4, v5, v6, lp⟩ := lines_all Γ K (some (.arg, encM m)) m [] none none none none hb hl (by simp; omega)
  have j := join_bi (y := "; ") (ys := m.map (rowS K)) (Nat.le_trans (table_sum hb hr hl) (by decide))
  have ts : Txt.join "; " (m.map (rowS K)) = tableS K m := rfl
  rw [ts] at j
  rw [List.nil_append] at lp
  have cm : encM m = .list (m.map fun r => encR r) := rfl
  rw [cm] at lp ⊢
  generalize (m.map (rowS K)).map PyData.str = sd at lp j
  generalize (m.map fun r => encR r) = md at lp
  have lp : forGo (forF Γ (.nm 3) p_law_text_2) md [some (.shr, .int K.k), some (.arg, .list md), some (.own, .list []), none, none, none, none] = _ := lp
  unfold b_law_text
  simp [startE, lp, j, frBi]
def P_law_odd (o : Option Sig) : Prop := ∀ (c : Int), CellOk c → ∃ d : D, SpoD d ∧ isList d = false ∧ ∀ sf : Bool, clO o sf [.int c] = some d
theorem at_all {P : D → Prop} {xs : List D} (h : ∀ x ∈ xs, P x) {i : Int} (h0 : 0 ≤ i) (h1 : i < xs.length) : ∃ d, L2.atI xs i = some d ∧ P d := by
  obtain ⟨n, rfl⟩ := Int.eq_ofNat_of_zero_le h0
  have hn : n < xs.length := by omega
  refine ⟨xs[n], ?_, h _ (List.getElem_mem hn)⟩
  have := atI_at (fun d : D => d) xs hn
  rw [List.map_id'] at this
  exact this
def oddB : D → Bool
  | .none => true
  | .int _ => true
  | .str x => decide (x.length ≤ 900000)
  | _ => false
theorem oddB_ok {d : D} (h : oddB d = true) : SpoD d ∧ isList d = false := by
  cases d with
  | none => exact ⟨.inl rfl, rfl⟩
  | int i => exact ⟨.inr (.inl ⟨i, rfl⟩), rfl⟩
  | str x => exact ⟨.inr (.inr ⟨x, rfl, of_decide_eq_true h⟩), rfl⟩
  | _ => cases h
theorem run_law_odd (Γ : Tab) (h0 : P_law_mix (Γ "_law_mix")) : P_law_odd (some (sgR Γ b_law_odd 2 1 false false)) := fun c hc => by
  obtain ⟨m, m0, m1, em⟩ := h0 c 60 hc (by decide) (by decide)
  have f := fm_pos m (b := 32) (by decide)
  have ha := at_all (P := fun d => oddB d = true) (xs := [.str "", .str " ", .str ";", .str "; ", .str "1;", .str "1; ", .str "1;1", .str "1 ;1", .str "1 0; 1", .str " 1", .str "1 ", .str "1  0", .str "01", .str "-0", .str "-", .str "--1", .str "+1", .str "1_0", .str "1.0", .str "1/1", .str "2/4", .str "0/3", .str "1/0", .str "1/-2", .str "1/2/3", .str "1/", .str "/2", .str "1/02", .str "97", .str "1\n", .none, .int 7]) (by
    have : (([.str "", .str " ", .str ";", .str "; ", .str "1;", .str "1; ", .str "1;1", .str "1 ;1", .str "1 0; 1", .str " 1", .str "1 ", .str "1  0", .str "01", .str "-0", .str "-", .str "--1", .str "+1", .str "1_0", .str "1.0", .str "1/1", .str "2/4", .str "0/3", .str "1/0", .str "1/-2", .str "1/2/3", .str "1/", .str "/2", .str "1/02", .str "97", .str "1\n", .none, .int 7] : List D).all oddB) = true := by decide +kernel
    exact List.all_eq_true.mp this) f.1 f.2
  obtain ⟨d, ea, hd⟩ := ha
  obtain ⟨h1, h2⟩ := oddB_ok hd
  refine ⟨d, h1, h2, fun sf => clR (f := false) ?_⟩
  unfold b_law_odd
  simp [startE, em, ea]
def P_law_spoiled (o : Option Sig) : Prop := ∀ (x : Str) (c : Int), CellOk c → x.length ≤ 10000 → ∃ d : D, SpoD d ∧ isList d = false ∧ ∀ sf : Bool, clO o sf [.str x, .int c] = some d
theorem slice_to' (x : Str) {i : Int} (h : 0 ≤ i) : Txt.slice x none (some i) = ⟨((sgn x).take i.toNat).toArray⟩ := by
  have := SX.slice_to (a := sgn x) (i := i) h
  rw [SX.S_tl] at this
  exact this
theorem slice_from' (x : Str) {i : Int} (h : 0 ≤ i) : Txt.slice x (some i) none = ⟨((sgn x).drop i.toNat).toArray⟩ := by
  have := SX.slice_from (a := sgn x) (i := i) h
  rw [SX.S_tl] at this
  exact this
theorem atI_nat {α : Type} (xs : List α) {n : Nat} (h : n < xs.length) : L2.atI xs (n : Int) = some xs[n] := by
  unfold L2.atI L2.ixN
  rw [if_pos (by omega), if_pos (by simpa using h)]
  simp [h]
theorem run_law_spoiled (Γ : Tab) (h0 : P_law_mix (Γ "_law_mix")) (h1 : P_law_odd (Γ "_law_odd")) : P_law_spoiled (some (sgR Γ b_law_spoiled 6 2 false false)) := fun x c hc hx => by
  obtain ⟨m1, a1, b1, e1⟩ := h0 c 61 hc (by decide) (by decide)
  obtain ⟨m2, a2, b2, e2⟩ := h0 c 62 hc (by decide) (by decide)
  obtain ⟨m3, a3, b3, e3⟩ := h0 c 63 hc (by decide) (by decide)
  obtain ⟨od, o1, o2, eo⟩ := h1 c hc
  have xl : x.length ≤ 1000000 := by omega
  have hn0 : ¬ (x.length : Int) + 1 = 0 := by omega
  have f2 := fm_pos m2 (b := (x.length : Int) + 1) (by omega)
  generalize hat : m2.fmod ((x.length : Int) + 1) = at' at f2
  have sl : ("   ;;//--0123456789x\n\t" : Str).length = 22 := by decide +kernel
  have sll : (sgn ("   ;;//--0123456789x\n\t" : Str)).length = 22 := by rw [sgn_len]; exact sl
  have f3 := fm_pos m3 (b := 22) (by decide)
  obtain ⟨n3, en3⟩ := Int.eq_ofNat_of_zero_le f3.1
  have hix : ∃ s : Str, s.length = 1 ∧ ixD (.str ("   ;;//--0123456789x\n\t" : Str)) (.int (m3.fmod 22)) = some (.str s) := by
    have hl : n3 < (sgn ("   ;;//--0123456789x\n\t" : Str)).length := by rw [sll]; omega
    refine ⟨⟨#[(sgn ("   ;;//--0123456789x\n\t" : Str))[n3]]⟩, rfl, ?_⟩
    have l6 : ("   ;;//--0123456789x\n\t" : Str).length ≤ lim := by rw [sl]; unfold lim; decide
    rw [en3]
    simp only [ixD, l6, if_true]
    have : L2.atI (sgn ("   ;;//--0123456789x\n\t" : Str)) (n3 : Int) = some (sgn ("   ;;//--0123456789x\n\t" : Str))[n3] := atI_nat _ hl
    have this : L2.atI ("   ;;//--0123456789x\n\t" : Str).cps.toList (n3 : Int) = _ := this
    rw [this]
    rfl
  obtain ⟨s, s1, ei⟩ := hix
  have lt : (Txt.slice x none (some at')).length ≤ x.length := by
    rw [slice_to' x f2.1]
    show ((sgn x).take at'.toNat).toArray.size ≤ _
    rw [List.size_toArray, List.length_take, sgn_len]
    omega
  have lf : ∀ i : Int, 0 ≤ i → (Txt.slice x (some i) none).length ≤ x.length := fun i hi => by
    rw [slice_from' x hi]
    show ((sgn x).drop i.toNat).toArray.size ≤ _
    rw [List.size_toArray, List.length_drop, sgn_len]
    omega
  have d1 : slD (.str x) none (some at') = some (.str (Txt.slice x none (some at'))) := by simp only [slD, lim_eq, if_pos xl]
  have d2 : ∀ i : Int, slD (.str x) (some i) none = some (.str (Txt.slice x (some i) none)) := fun i => by simp only [slD, lim_eq, if_pos xl]
  have l0 := lf at' f2.1
  have l1 := lf (at' + 1) (by omega)
  have d3 := d2 at'
  have d4 := d2 (at' + 1)
  generalize Txt.slice x none (some at') = p at lt d1
  generalize Txt.slice x (some at') none = q at l0 d3
  generalize Txt.slice x (some (at' + 1)) none = q1 at l1 d4
  have bin : ∀ a b : Str, a.length + b.length ≤ 900000 → binD .Add (.str a) (.str b) = some (.str (a ++ b)) := fun a b h => by
    have : a.length + b.length ≤ lim := by unfold lim; omega
    simp only [binD, this, if_true]
  have ba := bin p s (by omega)
  have bb := bin (p ++ s) q (by rw [str_app_len]; omega)
  have bc := bin p q1 (by omega)
  have bd := bin (p ++ s) q1 (by rw [str_app_len]; omega)
  have st : ∀ z : Str, z.length ≤ 900000 → SpoD (.str z) ∧ isList (.str z) = false := fun z h => ⟨.inr (.inr ⟨z, rfl, h⟩), rfl⟩
  have f1 := fm_pos m1 (b := 8) (by decide)
  generalize hw : m1.fmod 8 = w at f1
  by_cases w0 : w = 0
  · obtain ⟨z1, z2⟩ := st (p ++ s ++ q) (by rw [str_app_len, str_app_len]; omega)
    refine ⟨_, z1, z2, fun sf => clR (f := true) ?_⟩
    unfold b_law_spoiled
    generalize ("   ;;//--0123456789x\n\t" : Str) = sg at ei sl
    simp [startE, e1, e2, e3, hat, hw, w0, xl, hn0, sl, ei, d1, d3, ba, bb, partD]
  · by_cases w1 : w = 1
    · obtain ⟨z1, z2⟩ := st (p ++ q1) (by rw [str_app_len]; omega)
      refine ⟨_, z1, z2, fun sf => clR (f := true) ?_⟩
      unfold b_law_spoiled
      generalize ("   ;;//--0123456789x\n\t" : Str) = sg at ei sl
      simp [startE, e1, e2, e3, hat, hw, w1, xl, hn0, sl, ei, d1, d4, bc, partD]
    · by_cases w5 : w < 5
      · obtain ⟨z1, z2⟩ := st (p ++ s ++ q1) (by rw [str_app_len, str_app_len]; omega)
        refine ⟨_, z1, z2, fun sf => clR (f := true) ?_⟩
        unfold b_law_spoiled
        generalize ("   ;;//--0123456789x\n\t" : Str) = sg at ei sl
        simp [startE, e1, e2, e3, hat, hw, w0, w1, w5, xl, hn0, sl, ei, d1, d4, ba, bd, partD]
      · by_cases w6 : w = 5
        · refine ⟨od, o1, o2, fun sf => clR (f := frO (Γ "_law_odd")) ?_⟩
          unfold b_law_spoiled
          generalize ("   ;;//--0123456789x\n\t" : Str) = sg at ei sl
          simp [startE, e1, e2, e3, hat, hw, w6, xl, hn0, sl, ei, eo, partD]
        · obtain ⟨z1, z2⟩ := st x (by omega)
          refine ⟨_, z1, z2, fun sf => clR (f := false) ?_⟩
          unfold b_law_spoiled
          generalize ("   ;;//--0123456789x\n\t" : Str) = sg at ei sl
          simp [startE, e1, e2, e3, hat, hw, w0, w1, w5, w6, xl, hn0, sl, ei, partD]
end VI
set_option Elab.async false
set_option linter.all false
set_option maxRecDepth 100000
set_option exponentiation.threshold 2000
set_option maxHeartbeats 4000000
namespace VI
open PySem
def p_k91_law_1 : XSs :=
  (.cons (.asg (.nm 2) (.call "_law_kind" (.cons (.call "_law_mix" (.cons (.var 1) (.cons (.cst (.int 1)) .nil))) .nil)))
  (.cons (.asg (.nm 3) (.call "_law_table" (.cons (.var 2) (.cons (.var 1) .nil))))
  (.cons (.asg (.nm 4) (.call "_law_text" (.cons (.var 2) (.cons (.var 3) .nil))))
  (.cons (.ife (.cmp .Lt (.bi .len (.cons (.ix (.var 3) (.cst (.int 0))) .nil)) (.cst (.int 13))) (.cons (.asg (.nm 5) (.call "show_table" (.cons (.var 2) (.cons (.var 3) .nil))))
  (.cons (.ife (.or (.not (.isi (.var 5) .str)) (.or (.cmp .NotEq (.var 5) (.var 4)) (.cmp .NotEq (.var 3) (.call "_law_table" (.cons (.var 2) (.cons (.var 1) .nil)))))) (.cons (.ret (.cst (.bool false)))
  .nil) .nil)
  .nil)) .nil)
  (.cons (.ife (.or (.not (.call "_law_right" (.cons (.var 2) (.cons (.var 4) .nil)))) (.not (.call "_law_right" (.cons (.var 2) (.cons (.call "_law_spoiled" (.cons (.var 4) (.cons (.var 1) .nil))) .nil))))) (.cons (.ret (.cst (.bool false)))
  .nil) .nil)
  .nil)))))
def b_k91_law : LawB :=
  .walk (.nm 1) 30 p_k91_law_1 (.cons (.ret (.cst (.bool true)))
  .nil)
open Num
open scoped Num
theorem cells91 {ns : List Int} (h : Asked ns) {n : Nat} : ∀ c ∈ cellsOf ns n, CellOk c := fun c hc => by
  unfold cellsOf at hc
  rcases List.mem_append.mp hc with hc | hc
  · have := h.2 c (List.mem_of_mem_take hc)
    unfold Builtin.Int.intBits at this
    unfold CellOk
    split at this
    · rename_i hz
      have : c = 0 := by simpa using hz
      rw [this]
      decide
    · omega
  · rw [List.mem_singleton] at hc
    rw [hc]
    unfold CellOk
    decide
section
variable {Γ : Tab} {Φ : Fns}
theorem main_k91 (T : TabOk Γ Φ) (h1 : P_law_kind (Γ "_law_kind")) (h2 : P_law_mix (Γ "_law_mix")) (h3 : P_law_table91 (Γ "_law_table")) (h4 : P_show_table (Γ "_law_text")) (h5 : P_show_table (Γ "show_table")) (h6 : P_law_right91 (Γ "_law_right")) (h7 : P_law_spoiled (Γ "_law_spoiled")) : ∀ ns : List Int, Asked ns → ∃ A, runLaw Φ 6 b_k91_law ns = some (.rt (.bl true) A) := by
  have step : ∀ c, CellOk c → ∀ u1 u2 u3 u4 u5, ∃ v2 v3 v4 v5, forF Γ (.nm 1) p_k91_law_1 (.int c) [none, u1, u2, u3, u4, u5] = some (.nx [none, some (.shr, .int c), v2, v3, v4, v5]) := fun c hc u1 u2 u3 u4 u5 => by
    obtain ⟨m1, a1, b1, e1⟩ := h2 c 1 hc (by decide) (by decide)
    obtain ⟨K, eK⟩ := h1 m1
    obtain ⟨m, ne, ml, rl, bd, em⟩ := h3 K c hc
    have e4 := fun sf => h4 K m sf bd ml rl
    have e5 := fun sf => h5 K m sf bd ml rl
    have tl := tableS_len bd ml rl
    have e6 := fun sf => h6 K (.str (tableS K m)) sf (.inr (.inr ⟨_, rfl, by omega⟩))
    obtain ⟨d, d1, d2, e7⟩ := h7 (tableS K m) c hc (by omega)
    have e8 := fun sf => h6 K d sf d1
    have c9 := cmpN_M m m
    simp only [decide_true, Bool.not_true] at c9
    obtain ⟨r0, rest, rfl⟩ : ∃ r0 rest, m = r0 :: rest := by
      cases m with
      | nil => exact (ne rfl).elim
      | cons r0 rest => exact ⟨r0, rest, rfl⟩
    have cm : encM (r0 :: rest) = .list (encR r0 :: rest.map fun r => encR r) := rfl
    have i0 : L2.atI (encR r0 :: rest.map fun r => encR r) 0 = some (encR r0) := by simp
    generalize tableS K (r0 :: rest) = x at e4 e5 e6 e7
    rw [cm] at em e4 e5 c9
    generalize (encR r0 :: rest.map fun r => encR r) = md at em e4 e5 c9 i0
    by_cases h13 : r0.length < 13
    · have l13 : (r0.length : Int) < 13 := by omega
      cases hf : frO (Γ "_law_table")
      · refine ⟨some (.shr, .int K.k), some (.shr, .list md), some (.shr, .str x), some (.shr, .str x), ?_⟩
        unfold forF p_k91_law_1
        simp [e1, eK, em, e4, e5, e6, e7, e8, c9, i0, l13, h13, hf, d2]
      · refine ⟨some (.shr, .int K.k), some (.own, .list md), some (.shr, .str x), some (.shr, .str x), ?_⟩
        unfold forF p_k91_law_1
        simp [e1, eK, em, e4, e5, e6, e7, e8, c9, i0, l13, h13, hf, d2]
    · have l13 : ¬ (r0.length : Int) < 13 := by omega
      cases hf : frO (Γ "_law_table")
      · refine ⟨some (.shr, .int K.k), some (.shr, .list md), some (.shr, .str x), u5, ?_⟩
        unfold forF p_k91_law_1
        simp [e1, eK, em, e4, e6, e7, e8, i0, l13, h13, hf, d2]
      · refine ⟨some (.shr, .int K.k), some (.own, .list md), some (.shr, .str x), u5, ?_⟩
        unfold forF p_k91_law_1
        simp [e1, eK, em, e4, e6, e7, e8, i0, l13, h13, hf, d2]
  refine lawV T fun ns hns => ?_
  obtain ⟨ρ', q1, q2⟩ := forGo_inv (f := forF Γ (.nm 1) p_k91_law_1) (fun ρ => ∃ u1 u2 u3 u4 u5, ρ = [none, u1, u2, u3, u4, u5]) ((cellsOf ns 30).map PyData.int) (List.replicate 6 none) (fun d hd ρ hρ => by
    obtain ⟨c, hc, rfl⟩ := List.mem_map.mp hd
    obtain ⟨u1, u2, u3, u4, u5, rfl⟩ := hρ
    obtain ⟨v2, v3, v4, v5, e⟩ := step c (cells91 hns c hc) u1 u2 u3 u4 u5
    rw [e]
    exact ⟨_, _, _, _, _, rfl⟩) ⟨none, none, none, none, none, rfl⟩
  refine ⟨false, ?_⟩
  unfold b_k91_law
  simp only [runLawV, q1]
  simp
end
end VI
set_option Elab.async false
set_option linter.all false
set_option maxRecDepth 100000
set_option exponentiation.threshold 2000
set_option maxHeartbeats 4000000
namespace VI.K91
open PySem PySem.Spec PyProof.Rows L2
noncomputable def l0 : List (Str × Fun) := []
noncomputable def t0 : List (Str × Sig) := []
theorem T0 : TabOk (tabOf t0) (fnsOf l0) := .nil
noncomputable def m0 : List (Str × Fun) := []
noncomputable def u0 : List (Str × Sig) := []
theorem U0 : TabOk (tabOf u0) (fnsOf m0) := .nil
noncomputable def f7 : Fun := runH (fnsOf l0) 2 2 b_divisor
noncomputable def l7 : List (Str × Fun) := ("divisor", f7) :: l0
noncomputable def m7 : List (Str × Fun) := ("divisor", f7) :: m0
noncomputable def g7 : Sig := sgR (tabOf t0) b_divisor 2 2 false false
noncomputable def t7 : List (Str × Sig) := ("divisor", g7) :: t0
theorem T7 : TabOk (tabOf t7) (fnsOf l7) := T0.step (fvR T0)
noncomputable def u7 : List (Str × Sig) := ("divisor", g7) :: u0
theorem U7 : TabOk (tabOf u7) (fnsOf m7) := U0.step (fvR T0)
theorem c7 : P_divisor (some g7) := run_divisor (tabOf t0) 
noncomputable def f8 : Fun := runH (fnsOf l7) 3 2 b_lowest
noncomputable def l8 : List (Str × Fun) := ("lowest", f8) :: l7
noncomputable def m8 : List (Str × Fun) := ("lowest", f8) :: m7
noncomputable def g8 : Sig := sgR (tabOf t7) b_lowest 3 2 false false
noncomputable def t8 : List (Str × Sig) := ("lowest", g8) :: t7
theorem T8 : TabOk (tabOf t8) (fnsOf l8) := T7.step (fvR T7)
noncomputable def u8 : List (Str × Sig) := ("lowest", g8) :: u7
theorem U8 : TabOk (tabOf u8) (fnsOf m8) := U7.step (fvR T7)
theorem c8 : P_lowest (some g8) := run_lowest (tabOf t7) (by first | exact c7 | exact c7.weak | exact c7.weak.weak | exact c7.1 | exact c7.2)
noncomputable def f13 : Fun := runH (fnsOf m8) 5 1 b_read_figures
noncomputable def m13 : List (Str × Fun) := ("read_figures", f13) :: m8
noncomputable def g13 : Sig := sgR (tabOf u8) b_read_figures 5 1 false false
noncomputable def u13 : List (Str × Sig) := ("read_figures", g13) :: u8
theorem U13 : TabOk (tabOf u13) (fnsOf m13) := U8.step (fvR U8)
theorem c13 : P_figs (some g13) := run_read_figures (tabOf u8) 
noncomputable def f14 : Fun := runH (fnsOf m13) 5 1 b_read_whole
noncomputable def m14 : List (Str × Fun) := ("read_whole", f14) :: m13
noncomputable def g14 : Sig := sgR (tabOf u13) b_read_whole 5 1 false false
noncomputable def u14 : List (Str × Sig) := ("read_whole", g14) :: u13
theorem U14 : TabOk (tabOf u14) (fnsOf m14) := U13.step (fvR U13)
theorem c14 : P_whole (some g14) := run_read_whole (tabOf u13) (by first | exact c13 | exact c13.weak | exact c13.weak.weak | exact c13.1 | exact c13.2)
noncomputable def f15 : Fun := runH (fnsOf m14) 8 1 b_read_fraction
noncomputable def m15 : List (Str × Fun) := ("read_fraction", f15) :: m14
noncomputable def g15 : Sig := sgR (tabOf u14) b_read_fraction 8 1 false false
noncomputable def u15 : List (Str × Sig) := ("read_fraction", g15) :: u14
theorem U15 : TabOk (tabOf u15) (fnsOf m15) := U14.step (fvR U14)
theorem c15 : P_read_fraction (some g15) := run_read_fraction (tabOf u14) (by first | exact c13 | exact c13.weak | exact c13.weak.weak | exact c13.1 | exact c13.2) (by first | exact c14 | exact c14.weak | exact c14.weak.weak | exact c14.1 | exact c14.2) (by first | exact c8 | exact c8.weak | exact c8.weak.weak | exact c8.1 | exact c8.2)
noncomputable def f16 : Fun := runH (fnsOf m15) 6 2 b_read_number
noncomputable def m16 : List (Str × Fun) := ("read_number", f16) :: m15
noncomputable def g16 : Sig := sgR (tabOf u15) b_read_number 6 2 false false
noncomputable def u16 : List (Str × Sig) := ("read_number", g16) :: u15
theorem U16 : TabOk (tabOf u16) (fnsOf m16) := U15.step (fvR U15)
theorem c16 : P_read_number (some g16) := run_read_number (tabOf u15) (by first | exact c13 | exact c13.weak | exact c13.weak.weak | exact c13.1 | exact c13.2) (by first | exact c15 | exact c15.weak | exact c15.weak.weak | exact c15.1 | exact c15.2)
noncomputable def f17 : Fun := runH (fnsOf m16) 9 2 b_read_table
noncomputable def m17 : List (Str × Fun) := ("read_table", f17) :: m16
noncomputable def g17 : Sig := sgR (tabOf u16) b_read_table 9 2 false false
noncomputable def u17 : List (Str × Sig) := ("read_table", g17) :: u16
theorem U17 : TabOk (tabOf u17) (fnsOf m17) := U16.step (fvR U16)
theorem c17 : P_read2 (some g17) := run_read_table (tabOf u16) (by first | exact c16 | exact c16.weak | exact c16.weak.weak | exact c16.1 | exact c16.2)
noncomputable def f18 : Fun := runH (fnsOf l8) 2 2 b_show_number
noncomputable def l18 : List (Str × Fun) := ("show_number", f18) :: l8
noncomputable def m18 : List (Str × Fun) := ("show_number", f18) :: m17
noncomputable def g18 : Sig := sgR (tabOf t8) b_show_number 2 2 false false
noncomputable def t18 : List (Str × Sig) := ("show_number", g18) :: t8
theorem T18 : TabOk (tabOf t18) (fnsOf l18) := T8.step (fvR T8)
noncomputable def u18 : List (Str × Sig) := ("show_number", g18) :: u17
theorem U18 : TabOk (tabOf u18) (fnsOf m18) := U17.step (fvR T8)
theorem c18 : P_show_number (some g18) := run_show_number (tabOf t8) 
noncomputable def f19 : Fun := runH (fnsOf l18) 4 2 b_show_table
noncomputable def l19 : List (Str × Fun) := ("show_table", f19) :: l18
noncomputable def m19 : List (Str × Fun) := ("show_table", f19) :: m18
noncomputable def g19 : Sig := sgR (tabOf t18) b_show_table 4 2 false false
noncomputable def t19 : List (Str × Sig) := ("show_table", g19) :: t18
theorem T19 : TabOk (tabOf t19) (fnsOf l19) := T18.step (fvR T18)
noncomputable def u19 : List (Str × Sig) := ("show_table", g19) :: u18
theorem U19 : TabOk (tabOf u19) (fnsOf m19) := U18.step (fvR T18)
theorem c19 : P_show_table (some g19) := run_show_table (tabOf t18) (by first | exact c18 | exact c18.weak | exact c18.weak.weak | exact c18.1 | exact c18.2)
noncomputable def f21 : Fun := runH (fnsOf l19) 3 2 b_law_mix
noncomputable def l21 : List (Str × Fun) := ("_law_mix", f21) :: l19
noncomputable def m21 : List (Str × Fun) := ("_law_mix", f21) :: m19
noncomputable def g21 : Sig := sgR (tabOf t19) b_law_mix 3 2 false false
noncomputable def t21 : List (Str × Sig) := ("_law_mix", g21) :: t19
theorem T21 : TabOk (tabOf t21) (fnsOf l21) := T19.step (fvR T19)
noncomputable def u21 : List (Str × Sig) := ("_law_mix", g21) :: u19
theorem U21 : TabOk (tabOf u21) (fnsOf m21) := U19.step (fvR T19)
theorem c21 : P_law_mix (some g21) := run_law_mix (tabOf t19) 
noncomputable def f22 : Fun := runH (fnsOf l21) 2 2 b_law_divisor
noncomputable def l22 : List (Str × Fun) := ("_law_divisor", f22) :: l21
noncomputable def m22 : List (Str × Fun) := ("_law_divisor", f22) :: m21
noncomputable def g22 : Sig := sgR (tabOf t21) b_law_divisor 2 2 false false
noncomputable def t22 : List (Str × Sig) := ("_law_divisor", g22) :: t21
theorem T22 : TabOk (tabOf t22) (fnsOf l22) := T21.step (fvR T21)
noncomputable def u22 : List (Str × Sig) := ("_law_divisor", g22) :: u21
theorem U22 : TabOk (tabOf u22) (fnsOf m22) := U21.step (fvR T21)
theorem c22 : P_divisor (some g22) := run_law_divisor (tabOf t21) 
noncomputable def f23 : Fun := runH (fnsOf l22) 2 1 b_law_is_prime
noncomputable def l23 : List (Str × Fun) := ("_law_is_prime", f23) :: l22
noncomputable def m23 : List (Str × Fun) := ("_law_is_prime", f23) :: m22
noncomputable def g23 : Sig := sgR (tabOf t22) b_law_is_prime 2 1 false false
noncomputable def t23 : List (Str × Sig) := ("_law_is_prime", g23) :: t22
theorem T23 : TabOk (tabOf t23) (fnsOf l23) := T22.step (fvR T22)
noncomputable def u23 : List (Str × Sig) := ("_law_is_prime", g23) :: u22
theorem U23 : TabOk (tabOf u23) (fnsOf m23) := U22.step (fvR T22)
theorem c23 : P_law_is_prime (some g23) := run_law_is_prime (tabOf t22) 
noncomputable def f24 : Fun := runH (fnsOf l23) 2 1 b_law_kind
noncomputable def l24 : List (Str × Fun) := ("_law_kind", f24) :: l23
noncomputable def m24 : List (Str × Fun) := ("_law_kind", f24) :: m23
noncomputable def g24 : Sig := sgR (tabOf t23) b_law_kind 2 1 false false
noncomputable def t24 : List (Str × Sig) := ("_law_kind", g24) :: t23
theorem T24 : TabOk (tabOf t24) (fnsOf l24) := T23.step (fvR T23)
noncomputable def u24 : List (Str × Sig) := ("_law_kind", g24) :: u23
theorem U24 : TabOk (tabOf u24) (fnsOf m24) := U23.step (fvR T23)
theorem c24 : P_law_kind (some g24) := run_law_kind (tabOf t23) (by first | exact c23 | exact c23.weak | exact c23.weak.weak | exact c23.1 | exact c23.2)
noncomputable def f25 : Fun := runH (fnsOf l24) 7 3 b_law_number_v9
noncomputable def l25 : List (Str × Fun) := ("_law_number", f25) :: l24
noncomputable def m25 : List (Str × Fun) := ("_law_number", f25) :: m24
noncomputable def g25 : Sig := sgR (tabOf t24) b_law_number_v9 7 3 false false
noncomputable def t25 : List (Str × Sig) := ("_law_number", g25) :: t24
theorem T25 : TabOk (tabOf t25) (fnsOf l25) := T24.step (fvR T24)
noncomputable def u25 : List (Str × Sig) := ("_law_number", g25) :: u24
theorem U25 : TabOk (tabOf u25) (fnsOf m25) := U24.step (fvR T24)
theorem c25 : P_law_number91 (some g25) := run_law_number_v9 (tabOf t24) (by first | exact c21 | exact c21.weak | exact c21.weak.weak | exact c21.1 | exact c21.2) (by first | exact c22 | exact c22.weak | exact c22.weak.weak | exact c22.1 | exact c22.2)
noncomputable def f26 : Fun := runH (fnsOf l25) 6 2 b_law_table_v4
noncomputable def l26 : List (Str × Fun) := ("_law_table", f26) :: l25
noncomputable def m26 : List (Str × Fun) := ("_law_table", f26) :: m25
noncomputable def g26 : Sig := sgR (tabOf t25) b_law_table_v4 6 2 false false
noncomputable def t26 : List (Str × Sig) := ("_law_table", g26) :: t25
theorem T26 : TabOk (tabOf t26) (fnsOf l26) := T25.step (fvR T25)
noncomputable def u26 : List (Str × Sig) := ("_law_table", g26) :: u25
theorem U26 : TabOk (tabOf u26) (fnsOf m26) := U25.step (fvR T25)
theorem c26 : P_law_table91 (some g26) := run_law_table_v4 (tabOf t25) (by first | exact c21 | exact c21.weak | exact c21.weak.weak | exact c21.1 | exact c21.2) (by first | exact c25 | exact c25.weak | exact c25.weak.weak | exact c25.1 | exact c25.2)
noncomputable def f27 : Fun := runH (fnsOf l26) 7 2 b_law_text
noncomputable def l27 : List (Str × Fun) := ("_law_text", f27) :: l26
noncomputable def m27 : List (Str × Fun) := ("_law_text", f27) :: m26
noncomputable def g27 : Sig := sgR (tabOf t26) b_law_text 7 2 false false
noncomputable def t27 : List (Str × Sig) := ("_law_text", g27) :: t26
theorem T27 : TabOk (tabOf t27) (fnsOf l27) := T26.step (fvR T26)
noncomputable def u27 : List (Str × Sig) := ("_law_text", g27) :: u26
theorem U27 : TabOk (tabOf u27) (fnsOf m27) := U26.step (fvR T26)
theorem c27 : P_show_table (some g27) := run_law_text (tabOf t26) 
noncomputable def f28 : Fun := runH (fnsOf l27) 2 1 b_law_odd
noncomputable def l28 : List (Str × Fun) := ("_law_odd", f28) :: l27
noncomputable def m28 : List (Str × Fun) := ("_law_odd", f28) :: m27
noncomputable def g28 : Sig := sgR (tabOf t27) b_law_odd 2 1 false false
noncomputable def t28 : List (Str × Sig) := ("_law_odd", g28) :: t27
theorem T28 : TabOk (tabOf t28) (fnsOf l28) := T27.step (fvR T27)
noncomputable def u28 : List (Str × Sig) := ("_law_odd", g28) :: u27
theorem U28 : TabOk (tabOf u28) (fnsOf m28) := U27.step (fvR T27)
theorem c28 : P_law_odd (some g28) := run_law_odd (tabOf t27) (by first | exact c21 | exact c21.weak | exact c21.weak.weak | exact c21.1 | exact c21.2)
noncomputable def f29 : Fun := runH (fnsOf l28) 6 2 b_law_spoiled
noncomputable def l29 : List (Str × Fun) := ("_law_spoiled", f29) :: l28
noncomputable def m29 : List (Str × Fun) := ("_law_spoiled", f29) :: m28
noncomputable def g29 : Sig := sgR (tabOf t28) b_law_spoiled 6 2 false false
noncomputable def t29 : List (Str × Sig) := ("_law_spoiled", g29) :: t28
theorem T29 : TabOk (tabOf t29) (fnsOf l29) := T28.step (fvR T28)
noncomputable def u29 : List (Str × Sig) := ("_law_spoiled", g29) :: u28
theorem U29 : TabOk (tabOf u29) (fnsOf m29) := U28.step (fvR T28)
theorem c29 : P_law_spoiled (some g29) := run_law_spoiled (tabOf t28) (by first | exact c21 | exact c21.weak | exact c21.weak.weak | exact c21.1 | exact c21.2) (by first | exact c28 | exact c28.weak | exact c28.weak.weak | exact c28.1 | exact c28.2)
noncomputable def f30 : Fun := runH (fnsOf l29) 2 1 b_law_figures
noncomputable def l30 : List (Str × Fun) := ("_law_figures", f30) :: l29
noncomputable def m30 : List (Str × Fun) := ("_law_figures", f30) :: m29
noncomputable def g30 : Sig := sgR (tabOf t29) b_law_figures 2 1 false false
noncomputable def t30 : List (Str × Sig) := ("_law_figures", g30) :: t29
theorem T30 : TabOk (tabOf t30) (fnsOf l30) := T29.step (fvR T29)
noncomputable def u30 : List (Str × Sig) := ("_law_figures", g30) :: u29
theorem U30 : TabOk (tabOf u30) (fnsOf m30) := U29.step (fvR T29)
theorem c30 : P_figs (some g30) := run_law_figures (tabOf t29) 
noncomputable def f31 : Fun := runH (fnsOf l30) 7 2 b_law_told_number
noncomputable def l31 : List (Str × Fun) := ("_law_told_number", f31) :: l30
noncomputable def m31 : List (Str × Fun) := ("_law_told_number", f31) :: m30
noncomputable def g31 : Sig := sgR (tabOf t30) b_law_told_number 7 2 false false
noncomputable def t31 : List (Str × Sig) := ("_law_told_number", g31) :: t30
theorem T31 : TabOk (tabOf t31) (fnsOf l31) := T30.step (fvR T30)
noncomputable def u31 : List (Str × Sig) := ("_law_told_number", g31) :: u30
theorem U31 : TabOk (tabOf u31) (fnsOf m31) := U30.step (fvR T30)
theorem c31 : P_read_number (some g31) := run_law_told_number (tabOf t30) (by first | exact c30 | exact c30.weak | exact c30.weak.weak | exact c30.1 | exact c30.2) (by first | exact c22 | exact c22.weak | exact c22.weak.weak | exact c22.1 | exact c22.2)
noncomputable def f32 : Fun := runH (fnsOf l31) 6 2 b_law_told
noncomputable def l32 : List (Str × Fun) := ("_law_told", f32) :: l31
noncomputable def m32 : List (Str × Fun) := ("_law_told", f32) :: m31
noncomputable def g32 : Sig := sgR (tabOf t31) b_law_told 6 2 false false
noncomputable def t32 : List (Str × Sig) := ("_law_told", g32) :: t31
theorem T32 : TabOk (tabOf t32) (fnsOf l32) := T31.step (fvR T31)
noncomputable def u32 : List (Str × Sig) := ("_law_told", g32) :: u31
theorem U32 : TabOk (tabOf u32) (fnsOf m32) := U31.step (fvR T31)
theorem c32 : P_read2 (some g32) := run_law_told (tabOf t31) (by first | exact c31 | exact c31.weak | exact c31.weak.weak | exact c31.1 | exact c31.2)
noncomputable def f33 : Fun := runH (fnsOf l32) 5 3 b_law_is_v3
noncomputable def l33 : List (Str × Fun) := ("_law_is", f33) :: l32
noncomputable def m33 : List (Str × Fun) := ("_law_is", f33) :: m32
noncomputable def g33 : Sig := sgR (tabOf t32) b_law_is_v3 5 3 false false
noncomputable def t33 : List (Str × Sig) := ("_law_is", g33) :: t32
theorem T33 : TabOk (tabOf t33) (fnsOf l33) := T32.step (fvR T32)
noncomputable def u33 : List (Str × Sig) := ("_law_is", g33) :: u32
theorem U33 : TabOk (tabOf u33) (fnsOf m33) := U32.step (fvR T32)
theorem c33 : P_law_is91 (some g33) := run_law_is_v3 (tabOf t32) 
noncomputable def f34 : Fun := runH (fnsOf m33) 6 2 b_law_right91
noncomputable def m34 : List (Str × Fun) := ("_law_right", f34) :: m33
noncomputable def g34 : Sig := sgR (tabOf u33) b_law_right91 6 2 false false
noncomputable def u34 : List (Str × Sig) := ("_law_right", g34) :: u33
theorem U34 : TabOk (tabOf u34) (fnsOf m34) := U33.step (fvR U33)
noncomputable def l34 : List (Str × Fun) := ("_law_right", f34) :: l33
noncomputable def t34 : List (Str × Sig) := ("_law_right", g34) :: t33
theorem T34 : TabOk (tabOf t34) (fnsOf l34) := T33.step (fvR U33)
theorem c34 : P_law_right91 (some g34) := run_law_right91 (tabOf u33) (by first | exact c32 | exact c32.weak | exact c32.weak.weak | exact c32.1 | exact c32.2) (by first | exact c32 | exact c32.weak | exact c32.weak.weak | exact c32.1 | exact c32.2) (by first | exact c17 | exact c17.weak | exact c17.weak.weak | exact c17.1 | exact c17.2) (by first | exact c17 | exact c17.weak | exact c17.weak.weak | exact c17.1 | exact c17.2) (by first | exact c33 | exact c33.weak | exact c33.weak.weak | exact c33.1 | exact c33.2)
theorem hmain : ∀ ns : List Int, Asked ns → ∃ A, runLaw (fnsOf l34) 6 b_k91_law ns = some (.rt (.bl true) A) := main_k91 T34 (by first | exact c24 | exact c24.weak | exact c24.weak.weak | exact c24.1 | exact c24.2) (by first | exact c21 | exact c21.weak | exact c21.weak.weak | exact c21.1 | exact c21.2) (by first | exact c26 | exact c26.weak | exact c26.weak.weak | exact c26.1 | exact c26.2) (by first | exact c27 | exact c27.weak | exact c27.weak.weak | exact c27.1 | exact c27.2) (by first | exact c19 | exact c19.weak | exact c19.weak.weak | exact c19.1 | exact c19.2) (by first | exact c34 | exact c34.weak | exact c34.weak.weak | exact c34.1 | exact c34.2) (by first | exact c29 | exact c29.weak | exact c29.weak.weak | exact c29.1 | exact c29.2)
def gcL : List (Str × D) := [("__name__", .str "law_steermill_k91_tables_as_texts"), ("FIGURES", .str "0123456789"), ("LONGEST", .int 20), ("MOST", .int 12)]
theorem sc7 : FnScope ["one", "other"] ["one", "other"] (defScope s7) := ⟨rfl, rfl, rfl, by decide +kernel, rfl, by decide +kernel, by decide +kernel⟩
theorem tr7 : trSs 200 ⟨["one", "other"], defScope s7, fun _ => true, []⟩ (defBody s7) = some b_divisor := by kernel_rfl
theorem sc8 : FnScope ["top", "bottom", "by"] ["top", "bottom"] (defScope s8) := ⟨rfl, rfl, rfl, by decide +kernel, rfl, by decide +kernel, by decide +kernel⟩
theorem tr8 : trSs 200 ⟨["top", "bottom", "by"], defScope s8, fun _ => true, []⟩ (defBody s8) = some b_lowest := by kernel_rfl
theorem sc13 : FnScope ["word", "sign", "#0", "#1", "#2"] ["word"] (defScope s13) := ⟨rfl, rfl, rfl, by decide +kernel, rfl, by decide +kernel, by decide +kernel⟩
theorem tr13 : trXs ⟨nsB [], "NoText", 2, 3, 4⟩ 200 ⟨["word", "sign", "#0", "#1", "#2"], defScope s13, fun _ => true, gcL⟩ (defBody s13) = some x_read_figures := by kernel_rfl
theorem sc14 : FnScope ["word", "whole", "#0", "#1", "#2"] ["word"] (defScope s14) := ⟨rfl, rfl, rfl, by decide +kernel, rfl, by decide +kernel, by decide +kernel⟩
theorem tr14 : trXs ⟨nsB ["read_figures"], "NoText", 2, 3, 4⟩ 200 ⟨["word", "whole", "#0", "#1", "#2"], defScope s14, fun _ => true, gcL⟩ (defBody s14) = some x_read_whole := by kernel_rfl
theorem sc15 : FnScope ["word", "told", "top", "stroke", "bottom", "#0", "#1", "#2"] ["word"] (defScope s15) := ⟨rfl, rfl, rfl, by decide +kernel, rfl, by decide +kernel, by decide +kernel⟩
theorem tr15 : trXs ⟨nsB ["read_whole", "read_figures"], "NoText", 5, 6, 7⟩ 200 ⟨["word", "told", "top", "stroke", "bottom", "#0", "#1", "#2"], defScope s15, fun _ => true, gcL⟩ (defBody s15) = some x_read_fraction := by kernel_rfl
theorem sc16 : FnScope ["kind", "word", "rest", "#0", "#1", "#2"] ["kind", "word"] (defScope s16) := ⟨rfl, rfl, rfl, by decide +kernel, rfl, by decide +kernel, by decide +kernel⟩
theorem tr16 : trXs ⟨nsB ["read_fraction", "read_whole", "read_figures"], "NoText", 3, 4, 5⟩ 200 ⟨["kind", "word", "rest", "#0", "#1", "#2"], defScope s16, fun _ => true, gcL⟩ (defBody s16) = some x_read_number := by kernel_rfl
theorem sc17 : FnScope ["kind", "text", "table", "part", "row", "word", "#0", "#1", "#2"] ["kind", "text"] (defScope s17) := ⟨rfl, rfl, rfl, by decide +kernel, rfl, by decide +kernel, by decide +kernel⟩
theorem tr17 : trXs ⟨nsB ["read_number", "read_fraction", "read_whole", "read_figures"], "NoText", 6, 7, 8⟩ 200 ⟨["kind", "text", "table", "part", "row", "word", "#0", "#1", "#2"], defScope s17, fun _ => true, gcL⟩ (defBody s17) = some x_read_table := by kernel_rfl
theorem sc18 : FnScope ["kind", "number"] ["kind", "number"] (defScope s18) := ⟨rfl, rfl, rfl, by decide +kernel, rfl, by decide +kernel, by decide +kernel⟩
theorem tr18 : trSs 200 ⟨["kind", "number"], defScope s18, fun _ => true, []⟩ (defBody s18) = some b_show_number := by kernel_rfl
theorem sc19 : FnScope ["kind", "table", "row", "number"] ["kind", "table"] (defScope s19) := ⟨rfl, rfl, rfl, by decide +kernel, rfl, by decide +kernel, by decide +kernel⟩
theorem tr19 : trSs 200 ⟨["kind", "table", "row", "number"], defScope s19, fun _ => true, []⟩ (defBody s19) = some b_show_table := by kernel_rfl
theorem sc21 : FnScope ["_law_cell", "_law_j", "_law_mixed"] ["_law_cell", "_law_j"] (defScope s21) := ⟨rfl, rfl, rfl, by decide +kernel, rfl, by decide +kernel, by decide +kernel⟩
theorem tr21 : trSs 200 ⟨["_law_cell", "_law_j", "_law_mixed"], defScope s21, fun _ => true, []⟩ (defBody s21) = some b_law_mix := by kernel_rfl
theorem sc22 : FnScope ["_law_one", "_law_other"] ["_law_one", "_law_other"] (defScope s22) := ⟨rfl, rfl, rfl, by decide +kernel, rfl, by decide +kernel, by decide +kernel⟩
theorem tr22 : trSs 200 ⟨["_law_one", "_law_other"], defScope s22, fun _ => true, []⟩ (defBody s22) = some b_law_divisor := by kernel_rfl
theorem sc23 : FnScope ["_law_whole", "_law_by"] ["_law_whole"] (defScope s23) := ⟨rfl, rfl, rfl, by decide +kernel, rfl, by decide +kernel, by decide +kernel⟩
theorem tr23 : trSs 200 ⟨["_law_whole", "_law_by"], defScope s23, fun _ => true, []⟩ (defBody s23) = some b_law_is_prime := by kernel_rfl
theorem sc24 : FnScope ["_law_drawn", "_law_found"] ["_law_drawn"] (defScope s24) := ⟨rfl, rfl, rfl, by decide +kernel, rfl, by decide +kernel, by decide +kernel⟩
theorem tr24 : trSs 200 ⟨["_law_drawn", "_law_found"], defScope s24, fun _ => true, []⟩ (defBody s24) = some b_law_kind := by kernel_rfl
theorem sc25 : FnScope ["_law_kind_here", "_law_cell", "_law_j", "_law_drawn", "_law_top", "_law_bottom", "_law_by"] ["_law_kind_here", "_law_cell", "_law_j"] (defScope s25) := ⟨rfl, rfl, rfl, by decide +kernel, rfl, by decide +kernel, by decide +kernel⟩
theorem tr25 : trSs 200 ⟨["_law_kind_here", "_law_cell", "_law_j", "_law_drawn", "_law_top", "_law_bottom", "_law_by"], defScope s25, fun _ => true, []⟩ (defBody s25) = some b_law_number_v9 := by kernel_rfl
theorem sc26 : FnScope ["_law_kind_here", "_law_cell", "_law_rows", "_law_columns", "_law_i", "_law_j"] ["_law_kind_here", "_law_cell"] (defScope s26) := ⟨rfl, rfl, rfl, by decide +kernel, rfl, by decide +kernel, by decide +kernel⟩
theorem tr26 : trSs 200 ⟨["_law_kind_here", "_law_cell", "_law_rows", "_law_columns", "_law_i", "_law_j"], defScope s26, fun _ => true, []⟩ (defBody s26) = some b_law_table_v4 := by kernel_rfl
theorem sc27 : FnScope ["_law_kind_here", "_law_table_here", "_law_found", "_law_row", "_law_words", "_law_x", "_law_word"] ["_law_kind_here", "_law_table_here"] (defScope s27) := ⟨rfl, rfl, rfl, by decide +kernel, rfl, by decide +kernel, by decide +kernel⟩
theorem tr27 : trSs 200 ⟨["_law_kind_here", "_law_table_here", "_law_found", "_law_row", "_law_words", "_law_x", "_law_word"], defScope s27, fun _ => true, []⟩ (defBody s27) = some b_law_text := by kernel_rfl
theorem sc28 : FnScope ["_law_cell", "_law_some"] ["_law_cell"] (defScope s28) := ⟨rfl, rfl, rfl, by decide +kernel, rfl, by decide +kernel, by decide +kernel⟩
theorem tr28 : trSs 200 ⟨["_law_cell", "_law_some"], defScope s28, fun _ => true, []⟩ (defBody s28) = some b_law_odd := by kernel_rfl
theorem sc29 : FnScope ["_law_text_here", "_law_cell", "_law_signs", "_law_way", "_law_at", "_law_sign"] ["_law_text_here", "_law_cell"] (defScope s29) := ⟨rfl, rfl, rfl, by decide +kernel, rfl, by decide +kernel, by decide +kernel⟩
theorem tr29 : trSs 200 ⟨["_law_text_here", "_law_cell", "_law_signs", "_law_way", "_law_at", "_law_sign"], defScope s29, fun _ => true, []⟩ (defBody s29) = some b_law_spoiled := by kernel_rfl
theorem sc30 : FnScope ["_law_word", "_law_sign"] ["_law_word"] (defScope s30) := ⟨rfl, rfl, rfl, by decide +kernel, rfl, by decide +kernel, by decide +kernel⟩
theorem tr30 : trSs 200 ⟨["_law_word", "_law_sign"], defScope s30, fun _ => true, []⟩ (defBody s30) = some b_law_figures := by kernel_rfl
theorem sc31 : FnScope ["_law_kind_here", "_law_word", "_law_halves", "_law_sign", "_law_top", "_law_bottom", "_law_found"] ["_law_kind_here", "_law_word"] (defScope s31) := ⟨rfl, rfl, rfl, by decide +kernel, rfl, by decide +kernel, by decide +kernel⟩
theorem tr31 : trSs 200 ⟨["_law_kind_here", "_law_word", "_law_halves", "_law_sign", "_law_top", "_law_bottom", "_law_found"], defScope s31, fun _ => true, []⟩ (defBody s31) = some b_law_told_number := by kernel_rfl
theorem sc32 : FnScope ["_law_kind_here", "_law_text_here", "_law_found", "_law_piece", "_law_row", "_law_word"] ["_law_kind_here", "_law_text_here"] (defScope s32) := ⟨rfl, rfl, rfl, by decide +kernel, rfl, by decide +kernel, by decide +kernel⟩
theorem tr32 : trSs 200 ⟨["_law_kind_here", "_law_text_here", "_law_found", "_law_piece", "_law_row", "_law_word"], defScope s32, fun _ => true, []⟩ (defBody s32) = some b_law_told := by kernel_rfl
theorem sc33 : FnScope ["_law_kind_here", "_law_found", "_law_due", "_law_row", "_law_x"] ["_law_kind_here", "_law_found", "_law_due"] (defScope s33) := ⟨rfl, rfl, rfl, by decide +kernel, rfl, by decide +kernel, by decide +kernel⟩
theorem tr33 : trSs 200 ⟨["_law_kind_here", "_law_found", "_law_due", "_law_row", "_law_x"], defScope s33, fun _ => true, []⟩ (defBody s33) = some b_law_is_v3 := by kernel_rfl
theorem sc34 : FnScope ["_law_kind_here", "_law_text_here", "_law_due", "_law_error", "_law_found", "e"] ["_law_kind_here", "_law_text_here"] (defScope s34) := ⟨rfl, rfl, rfl, by decide +kernel, rfl, by decide +kernel, by decide +kernel⟩
def Y34 : RightT := ⟨"read_table", "MillError", "NoBack", "NoName", "NoRow", "NoText", y0_law_right91, y1_law_right91, y2_law_right91, c_law_right91⟩
theorem tr34 : trRight (nsB ["read_table", "read_number", "read_fraction", "read_whole", "read_figures"]) ⟨["_law_kind_here", "_law_text_here", "_law_due", "_law_error", "_law_found", "e"], defScope s34, fun _ => true, []⟩ (defBody s34) = some Y34 := by kernel_rfl
theorem sc35 : FnScope ["_law_script", "_law_cell", "_law_kind_here", "_law_table_here", "_law_text_here", "_law_found"] ["_law_script"] (defScope s35) := ⟨rfl, rfl, rfl, by decide +kernel, rfl, by decide +kernel, by decide +kernel⟩
theorem tr35 : trLaw ⟨["_law_script", "_law_cell", "_law_kind_here", "_law_table_here", "_law_text_here", "_law_found"], defScope s35, fun _ => true, []⟩ (defBody s35) = some b_k91_law := by kernel_rfl
theorem facts {P : Program} {w : World} {K0 : PySem.W.Frag} {h : Heap} {mg : Str → Option Value} {f : Addr} (X : K0.In h) (G : h.Ns mainGlobals mg) (hfa : mg ("law" : Str) = some (.ref f)) (c : He.SaysD fa fn K0) (cx : exB K0 = true) (hn : h.NoSeer) (ht : P.given.tree = none) :
    ∃ (K : PySem.W.Frag) (fd : FuncData), K.In h ∧ (∀ (s : Shared) (v : Value), BindsTo s fd ⟨[v], []⟩ [("_law_script", v)]) ∧ ∀ base : Heap, K.In base → base.Ns mainGlobals mg → FnOk P w K mg base CX0 58 f fd ["_law_script"] (spLaw K) := by
  have n0 : mg "len" = none := He.free_ok X G (c.fact 24 (f := .free "len") rfl)
  have n1 : mg "abs" = none := He.free_ok X G (c.fact 25 (f := .free "abs") rfl)
  have n2 : mg "int" = none := He.free_ok X G (c.fact 26 (f := .free "int") rfl)
  have n3 : mg "max" = none := He.free_ok X G (c.fact 27 (f := .free "max") rfl)
  have n4 : mg "list" = none := He.free_ok X G (c.fact 28 (f := .free "list") rfl)
  have n5 : mg "tuple" = none := He.free_ok X G (c.fact 29 (f := .free "tuple") rfl)
  have n6 : mg "sum" = none := He.free_ok X G (c.fact 30 (f := .free "sum") rfl)
  have n7 : mg "all" = none := He.free_ok X G (c.fact 31 (f := .free "all") rfl)
  have n8 : mg "any" = none := He.free_ok X G (c.fact 32 (f := .free "any") rfl)
  have n9 : mg "sorted" = none := He.free_ok X G (c.fact 33 (f := .free "sorted") rfl)
  have n10 : mg "isinstance" = none := He.free_ok X G (c.fact 34 (f := .free "isinstance") rfl)
  have n11 : mg "bool" = none := He.free_ok X G (c.fact 35 (f := .free "bool") rfl)
  have n12 : mg "str" = none := He.free_ok X G (c.fact 36 (f := .free "str") rfl)
  have n13 : mg "range" = none := He.free_ok X G (c.fact 37 (f := .free "range") rfl)
  have n14 : mg "zip" = none := He.free_ok X G (c.fact 38 (f := .free "zip") rfl)
  have n15 : mg "enumerate" = none := He.free_ok X G (c.fact 39 (f := .free "enumerate") rfl)
  have blt : ∀ x ∈ bnames, mg x = none := by
    intro x hx
    unfold bnames at hx
    simp only [List.mem_cons, List.not_mem_nil, or_false] at hx
    rcases hx with rfl | rfl | rfl | rfl | rfl | rfl | rfl | rfl | rfl | rfl | rfl | rfl | rfl | rfl | rfl | rfl
    all_goals assumption
  obtain ⟨K2, X2, hs⟩ := seer_more X hn
  obtain ⟨fd7, F7⟩ := c.def_ 0 (d := d7) rfl
  have F7 := fund_more (K2 := K2) F7
  obtain ⟨fd8, F8⟩ := c.def_ 1 (d := d8) rfl
  have F8 := fund_more (K2 := K2) F8
  obtain ⟨fd13, F13⟩ := c.def_ 2 (d := d13) rfl
  have F13 := fund_more (K2 := K2) F13
  obtain ⟨fd14, F14⟩ := c.def_ 3 (d := d14) rfl
  have F14 := fund_more (K2 := K2) F14
  obtain ⟨fd15, F15⟩ := c.def_ 4 (d := d15) rfl
  have F15 := fund_more (K2 := K2) F15
  obtain ⟨fd16, F16⟩ := c.def_ 5 (d := d16) rfl
  have F16 := fund_more (K2 := K2) F16
  obtain ⟨fd17, F17⟩ := c.def_ 6 (d := d17) rfl
  have F17 := fund_more (K2 := K2) F17
  obtain ⟨fd18, F18⟩ := c.def_ 7 (d := d18) rfl
  have F18 := fund_more (K2 := K2) F18
  obtain ⟨fd19, F19⟩ := c.def_ 8 (d := d19) rfl
  have F19 := fund_more (K2 := K2) F19
  obtain ⟨fd21, F21⟩ := c.def_ 9 (d := d21) rfl
  have F21 := fund_more (K2 := K2) F21
  obtain ⟨fd22, F22⟩ := c.def_ 10 (d := d22) rfl
  have F22 := fund_more (K2 := K2) F22
  obtain ⟨fd23, F23⟩ := c.def_ 11 (d := d23) rfl
  have F23 := fund_more (K2 := K2) F23
  obtain ⟨fd24, F24⟩ := c.def_ 12 (d := d24) rfl
  have F24 := fund_more (K2 := K2) F24
  obtain ⟨fd25, F25⟩ := c.def_ 13 (d := d25) rfl
  have F25 := fund_more (K2 := K2) F25
  obtain ⟨fd26, F26⟩ := c.def_ 14 (d := d26) rfl
  have F26 := fund_more (K2 := K2) F26
  obtain ⟨fd27, F27⟩ := c.def_ 15 (d := d27) rfl
  have F27 := fund_more (K2 := K2) F27
  obtain ⟨fd28, F28⟩ := c.def_ 16 (d := d28) rfl
  have F28 := fund_more (K2 := K2) F28
  obtain ⟨fd29, F29⟩ := c.def_ 17 (d := d29) rfl
  have F29 := fund_more (K2 := K2) F29
  obtain ⟨fd30, F30⟩ := c.def_ 18 (d := d30) rfl
  have F30 := fund_more (K2 := K2) F30
  obtain ⟨fd31, F31⟩ := c.def_ 19 (d := d31) rfl
  have F31 := fund_more (K2 := K2) F31
  obtain ⟨fd32, F32⟩ := c.def_ 20 (d := d32) rfl
  have F32 := fund_more (K2 := K2) F32
  obtain ⟨fd33, F33⟩ := c.def_ 21 (d := d33) rfl
  have F33 := fund_more (K2 := K2) F33
  obtain ⟨fd34, F34⟩ := c.def_ 22 (d := d34) rfl
  have F34 := fund_more (K2 := K2) F34
  obtain ⟨fd35, F35⟩ := c.def_ 23 (d := d35) rfl
  have F35 := fund_more (K2 := K2) F35
  have e := hfa.symm.trans (He.glo_ok X G (c.fact 23 (f := .glo "law") rfl))
  cases e
  have b := FunD.bindsA (ps := ["_law_script"]) F35 fun _ _ _ _ _ _ us hl => match us, hl with | [_], _ => rfl
  refine ⟨K0 ++ K2, fd35, X2, fun s v => b s [v] rfl, fun base _ _ => ?_⟩
  have V0 : AllH P w (K0 ++ K2) mg base 34 l0 := .nil
  have xC0 : ExcC K0 mg "NoText" (He.ga K0 "NoText") := .of (He.glo_ok X G (c.fact 40 (f := .glo "NoText") rfl)) (He.exc_ok (c.fact 41 (f := .exc "NoText") rfl))
  have xC := xC0.more (K2 := K2)
  have xM := exm_more (K2 := K2) (He.exm_ok (c.fact 42 (f := .exm "NoText" "NoText" true) rfl))
  have eC := (errB_ok cx).more (K2 := K2)
  have gx0 := He.glo_ok X G (c.fact 43 (f := .glo "MillError") rfl)
  have gx1 := He.glo_ok X G (c.fact 44 (f := .glo "NoBack") rfl)
  have gx2 := He.glo_ok X G (c.fact 45 (f := .glo "NoName") rfl)
  have gx3 := He.glo_ok X G (c.fact 46 (f := .glo "NoRow") rfl)
  have gxv := He.free_ok X G (c.fact 47 (f := .free "ValueError") rfl)
  have hgc : GcOk gcL mg := (GcOk.str (GcOk.str (GcOk.int (GcOk.int GcOk.nil (He.int_ok X G (c.fact 51 (f := .int "MOST" 12) rfl))) (He.int_ok X G (c.fact 50 (f := .int "LONGEST" 20) rfl))) (He.str_ok X G (c.fact 49 (f := .str "FIGURES" "0123456789") rfl))) (He.str_ok X G (c.fact 48 (f := .str "__name__" "law_steermill_k91_tables_as_texts") rfl)))
  have W0 : AllX P w (K0 ++ K2) mg base 34 (He.ga K0 "NoText") [] m0 := .nil
  have S0 : Split [] m0 l0 := .nil
  have g7 := He.glo_ok X G (c.fact 0 (f := .glo "divisor") rfl)
  have b7 := FunD.bindsN (ps := ["one", "other"]) F7 fun _ _ _ _ _ _ us hl => match us, hl with | [_, _], _ => rfl
  have V7 : AllH P w (K0 ++ K2) mg base 35 l7 := V0.step F7 sc7 tr7 blt (by decide) hs ht (by decide) g7 b7
  have W7 : AllX P w (K0 ++ K2) mg base 35 (He.ga K0 "NoText") [] m7 := W0.plain rfl
  have S7 : Split [] m7 l7 := S0.plain rfl
  have g8 := He.glo_ok X G (c.fact 1 (f := .glo "lowest") rfl)
  have b8 := FunD.bindsN (ps := ["top", "bottom"]) F8 fun _ _ _ _ _ _ us hl => match us, hl with | [_, _], _ => rfl
  have V8 : AllH P w (K0 ++ K2) mg base 36 l8 := V7.step F8 sc8 tr8 blt (by decide) hs ht (by decide) g8 b8
  have W8 : AllX P w (K0 ++ K2) mg base 36 (He.ga K0 "NoText") [] m8 := W7.plain rfl
  have S8 : Split [] m8 l8 := S7.plain rfl
  have g13 := He.glo_ok X G (c.fact 2 (f := .glo "read_figures") rfl)
  have b13 := FunD.bindsN (ps := ["word"]) F13 fun _ _ _ _ _ _ us hl => match us, hl with | [_], _ => rfl
  have W13 : AllX P w (K0 ++ K2) mg base 37 (He.ga K0 "NoText") ["read_figures"] m13 := W8.step V8 S8 F13 sc13 tr13 xC blt (by decide) hs ht (by decide) g13 b13 hgc
  have S13 : Split ["read_figures"] m13 l8 := S8.rais
  have V13_ := V8
  have V8 : AllH P w (K0 ++ K2) mg base 37 l8 := V8.up
  have g14 := He.glo_ok X G (c.fact 3 (f := .glo "read_whole") rfl)
  have b14 := FunD.bindsN (ps := ["word"]) F14 fun _ _ _ _ _ _ us hl => match us, hl with | [_], _ => rfl
  have W14 : AllX P w (K0 ++ K2) mg base 38 (He.ga K0 "NoText") ["read_whole", "read_figures"] m14 := W13.step V8 S13 F14 sc14 tr14 xC blt (by decide) hs ht (by decide) g14 b14 hgc
  have S14 : Split ["read_whole", "read_figures"] m14 l8 := S13.rais
  have V14_ := V8
  have V8 : AllH P w (K0 ++ K2) mg base 38 l8 := V8.up
  have g15 := He.glo_ok X G (c.fact 4 (f := .glo "read_fraction") rfl)
  have b15 := FunD.bindsN (ps := ["word"]) F15 fun _ _ _ _ _ _ us hl => match us, hl with | [_], _ => rfl
  have W15 : AllX P w (K0 ++ K2) mg base 39 (He.ga K0 "NoText") ["read_fraction", "read_whole", "read_figures"] m15 := W14.step V8 S14 F15 sc15 tr15 xC blt (by decide) hs ht (by decide) g15 b15 hgc
  have S15 : Split ["read_fraction", "read_whole", "read_figures"] m15 l8 := S14.rais
  have V15_ := V8
  have V8 : AllH P w (K0 ++ K2) mg base 39 l8 := V8.up
  have g16 := He.glo_ok X G (c.fact 5 (f := .glo "read_number") rfl)
  have b16 := FunD.bindsN (ps := ["kind", "word"]) F16 fun _ _ _ _ _ _ us hl => match us, hl with | [_, _], _ => rfl
  have W16 : AllX P w (K0 ++ K2) mg base 40 (He.ga K0 "NoText") ["read_number", "read_fraction", "read_whole", "read_figures"] m16 := W15.step V8 S15 F16 sc16 tr16 xC blt (by decide) hs ht (by decide) g16 b16 hgc
  have S16 : Split ["read_number", "read_fraction", "read_whole", "read_figures"] m16 l8 := S15.rais
  have V16_ := V8
  have V8 : AllH P w (K0 ++ K2) mg base 40 l8 := V8.up
  have g17 := He.glo_ok X G (c.fact 6 (f := .glo "read_table") rfl)
  have b17 := FunD.bindsN (ps := ["kind", "text"]) F17 fun _ _ _ _ _ _ us hl => match us, hl with | [_, _], _ => rfl
  have W17 : AllX P w (K0 ++ K2) mg base 41 (He.ga K0 "NoText") ["read_table", "read_number", "read_fraction", "read_whole", "read_figures"] m17 := W16.step V8 S16 F17 sc17 tr17 xC blt (by decide) hs ht (by decide) g17 b17 hgc
  have S17 : Split ["read_table", "read_number", "read_fraction", "read_whole", "read_figures"] m17 l8 := S16.rais
  have V17_ := V8
  have V8 : AllH P w (K0 ++ K2) mg base 41 l8 := V8.up
  have g18 := He.glo_ok X G (c.fact 7 (f := .glo "show_number") rfl)
  have b18 := FunD.bindsN (ps := ["kind", "number"]) F18 fun _ _ _ _ _ _ us hl => match us, hl with | [_, _], _ => rfl
  have V18 : AllH P w (K0 ++ K2) mg base 42 l18 := V8.step F18 sc18 tr18 blt (by decide) hs ht (by decide) g18 b18
  have W18 : AllX P w (K0 ++ K2) mg base 42 (He.ga K0 "NoText") ["read_table", "read_number", "read_fraction", "read_whole", "read_figures"] m18 := W17.plain rfl
  have S18 : Split ["read_table", "read_number", "read_fraction", "read_whole", "read_figures"] m18 l18 := S17.plain rfl
  have g19 := He.glo_ok X G (c.fact 8 (f := .glo "show_table") rfl)
  have b19 := FunD.bindsN (ps := ["kind", "table"]) F19 fun _ _ _ _ _ _ us hl => match us, hl with | [_, _], _ => rfl
  have V19 : AllH P w (K0 ++ K2) mg base 43 l19 := V18.step F19 sc19 tr19 blt (by decide) hs ht (by decide) g19 b19
  have W19 : AllX P w (K0 ++ K2) mg base 43 (He.ga K0 "NoText") ["read_table", "read_number", "read_fraction", "read_whole", "read_figures"] m19 := W18.plain rfl
  have S19 : Split ["read_table", "read_number", "read_fraction", "read_whole", "read_figures"] m19 l19 := S18.plain rfl
  have g21 := He.glo_ok X G (c.fact 9 (f := .glo "_law_mix") rfl)
  have b21 := FunD.bindsN (ps := ["_law_cell", "_law_j"]) F21 fun _ _ _ _ _ _ us hl => match us, hl with | [_, _], _ => rfl
  have V21 : AllH P w (K0 ++ K2) mg base 44 l21 := V19.step F21 sc21 tr21 blt (by decide) hs ht (by decide) g21 b21
  have W21 : AllX P w (K0 ++ K2) mg base 44 (He.ga K0 "NoText") ["read_table", "read_number", "read_fraction", "read_whole", "read_figures"] m21 := W19.plain rfl
  have S21 : Split ["read_table", "read_number", "read_fraction", "read_whole", "read_figures"] m21 l21 := S19.plain rfl
  have g22 := He.glo_ok X G (c.fact 10 (f := .glo "_law_divisor") rfl)
  have b22 := FunD.bindsN (ps := ["_law_one", "_law_other"]) F22 fun _ _ _ _ _ _ us hl => match us, hl with | [_, _], _ => rfl
  have V22 : AllH P w (K0 ++ K2) mg base 45 l22 := V21.step F22 sc22 tr22 blt (by decide) hs ht (by decide) g22 b22
  have W22 : AllX P w (K0 ++ K2) mg base 45 (He.ga K0 "NoText") ["read_table", "read_number", "read_fraction", "read_whole", "read_figures"] m22 := W21.plain rfl
  have S22 : Split ["read_table", "read_number", "read_fraction", "read_whole", "read_figures"] m22 l22 := S21.plain rfl
  have g23 := He.glo_ok X G (c.fact 11 (f := .glo "_law_is_prime") rfl)
  have b23 := FunD.bindsN (ps := ["_law_whole"]) F23 fun _ _ _ _ _ _ us hl => match us, hl with | [_], _ => rfl
  have V23 : AllH P w (K0 ++ K2) mg base 46 l23 := V22.step F23 sc23 tr23 blt (by decide) hs ht (by decide) g23 b23
  have W23 : AllX P w (K0 ++ K2) mg base 46 (He.ga K0 "NoText") ["read_table", "read_number", "read_fraction", "read_whole", "read_figures"] m23 := W22.plain rfl
  have S23 : Split ["read_table", "read_number", "read_fraction", "read_whole", "read_figures"] m23 l23 := S22.plain rfl
  have g24 := He.glo_ok X G (c.fact 12 (f := .glo "_law_kind") rfl)
  have b24 := FunD.bindsN (ps := ["_law_drawn"]) F24 fun _ _ _ _ _ _ us hl => match us, hl with | [_], _ => rfl
  have V24 : AllH P w (K0 ++ K2) mg base 47 l24 := V23.step F24 sc24 tr24 blt (by decide) hs ht (by decide) g24 b24
  have W24 : AllX P w (K0 ++ K2) mg base 47 (He.ga K0 "NoText") ["read_table", "read_number", "read_fraction", "read_whole", "read_figures"] m24 := W23.plain rfl
  have S24 : Split ["read_table", "read_number", "read_fraction", "read_whole", "read_figures"] m24 l24 := S23.plain rfl
  have g25 := He.glo_ok X G (c.fact 13 (f := .glo "_law_number") rfl)
  have b25 := FunD.bindsN (ps := ["_law_kind_here", "_law_cell", "_law_j"]) F25 fun _ _ _ _ _ _ us hl => match us, hl with | [_, _, _], _ => rfl
  have V25 : AllH P w (K0 ++ K2) mg base 48 l25 := V24.step F25 sc25 tr25 blt (by decide) hs ht (by decide) g25 b25
  have W25 : AllX P w (K0 ++ K2) mg base 48 (He.ga K0 "NoText") ["read_table", "read_number", "read_fraction", "read_whole", "read_figures"] m25 := W24.plain rfl
  have S25 : Split ["read_table", "read_number", "read_fraction", "read_whole", "read_figures"] m25 l25 := S24.plain rfl
  have g26 := He.glo_ok X G (c.fact 14 (f := .glo "_law_table") rfl)
  have b26 := FunD.bindsN (ps := ["_law_kind_here", "_law_cell"]) F26 fun _ _ _ _ _ _ us hl => match us, hl with | [_, _], _ => rfl
  have V26 : AllH P w (K0 ++ K2) mg base 49 l26 := V25.step F26 sc26 tr26 blt (by decide) hs ht (by decide) g26 b26
  have W26 : AllX P w (K0 ++ K2) mg base 49 (He.ga K0 "NoText") ["read_table", "read_number", "read_fraction", "read_whole", "read_figures"] m26 := W25.plain rfl
  have S26 : Split ["read_table", "read_number", "read_fraction", "read_whole", "read_figures"] m26 l26 := S25.plain rfl
  have g27 := He.glo_ok X G (c.fact 15 (f := .glo "_law_text") rfl)
  have b27 := FunD.bindsN (ps := ["_law_kind_here", "_law_table_here"]) F27 fun _ _ _ _ _ _ us hl => match us, hl with | [_, _], _ => rfl
  have V27 : AllH P w (K0 ++ K2) mg base 50 l27 := V26.step F27 sc27 tr27 blt (by decide) hs ht (by decide) g27 b27
  have W27 : AllX P w (K0 ++ K2) mg base 50 (He.ga K0 "NoText") ["read_table", "read_number", "read_fraction", "read_whole", "read_figures"] m27 := W26.plain rfl
  have S27 : Split ["read_table", "read_number", "read_fraction", "read_whole", "read_figures"] m27 l27 := S26.plain rfl
  have g28 := He.glo_ok X G (c.fact 16 (f := .glo "_law_odd") rfl)
  have b28 := FunD.bindsN (ps := ["_law_cell"]) F28 fun _ _ _ _ _ _ us hl => match us, hl with | [_], _ => rfl
  have V28 : AllH P w (K0 ++ K2) mg base 51 l28 := V27.step F28 sc28 tr28 blt (by decide) hs ht (by decide) g28 b28
  have W28 : AllX P w (K0 ++ K2) mg base 51 (He.ga K0 "NoText") ["read_table", "read_number", "read_fraction", "read_whole", "read_figures"] m28 := W27.plain rfl
  have S28 : Split ["read_table", "read_number", "read_fraction", "read_whole", "read_figures"] m28 l28 := S27.plain rfl
  have g29 := He.glo_ok X G (c.fact 17 (f := .glo "_law_spoiled") rfl)
  have b29 := FunD.bindsN (ps := ["_law_text_here", "_law_cell"]) F29 fun _ _ _ _ _ _ us hl => match us, hl with | [_, _], _ => rfl
  have V29 : AllH P w (K0 ++ K2) mg base 52 l29 := V28.step F29 sc29 tr29 blt (by decide) hs ht (by decide) g29 b29
  have W29 : AllX P w (K0 ++ K2) mg base 52 (He.ga K0 "NoText") ["read_table", "read_number", "read_fraction", "read_whole", "read_figures"] m29 := W28.plain rfl
  have S29 : Split ["read_table", "read_number", "read_fraction", "read_whole", "read_figures"] m29 l29 := S28.plain rfl
  have g30 := He.glo_ok X G (c.fact 18 (f := .glo "_law_figures") rfl)
  have b30 := FunD.bindsN (ps := ["_law_word"]) F30 fun _ _ _ _ _ _ us hl => match us, hl with | [_], _ => rfl
  have V30 : AllH P w (K0 ++ K2) mg base 53 l30 := V29.step F30 sc30 tr30 blt (by decide) hs ht (by decide) g30 b30
  have W30 : AllX P w (K0 ++ K2) mg base 53 (He.ga K0 "NoText") ["read_table", "read_number", "read_fraction", "read_whole", "read_figures"] m30 := W29.plain rfl
  have S30 : Split ["read_table", "read_number", "read_fraction", "read_whole", "read_figures"] m30 l30 := S29.plain rfl
  have g31 := He.glo_ok X G (c.fact 19 (f := .glo "_law_told_number") rfl)
  have b31 := FunD.bindsN (ps := ["_law_kind_here", "_law_word"]) F31 fun _ _ _ _ _ _ us hl => match us, hl with | [_, _], _ => rfl
  have V31 : AllH P w (K0 ++ K2) mg base 54 l31 := V30.step F31 sc31 tr31 blt (by decide) hs ht (by decide) g31 b31
  have W31 : AllX P w (K0 ++ K2) mg base 54 (He.ga K0 "NoText") ["read_table", "read_number", "read_fraction", "read_whole", "read_figures"] m31 := W30.plain rfl
  have S31 : Split ["read_table", "read_number", "read_fraction", "read_whole", "read_figures"] m31 l31 := S30.plain rfl
  have g32 := He.glo_ok X G (c.fact 20 (f := .glo "_law_told") rfl)
  have b32 := FunD.bindsN (ps := ["_law_kind_here", "_law_text_here"]) F32 fun _ _ _ _ _ _ us hl => match us, hl with | [_, _], _ => rfl
  have V32 : AllH P w (K0 ++ K2) mg base 55 l32 := V31.step F32 sc32 tr32 blt (by decide) hs ht (by decide) g32 b32
  have W32 : AllX P w (K0 ++ K2) mg base 55 (He.ga K0 "NoText") ["read_table", "read_number", "read_fraction", "read_whole", "read_figures"] m32 := W31.plain rfl
  have S32 : Split ["read_table", "read_number", "read_fraction", "read_whole", "read_figures"] m32 l32 := S31.plain rfl
  have g33 := He.glo_ok X G (c.fact 21 (f := .glo "_law_is") rfl)
  have b33 := FunD.bindsN (ps := ["_law_kind_here", "_law_found", "_law_due"]) F33 fun _ _ _ _ _ _ us hl => match us, hl with | [_, _, _], _ => rfl
  have V33 : AllH P w (K0 ++ K2) mg base 56 l33 := V32.step F33 sc33 tr33 blt (by decide) hs ht (by decide) g33 b33
  have W33 : AllX P w (K0 ++ K2) mg base 56 (He.ga K0 "NoText") ["read_table", "read_number", "read_fraction", "read_whole", "read_figures"] m33 := W32.plain rfl
  have S33 : Split ["read_table", "read_number", "read_fraction", "read_whole", "read_figures"] m33 l33 := S32.plain rfl
  have g34 := He.glo_ok X G (c.fact 22 (f := .glo "_law_right") rfl)
  have b34 := FunD.bindsN (ps := ["_law_kind_here", "_law_text_here"]) F34 fun _ _ _ _ _ _ us hl => match us, hl with | [_, _], _ => rfl
  have V34 : AllH P w (K0 ++ K2) mg base 57 l34 := V33.cons ⟨⟨_, _, _, g34, F34.kp, fn_right2 (T := Y34) F34 sc34 tr34 rfl V33 W33 S33 eC gx0 gx1 gx2 gx3 xC.g gxv blt hs ht (by decide), b34⟩⟩
  have W34 : AllX P w (K0 ++ K2) mg base 57 (He.ga K0 "NoText") ["read_table", "read_number", "read_fraction", "read_whole", "read_figures"] m34 := W33.plain rfl
  have S34 : Split ["read_table", "read_number", "read_fraction", "read_whole", "read_figures"] m34 l34 := S33.plain rfl
  exact law_h F35 sc35 tr35 V34.tab blt hs ht (by decide) hmain
end VI.K91
open PySem PySem.W PySem.Calls PyProof.Rows
theorem PySem.Challenge.cw_steermill_k91_tables_as_texts_holds : PySem.Challenge.rw_steermill_k91_tables_as_texts.Holds := by
  w_on; o_law
  refine HandSHeadRun.head_any (r := OpenLaw.row PySem.Challenge.rw_steermill_k91_tables_as_texts) (q := view (OpenLaw.row PySem.Challenge.rw_steermill_k91_tables_as_texts).prog [35]) (H := VI.K91.hk) (ob := VI.K91.ob) (M := 5840) (loose := (("divisor" : PySem.Str) :: ("lowest" : PySem.Str) :: ("read_figures" : PySem.Str) :: ("read_whole" : PySem.Str) :: ("read_fraction" : PySem.Str) :: ("read_number" : PySem.Str) :: ("read_table" : PySem.Str) :: ("show_number" : PySem.Str) :: ("show_table" : PySem.Str) :: ("_law_mix" : PySem.Str) :: ("_law_divisor" : PySem.Str) :: ("_law_is_prime" : PySem.Str) :: ("_law_kind" : PySem.Str) :: ("_law_number" : PySem.Str) :: ("_law_table" : PySem.Str) :: ("_law_text" : PySem.Str) :: ("_law_odd" : PySem.Str) :: ("_law_spoiled" : PySem.Str) :: ("_law_figures" : PySem.Str) :: ("_law_told_number" : PySem.Str) :: ("_law_told" : PySem.Str) :: ("_law_is" : PySem.Str) :: ("_law_right" : PySem.Str) :: ("MillError" : PySem.Str) :: ("NoBack" : PySem.Str) :: ("NoText" : PySem.Str) :: ("NoName" : PySem.Str) :: ("NoRow" : PySem.Str) :: ("FIGURES" : PySem.Str) :: ("LONGEST" : PySem.Str) :: ("MOST" : PySem.Str) :: [])) (d := HandSHeadRun.topDef (OpenLaw.row PySem.Challenge.rw_steermill_k91_tables_as_texts).prog 35) (kwd := []) VI.K91.ob_eq
    (by kernel_rfl) (fun s => by kernel_rfl) VI.K91.run (by kernel_rfl) (by kernel_rfl) (by kernel_rfl) (by rfl) (by first | assumption | decide +kernel) (by decide +kernel) ⟨rfl, rfl, rfl, rfl, rfl, by decide +kernel⟩ ?hw ?hc
  case hw => w_witness2
  case hc =>
    refine VI.walk_ofS (l := PySem.Challenge.rw_steermill_k91_tables_as_texts) (n := 63) (k := 58) (x := "_law_script") (CX := L2.CX0) (by kernel_rfl) rfl (by decide) (by kernel_rfl) ⟨rfl, by decide, by decide⟩ ?F (fun _ _ _ _ z => z)
    intro w mg fa h Y hn G hmg0
    obtain ⟨K, KX, c⟩ := Y
    have hmg : mg ("law" : PySem.Str) = some (.ref fa) := by
      have e : (HandSHeadRun.topDef (OpenLaw.row PySem.Challenge.rw_steermill_k91_tables_as_texts).prog 35).name = ("law" : PySem.Str) := by kernel_rfl
      rw [← e]
      exact hmg0
    obtain ⟨K', fd, X', hb, hF⟩ := VI.K91.facts (P := (PySem.Challenge.rw_steermill_k91_tables_as_texts).prog) (w := w) KX G hmg c.t.d c.more hn rfl
    exact ⟨K', fd, VI.spLaw K', X', hb, fun H a ns hl hbits _ hS => ⟨a, ns, rfl, hS, ⟨hl, hbits⟩, fun _ => rfl⟩, hF⟩
