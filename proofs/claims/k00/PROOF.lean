import PyProof.Rows.All
import Wide.All
import OpenK.AllK
import Wide.FinOn
import HandS.ForMost
import HandS.IsInst
import HandS.TupMul
import HandS.TupAny
import HandS.Wide
import PyProof.ReprRoads
import HandS.Evl
import HandS.Walk
import PyProof.ReprLen
import HandS.Lambda
import HandS.EndTab
import HandS.ExcIs
import HandS.ExcOwn
import HandS.WordsExc
import PyProof.StrBlock2
import KE.KExcSuper
import HandS.ExcField
import HandS.TryMany
import HandS.Style
import HandS.More
import PyProof.ExcBaseAll.IndexError
import PyProof.ExcBaseAll.OverflowError
import PyProof.ExcBaseAll.ArithmeticError
import PyProof.ExcBaseAll.RuntimeError
import PyProof.ExcBaseAll.LookupError
import KE.KExcInit
import PyProof.RowDictHeap
import HandS.ExcValue
import HandS.HotCalls
import HandS.DeepEq
import PySem.Challenge.RW_laterivals_k00_errors_and_what_they_keep
set_option Elab.async false
set_option linter.all false
set_option maxRecDepth 100000
set_option maxHeartbeats 2000000
/-! calls where no repr is under way: a def's promise that may lean on it -/
namespace Lv
open PySem PySem.Spec PyProof.Rows L2

/-- as FnOk, for arounds in which no guarded call runs -/
structure FnG (P : Program) (w : World) (K : PySem.W.Frag) (mg : Str → Option Value) (base : Heap)
    (CX : CXT) (k : Nat) (f : Addr) (fd : FuncData) (ps : List Str) (sp : Sp) : Prop where
  len : ∀ vs H Q E, sp vs H Q E → vs.length = ps.length
  run : ∀ (A : Around), A.guards = some [] → ∀ (outer : List Env) (s : Shared) (H : Hp) (args : Args)
    (us : List Value) (vs : List V) (Q : VK) (E : XK), Room k A → Env0 P w K mg base A outer s H →
    BindsTo s fd args (ps.zip us) → Vals vs us → sp vs H Q E →
    codeAny (model P w) A (.call (.ref f) args) (CR CX outer P w H s Q E) s

theorem FnG.of {P : Program} {w : World} {K : PySem.W.Frag} {mg : Str → Option Value} {base : Heap}
    {CX : CXT} {k : Nat} {f : Addr} {fd : FuncData} {ps : List Str} {sp : Sp}
    (F : FnOk P w K mg base CX k f fd ps sp) : FnG P w K mg base CX k f fd ps sp :=
  ⟨F.len, fun A _ outer s H args us vs Q E hr he hb hv h => F.run A outer s H args us vs Q E hr he hb hv h⟩

section
variable {X : Cx} {CX : CXT} {k : Nat} {f : Addr} {fd : FuncData} {ps : List Str} {sp : Sp}
  {dvs : List V} {ds : List Value} {E : XK} {x : Str} {p pos : Pos} {e : Expr} {es : List Expr} {t : TA}

theorem pe_callG (F : FnG X.prog X.w X.K X.mg X.base CX k f fd ps sp) (hgd : X.A.guards = some [])
    (hr : Room k X.A) (hg : Gl X x) (hm : X.mg x = some (.ref f))
    (hk : PySem.W.keepIn X.K (.ref f) = true) (hb : Binds X.K fd ps ds) (hd : Vals dvs ds)
    (hx : Passes CX X E) (ha : PA X (e :: es) t) (hdb : (x == ("__debug__" : Str)) = false := by decide)
    (he : starEach (e :: es) X.env = (false, eval e X.env) :: starEach es X.env := by rfl)
    (hpl : (backTo pos (starEach es X.env)).any (·.1) = false := by rfl) :
    PE X (.Call (.Name x p) (e :: es) [] pos) (tCall sp dvs E t) := by
  constructor
  intro pins s σ H Q I h
  refine wpAny_Call_Name_kw (ld_glob I hg hm ?_ hdb)
  refine PySem.W.callWith_K (h₀ := X.base) I.ok.mod.kin hk (thn (ha.run pos pins s σ H _ I h) ?_) he hpl
  rintro us s1 ⟨vs, H1, I1, r, q⟩
  refine ⟨I1.kIn, ?_⟩
  have r2 : Vals (vs ++ dvs) (us ++ ds) := r.append hd
  have hl : (us ++ ds).length = ps.length := by
    rw [← r2.length]
    exact F.len _ _ _ _ q
  have run := F.run X.A hgd X.stack s1 H1 ⟨us, []⟩ (us ++ ds) (vs ++ dvs) Q E hr I1.env0 (hb s1 us I1.kIn hl) r2 q
  refine wpAny_call (codeAny_mono run ?_)
  rintro (er | (_ | _ | _ | u)) s' hq
  all_goals first
    | exact hx pins σ H1 s1 _ s' I1 hq
    | exact I1.after hq
    | exact False.elim hq
end

section
variable {P : Program} {w : World} {K : PySem.W.Frag} {mg : Str → Option Value} {base : Heap}
/-- a def by its body, where no guarded call runs -/
theorem okG {x qual : Str} {st : Stmt} {f : Addr} {fd : FuncData} {N ps : List Str} {k : Nat} {sp : Sp}
    (F : Fun K x qual st f fd) (S : FnScope N ps (defScope st))
    (len : ∀ vs H Q E, sp vs H Q E → vs.length = ps.length)
    (hbody : ∀ (cdv : Value) (A : Around) (outer : List Env) (s : Shared) (H : Hp) (vs : List V) (Q : VK) (E : XK),
      (A.deeper (envOfC qual (defScope st) s.heap.objs.size f cdv)).guards = some [] →
      Room k (A.deeper (envOfC qual (defScope st) s.heap.objs.size f cdv)) → sp vs H Q E →
      ∃ t, PSs (cxOf CX0 P w K mg base N qual (defScope st) f cdv A outer s H E).nox (defBody st) t ∧
        t { nx := fun _ H' => Q .non H', rt := Q } (start N vs) H) :
    FnG P w K mg base CX0 (k + 1) f fd ps sp := by
  obtain ⟨oc, od, kV, doc, pm, an, cdv, ct, osl, rfl, lk, hcd⟩ := F.ex
  refine ⟨len, fun A hgd outer s H args us vs Q E hr e0 hb hv hsp => ?_⟩
  have kept := fun b o (z : base.get? b = some o) => (e0.bs b o z).1
  have hK : K.In s.heap := e0.mod.kin.keeps kept
  have hL : s.heap.NoLimit := e0.mod.nolimit.keeps kept
  refine codeAny_call_function hr.depth (hK _ _ lk) rfl S.co S.gen rfl (PySem.W.codeRec_of hK hcd)
    (hb _ _ _ _ ?_)
  have kinds : ∀ y ∈ ps.zip us, (defScope st).names.lookup y.1 = some .local ∨
      ((defScope st).names.lookup y.1 = some .cell ∧
        ((cellsFrom (s.heap.objs.size + 1) (defScope st).names []).lookup y.1).isSome = true) := by
    rintro ⟨n, v⟩ hy
    rcases S.par n (List.of_mem_zip hy).1 with z | z
    · exact .inl z
    · exact .inr ⟨z, PySem.W.cellsFrom_some _ _ _ (.inl z)⟩
  refine wpAny_newFunctionEnv_cells S.kind kinds ?_
  rintro env rfl s1 x
  refine ⟨hL.keeps x.toInCall.keep, codeAny_func ?_⟩
  obtain ⟨t, ht, hq⟩ := hbody cdv A outer s H vs Q E hgd (hr.deeper _) hsp
  have I := inv_start (CX := CX0) (E := E) S hr.hd e0 (len _ _ _ _ hsp) hv x
  refine wpAny_mono (ht.nox.run [] s1 (start N vs) H _ I hq) ?_ (fun e s' z => z)
  rintro (_ | _ | _ | u) s' hs
  · obtain ⟨σ', H', J, q⟩ := hs
    exact ⟨V.non, H', J.os, J.bare, J.base, J.hok, (rfl : RelV V.non Value.none), q⟩
  · obtain ⟨_, _, _, q⟩ := hs
    exact False.elim q
  · obtain ⟨_, _, _, q⟩ := hs
    exact False.elim q
  · obtain ⟨v, σ', H', J, rv, q⟩ := hs
    exact ⟨v, H', J.os, J.bare, J.base, J.hok, rv, q⟩
end
/-- the law's call from its promise, at the heap behind the top -/
theorem lawG {P : Program} {w : World} {K : PySem.W.Frag} {mg mb : Str → Option Value} {k : Nat} {fa a : Addr}
    {fd : FuncData} {x : Str} {sp : Sp} {s₁ : Shared} {vs : List Value} {ns : List Int}
    (hK : K.In s₁.heap) (hG : s₁.heap.Ns mainGlobals mg) (hB : s₁.heap.Ns builtinsNs mb)
    (hB2 : ∀ x : Str, x ≠ "__name__" → mb x = bootBuiltins x) (hL : s₁.heap.NoLimit) (hg : s₁.gens = #[])
    (ha : s₁.heap.get? a = some { cls := .type "list", data := .seq vs.toArray }) (hi : IntsAre vs ns)
    (hl : ns.length ≤ sizeLine) (hr : Room k callerA)
    (F : ∀ base : Heap, K.In base → base.Ns mainGlobals mg → FnG P w K mg base CX0 k fa fd [x] sp)
    (hbind : ∀ (s : Shared) (u : Value), BindsTo s fd ⟨[u], []⟩ [(x, u)])
    (hsp : ∀ H : Hp, Only H → SqL K H a (ns.map V.int) → sp [.ref a] H (fun v _ => v = .bl true) E0) :
    codeAny (model P w) callerA (.call (.ref fa) ⟨[.ref a], []⟩)
      (fun r s' => r = .ok (.ret (.bool true)) ∧ OldK s₁.heap s'.heap ∧ s'.os = s₁.os ∧ AllBare s'.gens) s₁ := by
  have rv := vals_ints hi
  have lenV := hi.length
  have key : ∀ H : Hp, Only H → SqL K H a (ns.map V.int) → HOk P w H s₁.heap →
      (∀ b, H b ≠ none → b = a ∧ K.lookup b = none) →
      codeAny (model P w) callerA (.call (.ref fa) ⟨[.ref a], []⟩)
        (fun r s' => r = .ok (.ret (.bool true)) ∧ OldK s₁.heap s'.heap ∧ s'.os = s₁.os ∧ AllBare s'.gens) s₁ := by
    intro H hO hS hok hA
    have free : ∀ {b : Addr}, (b = a ∧ K.lookup b = none → False) → H b = none := by
      intro b hb
      cases q : H b with
      | none => rfl
      | some u => exact (hb (hA b (by rw [q]; exact fun z => nomatch z))).elim
    have ns2 : ∀ {b : Addr} {m : Str → Option Value}, s₁.heap.Ns b m → (hidT s₁.heap H).Ns b m := by
      rintro b m ⟨o, es, ep, e, d, r⟩
      refine ⟨o, es, ep, hidT_get e (free ?_), d, r⟩
      rintro ⟨rfl, -⟩
      rw [ha] at e
      cases e
      exact nomatch d
    have hKb : K.In (hidT s₁.heap H) := by
      intro b o e
      refine hidT_get (hK b o e) (free ?_)
      rintro ⟨-, z⟩
      rw [e] at z
      cases z
    have hM : Mod K mg (hidT s₁.heap H) := by
      refine ⟨hKb, ns2 hG, ⟨mb, ns2 hB, hB2⟩, ?_⟩
      obtain ⟨mc, h1, h2⟩ := hL
      exact ⟨mc, ns2 h1, h2⟩
    have e0 : Env0 P w K mg (hidT s₁.heap H) callerA [] s₁ H := by
      refine ⟨rfl, hM, fun b o e => of_hidT e, Nat.le_of_eq (hidT_size _ _), trivial, ?_, hok, .of_eq hg⟩
      intro b hb
      exact absurd (show b ∈ ([] : List Addr) from hb) (by simp)
    have run := (F _ hKb (ns2 hG)).run callerA rfl [] s₁ H ⟨[.ref a], []⟩ [.ref a] [.ref a] _ _ hr e0
      (hbind s₁ (.ref a)) (.cons rfl .nil) (hsp H hO hS)
    refine codeAny_mono run ?_
    rintro (er | (_ | _ | _ | u)) s' h
    · exact False.elim h
    · exact False.elim h
    · exact False.elim h
    · exact False.elim h
    · obtain ⟨v, H', os, bare, un, hok', r', q⟩ := h
      obtain rfl : v = V.bl true := q
      obtain rfl : u = Value.bool true := r'
      refine ⟨rfl, OldK.of_keep ?_, os, bare⟩
      intro b o e
      cases q : H b with
      | none => exact un.keep b o e q (fun z => absurd (show b ∈ ([] : List Addr) from z) (by simp)) (by simp)
      | some u =>
        rcases hO b with z | ⟨ob, xs, z⟩
        · rw [q] at z
          cases z
        · obtain ⟨e1, _⟩ := hok b _ z
          obtain ⟨e2, _⟩ := hok' b _ (un.frzs b ob _ z)
          rw [e] at e1
          cases e1
          exact e2
  cases hk : K.lookup a with
  | some o =>
    have e := hK a o hk
    rw [ha] at e
    cases e
    refine key (fun _ => none) (fun _ => .inl rfl) (.inr ?_) ?_ (fun b z => absurd rfl z)
    · exact ⟨_, vs.toArray, _, hk, rfl, rfl, rfl, by rw [List.size_toArray, lenV]; exact hl, by simpa using rv⟩
    · intro b u z
      exact nomatch (show (none : Option HO) = some u from z)
  | none =>
    let o₁ : Obj := { cls := .type "list", data := .seq vs.toArray }
    have up : ∀ b, upd (fun _ => none) a (.frz o₁ (.lst (ns.map V.int))) b ≠ none → b = a := by
      intro b z
      by_cases hb : b = a
      · exact hb
      · rw [upd_ne hb] at z
        exact absurd rfl z
    refine key (upd (fun _ => none) a (.frz o₁ (.lst (ns.map V.int)))) ?_ (.inl (.inr ⟨o₁, upd_same⟩)) ?_ ?_
    · intro b
      by_cases hb : b = a
      · subst hb
        exact .inr ⟨_, _, upd_same⟩
      · exact .inl (upd_ne hb)
    · intro b u z
      have hb : b = a := up b (by rw [z]; exact fun z => nomatch z)
      subst hb
      rw [upd_same] at z
      cases z
      exact ⟨ha, by rw [List.length_map]; exact hl, vs, _, rv, ha⟩
    · intro b z
      have hb := up b z
      subst hb
      exact ⟨rfl, hk⟩
theorem walkG {l : PySem.W.OpenLaw} {n k : Nat} {q : Program} {loose : List Str}
    {XP : (Str → Option Value) → Heap → Prop} {YP : World → Heap → Prop} {d : DefRec}
    {K : Params → PySem.W.Frag} {sp : PySem.W.Frag → Sp} {x : Str}
    (hn : l.most = some n) (hn2 : n ≤ sizeLine) (hdf : d.params.defaults = []) (hr : Room k callerA)
    (hY : ∀ (w : World) (h : Heap), YP w h → (K w.params).In h)
    (F : ∀ (w : World) (mg : Str → Option Value) (fa : Addr) (h : Heap), (K w.params).In h →
      h.Ns mainGlobals mg → mg d.name = some (.ref fa) →
      ∃ fd : FuncData, (∀ (s : Shared) (u : Value), BindsTo s fd ⟨[u], []⟩ [(x, u)]) ∧
        ∀ base : Heap, (K w.params).In base → base.Ns mainGlobals mg →
          FnG l.prog w (K w.params) mg base CX0 k fa fd [x] (sp (K w.params)))
    (hsp : ∀ (K : PySem.W.Frag) (H : Hp) (a : Addr) (ns : List Int), ns.length ≤ n → Only H →
      SqL K H a (ns.map V.int) → sp K [.ref a] H (fun v _ => v = .bl true) E0) :
    PySem.W.WalkO q loose XP YP l.row.toRowW d [] (fun f vs => PySem.call f vs) := by
  refine Att.attach_call hn hdf ?_
  intro w s₀ s₁ mg mb fa o pm cd doc a vs ns G Y ho hd hcd hmg hobj hints hlen hg
  obtain ⟨fd, hb, hF⟩ := F w mg fa _ (hY w _ Y) G.T.g hmg
  exact lawG (hY w _ Y) G.T.g G.T.b G.T.builtins G.T.nolimit hg hobj hints (Nat.le_trans hlen hn2) hr hF hb
    (fun H hO hS => hsp _ H a ns hlen hO hS)
section
variable {X : Cx}
/-- repr of data that is told by its values -/
theorem call_reprD (hgd : X.A.guards = some []) (hu : X.A.units + 64 < cLine) :
    CallR X (.builtin "repr") (fun xs H Q => ∃ (v : V) (d : PyData), xs = [v] ∧ Dp X.K H v d ∧
      isDisplay d = true ∧ d.showable = true ∧ d.hasDict = false ∧ d.depth ≤ 60 ∧ d.shown.length ≤ sizeLine ∧
      Q (.str d.shown) H) := by
  intro pins s σ H xs us Q I r h
  obtain ⟨v, d, rfl, hd, hi, hs, hn, hp, hz, q⟩ := h
  obtain ⟨u, rfl, rx⟩ := vals1 r
  obtain ⟨as, rd⟩ := Dp.reads I d v u hd rx
  obtain ⟨a, rfl⟩ := isRef_of_reads rd hi
  refine repr_of_reads' rd hs (PyData.noDict_hsm hn) hgd (by omega) (fun _ _ e => e) ?_ hz
  intro h' u tk hk
  exact ⟨.str d.shown, H, I.kept hk, ⟨u, rfl⟩, q⟩
end
end Lv

/-! further rules and what is said of heaps -/
namespace Lv
open PySem PySem.Spec PyProof.Rows L2
section
variable {X : Cx}
/-- powers of great numbers -/
def CPowW (i j : Int) : Prop := 0 ≤ j ∧ (Builtin.Int.intBits i : Int) * j ≤ 2 ^ 27
theorem op_powW : OpR X (binaryOp .Pow) (rI CPowW fun i j => .int (i ^ j.toNat)) :=
  opI fun _ _ _ _ _ _ _ hc q => pow_int hc.1 hc.2 q
theorem bits_le {i : Int} {n : Nat} (h : i.natAbs < 2 ^ n) (h0 : 0 < n) : (Builtin.Int.intBits i : Int) ≤ n := by
  have := PySem.Flt.log2_lt_of h0 h
  unfold Builtin.Int.intBits
  split <;> omega
theorem vals_get : ∀ {xs : List V} {us : List Value}, xs.length = us.length →
    (∀ (j : Nat) (u : Value), us[j]? = some u → ∃ x, xs[j]? = some x ∧ RelV x u) → Vals xs us
  | [], [], _, _ => .nil
  | [], _ :: _, h, _ => nomatch h
  | _ :: _, [], h, _ => nomatch h
  | x :: xs, u :: us, h, g => by
    obtain ⟨y, hy, r⟩ := g 0 u rfl
    cases hy
    refine .cons r (vals_get (Nat.succ.inj h) fun j v hv => ?_)
    exact g (j + 1) v hv
/-- the signs of a text as texts -/
def sgs (z : Str) : List V := z.cps.toList.map fun c => V.str ⟨#[c]⟩
/-- list(text) -/
theorem call_listS (hc : X.calm = true) : CallR X (.type "list") (fun xs H Q => ∃ z : Str, xs = [.str z] ∧
    z.length ≤ sizeLine ∧ ∀ l, H l = none → Q (.ref l) (upd H l (.lst (sgs z)))) := by
  intro pins s σ H xs us Q I r h
  obtain ⟨z, rfl, hz, q⟩ := h
  obtain ⟨u, rfl, t, rfl⟩ := vals1 r
  refine PySem.call_list_str (I.ok.hd hc) z t (fun h' tk acc c kp ho hit => ?_) hz
  obtain ⟨acc⟩ := acc
  refine ⟨.ref s.heap.objs.size, _, I.laid (t' := tk) kp (Nat.le_refl _)
    (show ObjOk X.prog X.w _ h' _ (.lst (sgs z)) from ⟨?_, acc, c, ?_, ho⟩), rfl, q _ (I.hok.fresh (Nat.le_refl _))⟩
  · unfold sgs
    rw [List.length_map]
    exact hz
  · refine vals_get ?_ ?_
    · unfold sgs
      have := hit.1
      simp at this ⊢
      exact this.symm
    · intro j v hv
      obtain ⟨c, u, hc, rfl⟩ := hit.2 j v (by simpa using hv)
      refine ⟨.str ⟨#[c]⟩, ?_, u, rfl⟩
      unfold sgs
      rw [List.getElem?_map, Array.getElem?_toList, hc]
      rfl
end
section
variable {X : Cx}
theorem call_intI : CallR X (.type "int") (fun xs H Q => ∃ i, xs = [.int i] ∧ Q (.int i) H) :=
  fun pins s σ H xs us Q I r h => call_int1 pins s σ H xs us Q I r (.inl h)
theorem call_intB : CallR X (.type "int") (fun xs H Q => ∃ k, xs = [.bl k] ∧ Q (.int (if k then 1 else 0)) H) :=
  fun pins s σ H xs us Q I r h => call_int1 pins s σ H xs us Q I r (.inr h)
end
section
variable {X : Cx}
/-- tuple(list) -/
def rTupL (K : PySem.W.Frag) : List V → Hp → VK → Prop := fun xs H Q => ∃ p ys, xs = [.ref p] ∧ SqL K H p ys ∧ ∀ l, H l = none → Q (.ref l) (upd H l (.tup ys))
theorem call_tupL : CallR X (.type "tuple") (rTupL X.K) := fun pins s σ H xs us Q I r h => by
  obtain ⟨p, ys, e, h1, h2⟩ := h
  exact call_tuple_of pins s σ H xs us Q I r ⟨p, ys, e, .inl ⟨h1, h2⟩⟩
/-- len of a list or a tuple -/
def rLenQ (K : PySem.W.Frag) : List V → Hp → VK → Prop := fun xs H Q => ∃ p ys, xs = [.ref p] ∧ (SqL K H p ys ∨ SqT K H p ys) ∧ Q (.int ys.length) H
theorem call_lenQ : CallR X (.builtin "len") (rLenQ X.K) := call_len_seq
/-- sep.join(list) -/
def rJoin (K : PySem.W.Frag) : V → List V → Hp → VK → Prop := fun x xs H Q => ∃ a p, ∃ ys : List Str, x = .str a ∧ xs = [.ref p] ∧ (SqL K H p (ys.map V.str) ∨ SqT K H p (ys.map V.str)) ∧
  (ys.map (·.length)).sum + ys.length * a.length ≤ 16777216 ∧ Q (.str (Txt.join a ys)) H
theorem pe_joinN {o e : Expr} {to te : TE} {apos pos : Pos} (ho : PE X o to) (he : PE X e te) (hs : starEach [e] X.env = [(false, eval e X.env)] := by rfl)
    (hbase : attributeBase o "join" X.env (eval o X.env) = eval o X.env := by rfl) (hline : (apos.endLine == pos.line) = true := by rfl) :
    PE X (.Call (.Attribute o "join" apos) [e] [] pos) (tM1 (rJoin X.K) to te) := pe_join ho he hs hbase hline
/-- dict(list of pairs) -/
def rDictPs (K : PySem.W.Frag) : List V → Hp → VK → Prop := fun xs H Q => ∃ (a : Addr) (ps : List Addr) (kvs : List (Key × V)), xs = [.ref a] ∧ SqL K H a (ps.map V.ref) ∧
  Paired (fun p kv => SqT K H p [kV kv.1, kv.2]) ps kvs ∧ ∀ p, H p = none → Q (.ref p) (upd H p (.dK (mergeK [] kvs)))
theorem call_dictPs (hc : X.calm = true) : CallR X (.type "dict") (rDictPs X.K) := call_dictP hc
end
theorem tupL {K : PySem.W.Frag} {H : Hp} {a : Addr} {xs : List V} {Q : VK} (h : SqL K H a xs) (q : ∀ p, H p = none → Q (.ref p) (upd H p (.tup xs))) : rTupL K [.ref a] H Q := ⟨a, xs, rfl, h, q⟩
theorem lenL {K : PySem.W.Frag} {H : Hp} {a : Addr} {xs : List V} {Q : VK} (h : SqL K H a xs) (q : Q (.int xs.length) H) : rLenQ K [.ref a] H Q := ⟨a, xs, rfl, .inl h, q⟩
theorem lenT {K : PySem.W.Frag} {H : Hp} {a : Addr} {xs : List V} {Q : VK} (h : SqT K H a xs) (q : Q (.int xs.length) H) : rLenQ K [.ref a] H Q := ⟨a, xs, rfl, .inr h, q⟩
theorem joinL' {K : PySem.W.Frag} {H : Hp} {a : Addr} {s : Str} {ys : List Str} {Q : VK} (h : SqL K H a (ys.map V.str)) (hl : (ys.map (·.length)).sum + ys.length * s.length ≤ 16777216)
    (q : Q (.str (Txt.join s ys)) H) : rJoin K (.str s) [.ref a] H Q := ⟨s, a, ys, rfl, rfl, .inl h, hl, q⟩
theorem tyl {K : PySem.W.Frag} {H : Hp} {a : Addr} {xs : List V} (h : SqL K H a xs) : tyV K "list" (.ref a) H := .inl ⟨rfl, xs, h⟩
theorem sql_of {K : PySem.W.Frag} {H : Hp} {a : Addr} {xs : List V} (h : H a = some (.lst xs)) : SqL K H a xs := .inl (.inl h)
theorem sqt_of {K : PySem.W.Frag} {H : Hp} {a : Addr} {xs : List V} (h : H a = some (.tup xs)) : SqT K H a xs := .inl (.inl h)
theorem sz100 {n : Nat} (h : n ≤ 100000) : n ≤ sizeLine := Nat.le_trans h (by decide)
theorem sz100' {n : Nat} (h : n < 100000) : n < sizeLine := Nat.lt_of_lt_of_le h (by decide)
theorem ixl {K : PySem.W.Frag} {H : Hp} {a : Addr} {xs : List V} {i : Int} {v : V} {Q : VK} (h : SqL K H a xs) (e : atI xs i = some v) (q : Q v H) :
    rIxL K (.ref a) (.int i) H Q := ⟨a, xs, i, v, rfl, rfl, h, e, q⟩
theorem setl {H : Hp} {a : Addr} {xs : List V} {i : Int} {j : Nat} {v : V} {Q : Hp → Prop} (h : H a = some (.lst xs)) (e : ixN xs.length i = some j)
    (q : Q (upd H a (.lst (xs.set j v)))) : rSetL (.ref a) (.int i) v H Q := ⟨a, xs, i, j, rfl, rfl, h, e, q⟩
theorem ixl_nat {K : PySem.W.Frag} {H : Hp} {a : Addr} {xs : List V} {j : Nat} {v : V} {Q : VK} (h : SqL K H a xs) (e : xs[j]? = some v) (q : Q v H) :
    rIxL K (.ref a) (.int j) H Q := ⟨a, xs, j, v, rfl, rfl, h, atI_nat e, q⟩
/-- of which built-in kind a value is; objects are tracked ones -/
inductive Kn (H : Hp) : V → String → Prop where
  | non : Kn H .non "NoneType"
  | bl (b : Bool) : Kn H (.bl b) "bool"
  | int (i : Int) : Kn H (.int i) "int"
  | str (z : Str) : Kn H (.str z) "str"
  | lst {a : Addr} {xs : List V} (h : H a = some (.lst xs)) : Kn H (.ref a) "list"
  | tup {a : Addr} {xs : List V} (h : H a = some (.tup xs)) : Kn H (.ref a) "tuple"
  | dK {a : Addr} {kvs : List (Key × V)} (h : H a = some (.dK kvs)) : Kn H (.ref a) "dict"
theorem Kn.ty {K : PySem.W.Frag} {H : Hp} {v : V} {t : String} (k : Kn H v t) : TyX K H v (.type t) := by
  cases k with
  | non => exact .base .non
  | bl b => exact .base (.bl b)
  | int i => exact .base (.int i)
  | str z => exact .base (.str z)
  | lst h => exact .base (.lst h)
  | tup h => exact .base (.tup h)
  | dK h => exact .base (.dK h)
theorem Kn.same {H H' : Hp} {v : V} {t : String} (e : Same H H') (k : Kn H v t) : Kn H' v t := by
  cases k with
  | non => exact .non
  | bl b => exact .bl b
  | int i => exact .int i
  | str z => exact .str z
  | lst h => exact .lst (e _ _ h)
  | tup h => exact .tup (e _ _ h)
  | dK h => exact .dK (e _ _ h)
/-- isinstance of such a value -/
theorem isi_kn {K : PySem.W.Frag} {H : Hp} {v : V} {t n : String} {b : Bool} {Q : VK} (k : Kn H v t)
    (hb : kitB t n = some b) (q : Q (.bl b) H) : rIsi K [v, .ty n] H Q :=
  ⟨v, .ty n, .type t, .type n, b, rfl, .ty n, k.ty, kit_ty hb, q⟩
theorem kit_bool : ∀ t ∈ ["NoneType", "int", "str", "list", "tuple", "dict"], kitB t "bool" = some false := by decide +kernel
theorem kit_int : ∀ t ∈ ["NoneType", "str", "list", "tuple", "dict"], kitB t "int" = some false := by decide +kernel
theorem kit_str : ∀ t ∈ ["NoneType", "bool", "int", "list", "tuple", "dict"], kitB t "str" = some false := by decide +kernel
theorem kit_tup : ∀ t ∈ ["NoneType", "bool", "int", "str", "list", "dict"], kitB t "tuple" = some false := by decide +kernel
theorem kit_self : ∀ t ∈ ["NoneType", "bool", "int", "str", "list", "tuple", "dict"], kitB t t = some true := by decide +kernel
theorem Kn.mem {H : Hp} {v : V} {t : String} (k : Kn H v t) : t ∈ ["NoneType", "bool", "int", "str", "list", "tuple", "dict"] := by
  cases k <;> decide
theorem same_new {H : Hp} {p : Addr} {o : HO} (h : H p = none) : Same H (upd H p o) := fun b x e => by
  rw [upd_ne (ne_of_none e h)]
  exact e
theorem same_mut {H H' : Hp} {p : Addr} {o : HO} (e : Same H H') (h : H p = none) : Same H (upd H' p o) := fun b x q => by
  rw [upd_ne (ne_of_none q h)]
  exact e _ _ q
/-! ### dice -/
/-- a list of three ints -/
def Dc (H : Hp) (d : Addr) : Prop := ∃ x y z : Int, H d = some (.lst [.int x, .int y, .int z])
/-- all but the dice is kept, and the dice are dice -/
structure Gr (d : Addr) (H H' : Hp) : Prop where
  pre : Dc H d
  keep : ∀ a o, a ≠ d → H a = some o → H' a = some o
  dice : Dc H' d
theorem Gr.refl {d : Addr} {H : Hp} (h : Dc H d) : Gr d H H := ⟨h, fun _ _ _ h => h, h⟩
theorem Gr.trans {d : Addr} {H H1 H2 : Hp} (a : Gr d H H1) (b : Gr d H1 H2) : Gr d H H2 :=
  ⟨a.pre, fun x o n h => b.keep x o n (a.keep x o n h), b.dice⟩
theorem Gr.roll {d : Addr} {H : Hp} {x y z : Int} (h : Dc H d) : Gr d H (upd H d (.lst [.int x, .int y, .int z])) :=
  ⟨h, fun a o n h => by rw [upd_ne n]; exact h, x, y, z, upd_same⟩
theorem Dc.same {d : Addr} {H H' : Hp} (h : Dc H d) (e : Same H H') : Dc H' d :=
  let ⟨x, y, z, q⟩ := h
  ⟨x, y, z, e _ _ q⟩
theorem Gr.same {d : Addr} {H H' : Hp} (h : Dc H d) (e : Same H H') : Gr d H H' := ⟨h, fun a o _ q => e a o q, h.same e⟩
theorem Dc.ne {d p : Addr} {H : Hp} (h : Dc H d) (n : H p = none) : p ≠ d := fun e => by
  obtain ⟨x, y, z, q⟩ := h
  rw [e, q] at n
  cases n
theorem Dc.ne_tup {d p : Addr} {H : Hp} {xs : List V} (h : Dc H d) (n : H p = some (.tup xs)) : p ≠ d := fun e => by
  obtain ⟨x, y, z, q⟩ := h
  rw [e, q] at n
  cases n
/-- what was free and is not the dice came later -/
theorem Gr.back {d p : Addr} {H H' : Hp} (g : Gr d H H') (h : H' p = none) : H p = none := by
  have ne := g.dice.ne h
  cases q : H p with
  | none => rfl
  | some o =>
    rw [g.keep p o ne q] at h
    cases h
/-- a thing that was not there before changes -/
theorem Gr.mut {d p : Addr} {H H' : Hp} {o : HO} (g : Gr d H H') (h : H p = none) (ne : p ≠ d) : Gr d H (upd H' p o) := by
  refine ⟨g.pre, fun a u n q => ?_, ?_⟩
  · rw [upd_ne (ne_of_none q h)]
    exact g.keep a u n q
  · obtain ⟨x, y, z, q⟩ := g.dice
    exact ⟨x, y, z, by rw [upd_ne ne.symm]; exact q⟩
theorem Gr.new {d p : Addr} {H : Hp} {o : HO} (h : Dc H d) (n : H p = none) : Gr d H (upd H p o) := Gr.same h (same_new n)
theorem Gr.rd {d p : Addr} {H H' : Hp} {u : HO} (g : Gr d H H') (ne : p ≠ d) (h : Rd H p u) : Rd H' p u := by
  rcases h with h | ⟨o, h⟩
  · exact .inl (g.keep _ _ ne h)
  · exact .inr ⟨o, g.keep _ _ ne h⟩
theorem Gr.sql {K : PySem.W.Frag} {d p : Addr} {H H' : Hp} {xs : List V} (g : Gr d H H') (ne : p ≠ d) (h : SqL K H p xs) : SqL K H' p xs := by
  rcases h with h | h
  · exact .inl (g.rd ne h)
  · exact .inr h
theorem Gr.sqt {K : PySem.W.Frag} {d p : Addr} {H H' : Hp} {xs : List V} (g : Gr d H H') (ne : p ≠ d) (h : SqT K H p xs) : SqT K H' p xs := by
  rcases h with h | h
  · exact .inl (g.rd ne h)
  · exact .inr h
theorem Kn.gr {d : Addr} {H H' : Hp} {v : V} {t : String} (g : Gr d H H') (k : Kn H v t) : Kn H' v t := by
  obtain ⟨x, y, z, hd⟩ := g.dice
  obtain ⟨x', y', z', h0⟩ := g.pre
  cases k with
  | non => exact .non
  | bl b => exact .bl b
  | int i => exact .int i
  | str z => exact .str z
  | @lst a xs h =>
    by_cases e : a = d
    · rw [e]
      exact .lst hd
    · exact .lst (g.keep _ _ e h)
  | @tup a xs h =>
    by_cases e : a = d
    · rw [e, h0] at h
      cases h
    · exact .tup (g.keep _ _ e h)
  | @dK a kvs h =>
    by_cases e : a = d
    · rw [e, h0] at h
      cases h
    · exact .dK (g.keep _ _ e h)
end Lv

/-! comprehensions whose elements leave all as it was, and such that roll dice -/
namespace Lv
open PySem PySem.Spec PyProof.Rows L2
section
variable {J : It} {n : Nat} {G : Hp → Prop} {Y : Nat → Hp → V → Hp → Prop} {g : TG} {tt : TT} {te : TE}
  {vs : List Nat} {σ : L2.St} {H1 : Hp} {Q : VK}
/-- the body of a comprehension's reading, behind what it walks -/
def LcB (J : It) (g : TG) (tt : TT) (te : TE) (vs : List Nat) (σ : L2.St) (Q : VK) (H1 : Hp) : Prop :=
  ∀ D, H1 D = none → ∃ W : Nat → Nat → Hp → Prop, (∃ m, W 0 m (upd H1 D (.lst []))) ∧ ∀ i m H, W i m H →
    (J.stop i H ∧ Q (.ref D) H) ∨ (J.go i H ∧ ∃ Nx : Hp → Prop, (∀ H', Nx H' → ∃ m', m' < m ∧ W (i + 1) m' H') ∧
      ∀ x H', J.yld i H x H' → g x (wipe σ vs) H' fun σ2 H2 => wipe σ2 vs = wipe σ vs ∧ tt σ2 H2 fun b H3 =>
        if b = true then te σ2 H3 fun y H4 => ∃ acc, H4 D = some (.lst acc) ∧ acc.length < sizeLine ∧
          Nx (upd H4 D (.lst (acc ++ [y]))) else Nx H3)
theorem tLc_eq {wi : TI} {H : Hp} : tLc wi g tt te vs σ H Q = wi σ H fun J H1 => LcB J g tt te vs σ Q H1 := rfl
/-- each element is f i, and all stays as it was -/
theorem lc_same (w : Walk J n G Y) (f : Nat → V) (hn : n ≤ sizeLine) (hG : ∀ H, Same H1 H → G H)
    (hs : ∀ i x H H', i < n → Same H1 H → Y i H x H' → ∀ R : VK, (∀ H4, Same H H4 → R (f i) H4) →
      g x (wipe σ vs) H' fun σ2 H2 => wipe σ2 vs = wipe σ vs ∧ tt σ2 H2 fun b H3 => b = true ∧ te σ2 H3 R)
    (mono : ∀ (x : V) (σ' : L2.St) (H' : Hp) (A B : L2.St → Hp → Prop), (∀ s h, A s h → B s h) → g x σ' H' A → g x σ' H' B)
    (monoT : ∀ (σ' : L2.St) (H' : Hp) (A B : Bool → Hp → Prop), (∀ b h, A b h → B b h) → tt σ' H' A → tt σ' H' B)
    (hd : ∀ H D, Same H1 H → H1 D = none → H D = some (.lst ((List.range n).map f)) → Q (.ref D) H) :
    LcB J g tt te vs σ Q H1 := by
  intro D hD
  refine lc_it w (fun i H => Same H1 H ∧ H D = some (.lst ((List.range i).map f))) ⟨same_new hD, upd_same⟩
    (fun i H _ h => hG H h.1) ?_ (fun H h => hd H D h.1 hD h.2)
  rintro i x H H' hi ⟨hS, hL⟩ hy
  have := hs i x H H' hi hS hy
    (fun y H4 => ∃ acc, H4 D = some (.lst acc) ∧ acc.length < sizeLine ∧
      (Same H1 (upd H4 D (.lst (acc ++ [y]))) ∧ upd H4 D (.lst (acc ++ [y])) D = some (.lst ((List.range (i + 1)).map f))))
    (fun H4 h4 => ⟨_, h4 _ _ hL, by rw [List.length_map, List.length_range]; omega, same_mut (hS.trans h4) hD, by
      rw [upd_same, List.range_succ, List.map_append]
      rfl⟩)
  refine mono _ _ _ _ _ ?_ this
  rintro s h ⟨e, h2⟩
  refine ⟨e, monoT _ _ _ _ ?_ h2⟩
  rintro b h3 ⟨rfl, h4⟩
  rw [if_pos rfl]
  exact h4
/-- elements that are drawn: each has P -/
theorem lc_gr {d : Addr} (w : Walk J n G Y) (P : Nat → V → Prop) (hn : n ≤ sizeLine) (h0 : Dc H1 d) (hG : ∀ H, Gr d H1 H → G H)
    (hs : ∀ i x H H', i < n → Gr d H1 H → Y i H x H' → ∀ R : VK, (∀ y H4, P i y → Gr d H H4 → R y H4) →
      g x (wipe σ vs) H' fun σ2 H2 => wipe σ2 vs = wipe σ vs ∧ tt σ2 H2 fun b H3 => b = true ∧ te σ2 H3 R)
    (mono : ∀ (x : V) (σ' : L2.St) (H' : Hp) (A B : L2.St → Hp → Prop), (∀ s h, A s h → B s h) → g x σ' H' A → g x σ' H' B)
    (monoT : ∀ (σ' : L2.St) (H' : Hp) (A B : Bool → Hp → Prop), (∀ b h, A b h → B b h) → tt σ' H' A → tt σ' H' B)
    (hd : ∀ H D ys, Gr d H1 H → H1 D = none → D ≠ d → ys.length = n → (∀ i y, ys[i]? = some y → P i y) →
      H D = some (.lst ys) → Q (.ref D) H) :
    LcB J g tt te vs σ Q H1 := by
  intro D hD
  have ne := h0.ne hD
  refine lc_it w (fun i H => Gr d H1 H ∧ ∃ ys : List V, ys.length = i ∧ (∀ j y, ys[j]? = some y → P j y) ∧ H D = some (.lst ys))
    ⟨Gr.new h0 hD, [], rfl, (fun j y e => by simp at e), upd_same⟩ (fun i H _ h => hG H h.1) ?_
    (fun H h => ?_)
  · rintro i x H H' hi ⟨hS, ys, hl, hp, hL⟩ hy
    have := hs i x H H' hi hS hy
      (fun y H4 => ∃ acc, H4 D = some (.lst acc) ∧ acc.length < sizeLine ∧ (Gr d H1 (upd H4 D (.lst (acc ++ [y]))) ∧
        ∃ zs : List V, zs.length = i + 1 ∧ (∀ j z, zs[j]? = some z → P j z) ∧ upd H4 D (.lst (acc ++ [y])) D = some (.lst zs)))
      (fun y H4 hy h4 => ⟨ys, h4.keep _ _ ne hL, by omega, (hS.trans h4).mut hD ne, ys ++ [y], by
        rw [List.length_append, hl]
        rfl, fun j z hz => ?_, upd_same⟩)
    · refine mono _ _ _ _ _ ?_ this
      rintro s h ⟨e, h2⟩
      refine ⟨e, monoT _ _ _ _ ?_ h2⟩
      rintro b h3 ⟨rfl, h4⟩
      rw [if_pos rfl]
      exact h4
    · by_cases hj : j < ys.length
      · rw [List.getElem?_append_left hj] at hz
        exact hp j z hz
      · rw [List.getElem?_append_right (by omega)] at hz
        have e : j = i := by
          cases hq : j - ys.length with
          | zero => omega
          | succ m =>
            rw [hq] at hz
            exact nomatch hz
        subst e
        rw [hl, Nat.sub_self] at hz
        cases hz
        exact hy
  · obtain ⟨hS, ys, hl, hp, hL⟩ := h
    exact hd H D ys hS hD ne hl hp hL
end
section
variable {J : It} {n : Nat} {G : Hp → Prop} {Y : Nat → Hp → V → Hp → Prop} {g : TG} {tb : TS} {D : Ends} {σ : L2.St} {H : Hp}
/-- the body of a for's reading, behind what it walks -/
def ForB (J : It) (g : TG) (tb : TS) (D : Ends) (σ : L2.St) (H : Hp) : Prop :=
  ∃ W : Nat → Nat → L2.St → Hp → Prop, (∃ m, W 0 m σ H) ∧ ∀ i m σ H, W i m σ H →
    (J.stop i H ∧ D.nx σ H) ∨ (J.go i H ∧ ∃ N : L2.St → Hp → Prop, (∀ σ' H', N σ' H' → ∃ m', m' < m ∧ W (i + 1) m' σ' H') ∧
      ∀ x H', J.yld i H x H' → g x σ H' fun σ2 H2 => tb { D with nx := N, ct := N, bk := D.nx } σ2 H2)
theorem tFor_eq {wi : TI} : tFor wi g tb D σ H = wi σ H fun J H1 => ForB J g tb D σ H1 := rfl
/-- a for by its invariant -/
theorem forB (w : Walk J n G Y) (Pv : Nat → L2.St → Hp → Prop) (h0 : Pv 0 σ H) (hG : ∀ i σ H, i ≤ n → Pv i σ H → G H)
    (hs : ∀ i x σ H H', i < n → Pv i σ H → Y i H x H' → g x σ H' fun σ2 H2 => tb { D with nx := Pv (i + 1), ct := Pv (i + 1), bk := D.nx } σ2 H2)
    (hd : ∀ σ H, Pv n σ H → D.nx σ H) : ForB J g tb D σ H := for_it w Pv h0 hG hs hd
end
theorem mono_name {i : Nat} (x : V) (σ' : L2.St) (H' : Hp) (A B : L2.St → Hp → Prop) (h : ∀ s h, A s h → B s h) (q : gName i x σ' H' A) : gName i x σ' H' B := h _ _ q
theorem mono_yes (σ' : L2.St) (H' : Hp) (A B : Bool → Hp → Prop) (h : ∀ b h, A b h → B b h) (q : tYes σ' H' A) : tYes σ' H' B := h _ _ q
end Lv

/-! texts made of drawn signs -/
namespace Lv
open PySem PySem.Spec PyProof.Rows L2
/-- a text of one sign -/
abbrev sg (c : Nat) : Str := ⟨#[c]⟩
theorem sgs_eq (z : Str) : sgs z = z.cps.toList.map fun c => V.str (sg c) := rfl
theorem ex_cs {P : Nat → Prop} : ∀ {ys : List V}, (∀ (i : Nat) (y : V), ys[i]? = some y → ∃ c, y = V.str (sg c) ∧ P c) →
    ∃ cs : List Nat, ys = (cs.map sg).map V.str ∧ cs.length = ys.length ∧ ∀ c ∈ cs, P c
  | [], _ => ⟨[], rfl, rfl, fun c h => nomatch h⟩
  | y :: ys, h => by
    obtain ⟨c, rfl, pc⟩ := h 0 y rfl
    obtain ⟨cs, rfl, e, p⟩ := ex_cs (ys := ys) fun i y hy => h (i + 1) y hy
    refine ⟨c :: cs, rfl, by simp, fun x hx => ?_⟩
    rcases List.mem_cons.mp hx with rfl | hx
    · exact pc
    · exact p x hx
theorem joinL_nil : ∀ ps : List (List Nat), TL.joinL [] ps = ps.flatten
  | [] => rfl
  | [p] => by simp [TL.joinL]
  | p :: q :: r => by
    show p ++ ([] ++ TL.joinL [] (q :: r)) = _
    rw [joinL_nil (q :: r)]
    rfl
theorem tl_joinSg (cs : List Nat) : TL.tl (Txt.join (Str.ofString "") (cs.map sg)) = cs := by
  rw [TL.join_eq, TL.tl_join, show TL.tl (Str.ofString "") = [] from rfl, joinL_nil, List.map_map]
  induction cs with
  | nil => rfl
  | cons c cs ih =>
    show [c] ++ (cs.map (TL.tl ∘ sg)).flatten = c :: cs
    rw [ih]
    rfl
theorem sum_ones : ∀ cs : List Nat, ((cs.map sg).map (·.length)).sum = cs.length
  | [] => rfl
  | c :: cs => by
    show 1 + ((cs.map sg).map (·.length)).sum = cs.length + 1
    rw [sum_ones cs]
    omega
theorem len_tl (z : Str) : z.length = (TL.tl z).length := by
  show z.cps.size = z.cps.toList.length
  rw [Array.length_toList]
theorem inV_swap (x a b : V) : inV x [a, b] = inV x [b, a] := by
  unfold inV
  simp [Bool.or_comm]
end Lv

/-! repr of lists of truths -/
namespace Lv
open PySem PySem.Spec PyProof.Rows L2
/-- what repr asks of data -/
def RpOk (d : PyData) : Prop := isDisplay d = true ∧ d.showable = true ∧ d.hasDict = false ∧ d.depth ≤ 60 ∧ d.shown.length ≤ sizeLine
def rRp (K : PySem.W.Frag) : List V → Hp → VK → Prop := fun xs H Q => ∃ (v : V) (d : PyData), xs = [v] ∧ Dp K H v d ∧ RpOk d ∧ Q (.str d.shown) H
theorem call_rp {X : Cx} (hgd : X.A.guards = some []) (hu : X.A.units + 64 < cLine) : CallR X (.builtin "repr") (rRp X.K) := by
  intro pins s σ H xs us Q I r h
  obtain ⟨v, d, rfl, hd, ⟨h1, h2, h3, h4, h5⟩, q⟩ := h
  exact call_reprD hgd hu pins s σ H _ us Q I r ⟨v, d, rfl, hd, h1, h2, h3, h4, h5, q⟩
def dB (bs : List Bool) : PyData := .list (bs.map PyData.bool)
theorem shownB : ∀ bs : List Bool, ((PyData.shownAll (bs.map PyData.bool)).map (·.length)).sum + 2 * (PyData.shownAll (bs.map PyData.bool)).length ≤ 7 * bs.length
  | [] => by simp [PyData.shownAll]
  | b :: bs => by
    have := shownB bs
    rw [List.map_cons, PyData.shownAll, List.map_cons, List.sum_cons, List.length_cons, List.length_cons]
    have : (PyData.bool b).shown.length ≤ 5 := by cases b <;> decide +kernel
    omega
theorem showB : ∀ bs : List Bool, PyData.showableAll (bs.map PyData.bool) = true
  | [] => by simp [PyData.showableAll]
  | b :: bs => by simp [PyData.showableAll, PyData.showable, showB bs]
theorem dictB : ∀ bs : List Bool, PyData.hasDictAll (bs.map PyData.bool) = false
  | [] => by simp [PyData.hasDictAll]
  | b :: bs => by simp [PyData.hasDictAll, PyData.hasDict, dictB bs]
theorem depthB : ∀ bs : List Bool, PyData.depthAll (bs.map PyData.bool) ≤ 10
  | [] => by simp [PyData.depthAll]
  | b :: bs => by
    have := depthB bs
    rw [List.map_cons, PyData.depthAll]
    simp [PyData.depth]
    omega
theorem dB_ok {bs : List Bool} (h : bs.length ≤ 1000) : RpOk (dB bs) := by
  refine ⟨rfl, ?_, ?_, ?_, ?_⟩
  · simp only [dB, PyData.showable]
    exact showB bs
  · simp only [dB, PyData.hasDict]
    exact dictB bs
  · have := depthB bs
    simp only [dB, PyData.depth]
    omega
  · have h1 := shownB bs
    have h2 := listText_len_le (PyData.shownAll (bs.map PyData.bool))
    simp only [dB, PyData.shown]
    exact sz100 (by omega)
theorem dpB {K : PySem.W.Frag} {H : Hp} : ∀ bs : List Bool, DpAll K H (bs.map V.bl) (bs.map PyData.bool)
  | [] => .nil
  | b :: bs => .cons (.bl b) (dpB bs)
theorem qeq {x y : Str} {H : Hp} {Q : VK} (h : x = y) (q : Q (.bl true) H) : Q (.bl (decide (V.str x = V.str y))) H := by
  subst h
  rw [decide_eq_true rfl]
  exact q
theorem qne {x y : Str} {H : Hp} {Q : VK} (h : x = y) (q : Q (.bl false) H) : Q (.bl (!decide (V.str x = V.str y))) H := by
  subst h
  rw [decide_eq_true rfl]
  exact q
/-- repr of a list of truths -/
theorem rp_bools {K : PySem.W.Frag} {H : Hp} {p : Addr} {Q : VK} (bs : List Bool) (hp : SqL K H p (bs.map V.bl)) (hn : bs.length ≤ 1000) (q : Q (.str (dB bs).shown) H) :
    rRp K [.ref p] H Q := ⟨.ref p, dB bs, rfl, .lst hp (dpB bs), dB_ok hn, q⟩
/-- repr(p) != repr([..]) of equal truths, and repr(p) == repr([..]) -/
theorem rp_ne {K : PySem.W.Frag} {H : Hp} {p : Addr} {n : Nat} {A B : Hp → Prop} (bs cs : List Bool) (hp : SqL K H p (bs.map V.bl)) (hn : bs.length ≤ 1000) (hs : n ≤ sizeLine) (e : bs = cs)
    (h : ∀ q, H q = none → B (upd H q (.lst (cs.map V.bl)))) :
    rRp K [.ref p] H fun x H1 => n ≤ sizeLine ∧ ∀ q, H1 q = none → rRp K [.ref q] (upd H1 q (.lst (cs.map V.bl))) fun y H2 =>
      scal x y = true ∧ if (!decide (x = y)) = true then A H2 else B H2 := by
  subst e
  refine rp_bools bs hp hn ⟨hs, fun q hq => rp_bools bs (sql_of upd_same) hn ⟨rfl, ?_⟩⟩
  rw [decide_eq_true rfl]
  exact iteF (h q hq)
theorem rp_eq {K : PySem.W.Frag} {H : Hp} {p : Addr} {n : Nat} {Q : VK} (bs cs : List Bool) (hp : SqL K H p (bs.map V.bl)) (hn : bs.length ≤ 1000) (hs : n ≤ sizeLine) (e : bs = cs)
    (h : ∀ q, H q = none → Q (.bl true) (upd H q (.lst (cs.map V.bl)))) :
    rRp K [.ref p] H fun x H1 => n ≤ sizeLine ∧ ∀ q, H1 q = none → rRp K [.ref q] (upd H1 q (.lst (cs.map V.bl))) fun y H2 =>
      scal x y = true ∧ Q (.bl (decide (x = y))) H2 := by
  subst e
  refine rp_bools bs hp hn ⟨hs, fun q hq => rp_bools bs (sql_of upd_same) hn ⟨rfl, ?_⟩⟩
  rw [decide_eq_true rfl]
  exact h q hq
end Lv

/-! what the words' defs and the law's dice promise -/
namespace Lv
open PySem PySem.Spec PyProof.Rows L2
section
variable {K : PySem.W.Frag}
/-- is_integer -/
def intV : V → Bool
  | .int i => decide ((if i < 0 then -i else i) < 10 ^ 60)
  | _ => false
def sp_is_integer : Sp := fun vs H Q _ => ∃ (v : V) (t : String), vs = [v] ∧ Kn H v t ∧ Q (.bl (intV v)) H
/-- is_name -/
def lowC (c : Nat) : Bool := !decide ([c] < (Str.ofString "a").cps.toList) && !decide ((Str.ofString "z").cps.toList < [c])
theorem range_map {α : Type} (f : Nat → α) (l : List Nat) : ((List.range l.length).map fun i => f (l[i]?.getD 0)) = l.map f := by
  apply List.ext_getElem
  · simp
  · intro i h1 h2
    have h3 : i < l.length := by simpa using h2
    simp [h3]
def isNm (z : Str) : Bool := decide ((1 : Int) ≤ z.length) && decide ((z.length : Int) ≤ 8) && !inV (.str z) [.str "gives", .str "to"] && z.cps.toList.all lowC
def nameV : V → Bool
  | .str z => isNm z
  | _ => false
def sp_is_name : Sp := fun vs H Q _ => ∃ (v : V) (t : String), vs = [v] ∧ Kn H v t ∧ (∀ z, v = .str z → z.length ≤ sizeLine) ∧ ∀ H', Same H H' → Q (.bl (nameV v)) H'
theorem kit_ntup {H : Hp} {v : V} {t : String} (k : Kn H v t) (n : t ≠ "tuple") : kitB t "tuple" = some false := by
  cases k with
  | tup h => exact absurd rfl n
  | _ => decide +kernel
/-- is_names -/
def namesV (xs : List V) (lo hi : Int) : Bool := decide (lo ≤ (xs.length : Int)) && decide ((xs.length : Int) ≤ hi) && xs.all nameV
/-- a value told to is_names: of which kind it is, and if it is a tuple, its items -/
inductive Told (H : Hp) : V → List V → Bool → Prop where
  | tup {a : Addr} {xs : List V} (h : H a = some (.tup xs)) (k : ∀ x ∈ xs, ∃ t, Kn H x t) (z : ∀ y, V.str y ∈ xs → y.length ≤ sizeLine) : Told H (.ref a) xs true
  | oth {v : V} {t : String} (k : Kn H v t) (n : t ≠ "tuple") : Told H v [] false
def sp_is_names : Sp := fun vs H Q _ => ∃ (v : V) (xs : List V) (b : Bool) (lo hi : Int), vs = [v, .int lo, .int hi] ∧ hi ≤ 1000 ∧ Told H v xs b ∧ ∀ H', Same H H' → Q (.bl (b && namesV xs lo hi)) H'
def sp_is_type : Sp := fun vs H Q _ => ∃ (v : V) (xs : List V) (b : Bool), vs = [v] ∧ Told H v xs b ∧ ∀ H', Same H H' → Q (.bl (b && namesV xs 1 401)) H'
def sp_is_front : Sp := fun vs H Q _ => ∃ (v : V) (xs : List V) (b : Bool), vs = [v] ∧ Told H v xs b ∧ ∀ H', Same H H' → Q (.bl (b && namesV xs 0 400)) H'
theorem seqIx {j n : Nat} (h : j < n) : seqIndex? (j : Int) n = some j := by
  unfold seqIndex?
  simp
  omega
/-- _law_dice: three ints, whatever they are -/
def sp_law_dice (K : PySem.W.Frag) : Sp := fun vs H Q _ => ∃ (a : Addr) (ns : List Int) (k : Nat), vs = [.ref a, .int k] ∧ SqL K H a (ns.map V.int) ∧ k ≤ 100 ∧
  ∀ p x y z, H p = none → Q (.ref p) (upd H p (.lst [.int x, .int y, .int z]))
/-- _law_roll: a number below the bound -/
def sp_law_roll : Sp := fun vs H Q _ => ∃ (d : Addr) (n : Int), vs = [.ref d, .int n] ∧ 0 < n ∧ n < 1073741824 ∧ Dc H d ∧
  ∀ r x y z : Int, 0 ≤ r → r < n → Q (.int r) (upd H d (.lst [.int x, .int y, .int z]))
/-- _law_pick: one of the items -/
def sp_law_pick (K : PySem.W.Frag) : Sp := fun vs H Q _ => ∃ (d : Addr) (v : V), vs = [.ref d, v] ∧ Dc H d ∧
  ((∃ (p : Addr) (xs : List V), v = .ref p ∧ p ≠ d ∧ SqL K H p xs ∧ xs ≠ [] ∧ xs.length < 1073741824 ∧ ∀ y H', y ∈ xs → Gr d H H' → Q y H') ∨
   ∃ z : Str, v = .str z ∧ z.length ≤ sizeLine ∧ 0 < z.length ∧ z.length < 1073741824 ∧ ∀ c H', c ∈ z.cps.toList → Gr d H H' → Q (.str ⟨#[c]⟩) H')
/-- _law_some of a text: signs of it, some of them -/
def sp_law_some : Sp := fun vs H Q _ => ∃ (d : Addr) (z : Str) (n : Int), vs = [.ref d, .str z, .int n] ∧ Dc H d ∧ 0 ≤ n ∧ z.length ≤ 1000 ∧
  ∀ p H' (ys : List V), Gr d H H' → H p = none → p ≠ d → H' p = some (.lst ys) → (∀ y ∈ ys, y ∈ sgs z) → ys.length = min n.toNat z.length → Q (.ref p) H'
def inv_some (d l p : Addr) (z : Str) (n : Int) (H : Hp) : Nat → L2.St → Hp → Prop := fun i σ H' =>
  ∃ (x5 : Option V) (ls fs : List V), σ = [some (.ref d), some (.str z), some (.int n), some (.ref l), some (.ref p), x5] ∧ Gr d H H' ∧
      H' l = some (.lst ls) ∧ H' p = some (.lst fs) ∧ ls.length + i = z.length ∧ fs.length = i ∧ (∀ y ∈ ls, y ∈ sgs z) ∧ ∀ y ∈ fs, y ∈ sgs z
abbrev abc : Str := "abcdefghijklmnopqrstuvwxyz"
def sp_law_names : Sp := fun vs H Q _ => ∃ (d : Addr) (n : Int), vs = [.ref d, .int n] ∧ Dc H d ∧ 0 ≤ n ∧
  ∀ p H' (ws : List Str), Gr d H H' → H p = none → p ≠ d → H' p = some (.lst (ws.map V.str)) → (∀ w ∈ ws, isNm w = true) → ws.length = min n.toNat 26 → Q (.ref p) H'
def inv_names (d l p : Addr) (n : Int) (ys : List V) (H : Hp) : Nat → L2.St → Hp → Prop := fun i σ H' =>
  ∃ (x4 x5 x6 x7 : Option V) (ws : List Str), σ = [some (.ref d), some (.int n), some (.ref p), some (.str abc), x4, x5, x6, x7] ∧ Gr d H H' ∧
      H' l = some (.lst ys) ∧ H' p = some (.lst (ws.map V.str)) ∧ ws.length = i ∧ ∀ w ∈ ws, isNm w = true
theorem abc_low : ∀ c ∈ abc.cps.toList, lowC c = true := by decide +kernel
theorem isNm_of {z : Str} (h1 : 1 ≤ z.length) (h2 : z.length ≤ 8) (h3 : inV (.str z) [.str "gives", .str "to"] = false) (h4 : ∀ c ∈ TL.tl z, lowC c = true) : isNm z = true := by
  unfold isNm
  rw [decide_eq_true (show (1 : Int) ≤ z.length by omega), decide_eq_true (show (z.length : Int) ≤ 8 by omega), h3, show z.cps.toList.all lowC = true from List.all_eq_true.mpr h4]
  rfl
theorem isNm_one : ∀ c ∈ abc.cps.toList, isNm (sg c) = true := by decide +kernel
def sp_law_odd_sign : Sp := fun vs H Q _ => ∃ (d : Addr), vs = [.ref d] ∧ Dc H d ∧ ∀ c H', lowC c = false → Gr d H H' → Q (.str ⟨#[c]⟩) H'
theorem pick_new {H : Hp} {d p : Addr} {xs : List V} {Q : VK} {E : XK} (hd : Dc H d) (hp : H p = none) (hne : xs ≠ []) (hl : xs.length < 1073741824)
    (q : ∀ y H', y ∈ xs → Gr d H H' → Q y H') : sp_law_pick K [.ref d, .ref p] (upd H p (.lst xs)) Q E :=
  ⟨d, _, rfl, (Gr.new hd hp).dice, .inl ⟨p, xs, rfl, hd.ne hp, sql_of upd_same, hne, hl, fun y H' hy g => q y H' hy ((Gr.new hd hp).trans g)⟩⟩
theorem roll_new {H : Hp} {d : Addr} {n : Int} {Q : VK} {E : XK} (hd : Dc H d) (h0 : 0 < n) (h1 : n < 1073741824)
    (q : ∀ (r : Int) H', 0 ≤ r → r < n → Gr d H H' → Q (.int r) H') : sp_law_roll [.ref d, .int n] H Q E :=
  ⟨d, n, rfl, h0, h1, hd, fun r x y z a b => q r _ a b (Gr.roll hd)⟩
theorem isint {H : Hp} {v : V} {t : String} {Q : VK} {E : XK} (k : Kn H v t) (q : Q (.bl (intV v)) H) : sp_is_integer [v] H Q E := ⟨v, t, rfl, k, q⟩
def sp_right : Sp := fun vs H Q _ => ∃ (d : Addr), vs = [.ref d] ∧ Dc H d ∧ ∀ H', Gr d H H' → Q (.bl true) H'
theorem isname {H : Hp} {v : V} {t : String} {Q : VK} {E : XK} (k : Kn H v t) (z : ∀ y, v = .str y → y.length ≤ sizeLine) (q : ∀ H', Same H H' → Q (.bl (nameV v)) H') : sp_is_name [v] H Q E :=
  ⟨v, t, rfl, k, z, q⟩
theorem isnameS {H : Hp} {y : Str} {Q : VK} {E : XK} (z : y.length ≤ sizeLine) (q : ∀ H', Same H H' → Q (.bl (isNm y)) H') : sp_is_name [.str y] H Q E :=
  isname (.str y) (fun x e => by cases e; exact z) q
/-- items of a tuple that are told -/
structure Itm (H : Hp) (xs : List V) : Prop where
  kn : ∀ x ∈ xs, ∃ t, Kn H x t
  sz : ∀ y, V.str y ∈ xs → y.length ≤ sizeLine
theorem Itm.nil {H : Hp} : Itm H [] := ⟨(fun x h => nomatch h), (fun y h => nomatch h)⟩
theorem Itm.cons {H : Hp} {x : V} {xs : List V} {t : String} (k : Kn H x t) (z : ∀ y, x = .str y → y.length ≤ sizeLine) (r : Itm H xs) : Itm H (x :: xs) := by
  refine ⟨fun y h => ?_, fun y h => ?_⟩
  · rcases List.mem_cons.mp h with rfl | h
    · exact ⟨t, k⟩
    · exact r.kn y h
  · rcases List.mem_cons.mp h with h | h
    · exact z y h.symm
    · exact r.sz y h
theorem Itm.str {H : Hp} {y : Str} {xs : List V} (z : y.length ≤ sizeLine) (r : Itm H xs) : Itm H (.str y :: xs) := r.cons (.str y) (fun x e => by cases e; exact z)
theorem Itm.same {H H' : Hp} {xs : List V} (s : Same H H') (r : Itm H xs) : Itm H' xs := ⟨fun x h => (r.kn x h).imp fun _ k => k.same s, r.sz⟩
theorem Itm.gr {d : Addr} {H H' : Hp} {xs : List V} (s : Gr d H H') (r : Itm H xs) : Itm H' xs := ⟨fun x h => (r.kn x h).imp fun _ k => k.gr s, r.sz⟩
theorem istype {H : Hp} {p : Addr} {xs : List V} {Q : VK} {E : XK} (h : H p = some (.tup xs)) (i : Itm H xs) (q : ∀ H', Same H H' → Q (.bl (namesV xs 1 401)) H') : sp_is_type [.ref p] H Q E :=
  ⟨_, xs, true, rfl, .tup h i.kn i.sz, fun H' s => by rw [Bool.true_and]; exact q H' s⟩
theorem isfront {H : Hp} {p : Addr} {xs : List V} {Q : VK} {E : XK} (h : H p = some (.tup xs)) (i : Itm H xs) (q : ∀ H', Same H H' → Q (.bl (namesV xs 0 400)) H') : sp_is_front [.ref p] H Q E :=
  ⟨_, xs, true, rfl, .tup h i.kn i.sz, fun H' s => by rw [Bool.true_and]; exact q H' s⟩
theorem notype {H : Hp} {v : V} {t : String} {Q : VK} {E : XK} (k : Kn H v t) (n : t ≠ "tuple") (q : ∀ H', Same H H' → Q (.bl false) H') : sp_is_type [v] H Q E :=
  ⟨_, [], false, rfl, .oth k n, fun H' s => by rw [Bool.false_and]; exact q H' s⟩
theorem nofront {H : Hp} {v : V} {t : String} {Q : VK} {E : XK} (k : Kn H v t) (n : t ≠ "tuple") (q : ∀ H', Same H H' → Q (.bl false) H') : sp_is_front [v] H Q E :=
  ⟨_, [], false, rfl, .oth k n, fun H' s => by rw [Bool.false_and]; exact q H' s⟩
theorem due_new {c : Bool} {H : Hp} {x : V} {a b : Str} {R : VK} (hx : flatV x = true) (h : ∀ H', Same H H' → R (.bl (c && !inV x [.str a, .str b])) H') :
    if c = true then 2 ≤ sizeLine ∧ ∀ p, H p = none → rIn K true x (.ref p) (upd H p (.tup [.str a, .str b])) R else R (.bl false) H := by
  cases c with
  | true => exact iteT ⟨by decide, fun p hp => ⟨p, _, rfl, .inr (sqt_of upd_same), hx, rfl, h _ (same_new hp)⟩⟩
  | false => exact iteF (h _ (Same.refl _))
theorem ne_not {a b : Str} {A B : Prop} (e : a = b) (h : B) : if (!decide (V.str a = V.str b)) = true then A else B := by
  rw [decide_eq_true (congrArg V.str e)]
  exact iteF h
theorem names1 (z : Str) : namesV [.str z] 1 401 = isNm z := by
  simp [namesV, nameV]
theorem names0 (z : Str) : namesV [.str z] 0 400 = isNm z := by
  simp [namesV, nameV]
theorem names_bad {xs : List V} {lo hi : Int} {x : V} (h : x ∈ xs) (n : nameV x = false) : namesV xs lo hi = false := by
  unfold namesV
  have : xs.all nameV = false := by
    rw [List.all_eq_false]
    exact ⟨x, h, by rw [n]; exact Bool.false_ne_true⟩
  rw [this, Bool.and_false]
theorem slT {H : Hp} {a : Addr} {xs : List V} {lo hi : Option Int} {Q : VK} (h : H a = some (.tup xs))
    (q : ∀ p H', Same H H' → H' p = some (.tup (cutV xs lo hi)) → Q (.ref p) H') : rSlA K (.ref a) lo hi H Q := by
  refine ⟨a, xs, rfl, sqt_of h, fun e => q a H (Same.refl _) ?_, fun _ p hp => q p _ (same_new hp) upd_same⟩
  rw [h]
  unfold cutV
  rw [e.1, e.2]
  simp
theorem catT {H : Hp} {a b : Addr} {xs ys : List V} {Q : VK} (ha : H a = some (.tup xs)) (hb : H b = some (.tup ys)) (hl : xs.length + ys.length ≤ sizeLine)
    (q : ∀ p H', Same H H' → H' p = some (.tup (xs ++ ys)) → Q (.ref p) H') : rCatA K (.ref a) (.ref b) H Q := by
  refine ⟨a, b, xs, ys, rfl, rfl, sqt_of ha, sqt_of hb, hl, fun e => q b H (Same.refl _) ?_, fun _ e => q a H (Same.refl _) ?_, fun _ _ p hp => q p _ (same_new hp) upd_same⟩
  · rw [hb, e, List.nil_append]
  · rw [ha, e, List.append_nil]
theorem isNm_len {z : Str} (h : isNm z = true) : 1 ≤ z.length ∧ z.length ≤ 8 := by
  unfold isNm at h
  simp only [Bool.and_eq_true, decide_eq_true_eq] at h
  omega
theorem itmW {H : Hp} : ∀ {ws : List Str}, (∀ w ∈ ws, isNm w = true) → Itm H (ws.map V.str)
  | [], _ => Itm.nil
  | w :: ws, h => (itmW fun x hx => h x (List.mem_cons_of_mem _ hx)).str (sz100 (by have := isNm_len (h w List.mem_cons_self); omega))
theorem names_all {ws : List Str} {lo hi : Int} (h : ∀ w ∈ ws, isNm w = true) (h1 : lo ≤ ws.length) (h2 : ws.length ≤ hi) : namesV (ws.map V.str) lo hi = true := by
  unfold namesV
  rw [List.length_map, decide_eq_true h1, decide_eq_true h2]
  simp only [Bool.true_and, List.all_eq_true, List.mem_map]
  rintro x ⟨w, hw, rfl⟩
  exact h w hw
theorem sum_le8 : ∀ {ws : List Str}, (∀ w ∈ ws, isNm w = true) → (ws.map (·.length)).sum ≤ 8 * ws.length
  | [], _ => Nat.le_refl _
  | w :: ws, h => by
    have h1 := sum_le8 fun x hx => h x (List.mem_cons_of_mem _ hx)
    have h2 := isNm_len (h w List.mem_cons_self)
    rw [List.map_cons, List.sum_cons, List.length_cons]
    omega
theorem names_len {xs : List V} {lo hi : Int} (h : ¬ (lo ≤ xs.length ∧ xs.length ≤ hi)) : namesV xs lo hi = false := by
  unfold namesV
  by_cases h1 : lo ≤ (xs.length : Int)
  · rw [decide_eq_false (show ¬ ((xs.length : Int) ≤ hi) from fun h2 => h ⟨h1, h2⟩), Bool.and_false, Bool.false_and]
  · rw [decide_eq_false h1, Bool.false_and, Bool.false_and]
theorem rep_len (n : Nat) (ws : List Str) : ((List.replicate n ws).flatten).length = n * ws.length := by
  induction n with
  | zero => simp
  | succ n ih => rw [List.replicate_succ, List.flatten_cons, List.length_append, ih, Nat.succ_mul]; omega
theorem cut_to {xs : List V} (k : Nat) : cutV xs none (some (k : Int)) = xs.take k := by
  unfold cutV
  rw [HT.sIx_none, HT.sIx_nat, List.drop_zero, Nat.sub_zero]
  by_cases h : k ≤ xs.length
  · rw [Nat.min_eq_left h]
  · rw [Nat.min_eq_right (by omega), List.take_of_length_le (by omega), List.take_of_length_le (by omega)]
theorem cut_mid {xs : List V} (i k : Nat) : ∀ x ∈ cutV xs (some (i : Int)) (some (k : Int)), x ∈ xs := by
  intro x hx
  unfold cutV at hx
  exact List.mem_of_mem_drop (List.mem_of_mem_take hx)
theorem cut_len {xs : List V} {lo hi : Option Int} : (cutV xs lo hi).length ≤ xs.length := by
  unfold cutV
  rw [List.length_take, List.length_drop]
  omega
theorem slTo {H : Hp} {a : Addr} {ws : List Str} {Q : VK} (k : Nat) (h : H a = some (.tup (ws.map V.str)))
    (q : ∀ p H', Same H H' → H' p = some (.tup ((ws.take k).map V.str)) → Q (.ref p) H') : rSlA K (.ref a) none (some (k : Int)) H Q := by
  refine slT h fun p H' s f => q p H' s ?_
  rw [f, cut_to, List.map_take]
end
end Lv

/-! tuples of names: equality, repr -/
namespace Lv
open PySem PySem.Spec PyProof.Rows L2
/-- a tuple of texts as data -/
def dS (ws : List Str) : PyData := .tuple (ws.map PyData.str)
theorem dpS {K : PySem.W.Frag} {H : Hp} : ∀ ws : List Str, DpAll K H (ws.map V.str) (ws.map PyData.str)
  | [] => .nil
  | w :: ws => .cons (.str w) (dpS ws)
theorem eqvS : ∀ xs ys : List Str, PyData.eqvAll (xs.map PyData.str) (ys.map PyData.str) = decide (xs = ys)
  | [], [] => by simp [PyData.eqvAll]
  | x :: xs, [] => by simp [PyData.eqvAll]
  | [], y :: ys => by simp [PyData.eqvAll]
  | x :: xs, y :: ys => by
    rw [List.map_cons, List.map_cons, PyData.eqvAll, eqvS xs ys, PyData.eqv]
    by_cases h : x = y <;> by_cases h2 : xs = ys <;> simp [h, h2]
def Pl (z : Str) : Prop := ∀ c ∈ z.cps.toList, c < 256
theorem pl_of {z : Str} (h : isNm z = true) : Pl z := by
  intro c hc
  unfold isNm at h
  simp only [Bool.and_eq_true] at h
  have := List.all_eq_true.mp h.2 c hc
  unfold lowC at this
  simp only [Bool.and_eq_true, Bool.not_eq_true', decide_eq_false_iff_not] at this
  have h2 := this.2
  by_cases hc2 : c ≤ 122
  · omega
  · exact absurd (show (Str.ofString "z").cps.toList < [c] from List.Lex.rel (show 122 < c by omega)) h2
theorem strOk_pl {z : Str} (h : Pl z) : PyData.strOk z = true := by
  show z.cps.all (· < 0x110000) = true
  rw [Array.all_eq_true']
  intro c hc
  have := h c (by simpa using hc)
  simp
  omega
theorem shapedS {ws : List Str} (h : ∀ w ∈ ws, Pl w) : SeqAt.shaped (dS ws) = true := by
  have h1 : ∀ {ws : List Str}, (∀ w ∈ ws, Pl w) → PyData.canLayAll0 (ws.map PyData.str) = true := by
    intro ws
    induction ws with
    | nil => intro _; simp [PyData.canLayAll0]
    | cons w ws ih =>
      intro h
      rw [List.map_cons, PyData.canLayAll0, ih fun x hx => h x (List.mem_cons_of_mem _ hx), PyData.canLay0, strOk_pl (h w List.mem_cons_self)]
      rfl
  have h2 : ∀ {ws : List Str}, PyData.depthAll (ws.map PyData.str) ≤ 10 := by
    intro ws
    induction ws with
    | nil => simp [PyData.depthAll]
    | cons w ws ih =>
      rw [List.map_cons, PyData.depthAll]
      simp [PyData.depth]
      omega
  unfold SeqAt.shaped
  have h3 := h2 (ws := ws)
  simp only [dS, PyData.canLay0, PyData.depth, h1 h, Bool.true_and]
  exact decide_eq_true (by omega)
section
variable {K : PySem.W.Frag} {H : Hp} {a b : Addr} {xs ys : List Str} {Q : VK}
theorem eqT (ha : SqT K H a (xs.map V.str)) (hb : SqT K H b (ys.map V.str)) (px : ∀ w ∈ xs, Pl w) (py : ∀ w ∈ ys, Pl w) (q : Q (.bl (decide (xs = ys))) H) : rEqD K (.ref a) (.ref b) H Q := by
  refine ⟨dS xs, dS ys, .tup ha (dpS xs), .tup hb (dpS ys), shapedS px, shapedS py, ?_⟩
  simp only [dS, PyData.eqv, eqvS]
  exact q
theorem neT (ha : SqT K H a (xs.map V.str)) (hb : SqT K H b (ys.map V.str)) (px : ∀ w ∈ xs, Pl w) (py : ∀ w ∈ ys, Pl w) (q : Q (.bl (!decide (xs = ys))) H) : rNeD K (.ref a) (.ref b) H Q := by
  refine ⟨dS xs, dS ys, .tup ha (dpS xs), .tup hb (dpS ys), shapedS px, shapedS py, ?_⟩
  simp only [dS, PyData.eqv, eqvS]
  exact q
end
/-! ### repr of a tuple of texts -/
theorem rlen {w : Str} (h : Pl w) : (reprText w).length ≤ 10 * w.length + 2 := StrLaws.reprText_len w fun c hc => Nat.lt_trans (h c hc) (by decide)
theorem shownS : ∀ {ws : List Str}, (∀ w ∈ ws, Pl w ∧ w.length ≤ 100) → ((PyData.shownAll (ws.map PyData.str)).map (·.length)).sum + 2 * (PyData.shownAll (ws.map PyData.str)).length ≤ 1004 * ws.length
  | [], _ => by simp [PyData.shownAll]
  | w :: ws, h => by
    have h1 := shownS fun x hx => h x (List.mem_cons_of_mem _ hx)
    have h2 := h w List.mem_cons_self
    have h3 := rlen h2.1
    rw [List.map_cons, PyData.shownAll, List.map_cons, List.sum_cons, List.length_cons, List.length_cons, PyData.shown]
    omega
theorem dS_ok {ws : List Str} (hn : ws.length ≤ 1000) (h : ∀ w ∈ ws, Pl w ∧ w.length ≤ 100) : RpOk (dS ws) := by
  have h1 : ∀ ws : List Str, PyData.showableAll (ws.map PyData.str) = true := by
    intro ws
    induction ws with
    | nil => simp [PyData.showableAll]
    | cons w ws ih => simp [PyData.showableAll, PyData.showable, ih]
  have h2 : ∀ ws : List Str, PyData.hasDictAll (ws.map PyData.str) = false := by
    intro ws
    induction ws with
    | nil => simp [PyData.hasDictAll]
    | cons w ws ih => simp [PyData.hasDictAll, PyData.hasDict, ih]
  have h3 : ∀ ws : List Str, PyData.depthAll (ws.map PyData.str) ≤ 10 := by
    intro ws
    induction ws with
    | nil => simp [PyData.depthAll]
    | cons w ws ih =>
      rw [List.map_cons, PyData.depthAll]
      simp [PyData.depth]
      omega
  refine ⟨rfl, ?_, ?_, ?_, ?_⟩
  · simp only [dS, PyData.showable]
    exact h1 ws
  · simp only [dS, PyData.hasDict]
    exact h2 ws
  · have := h3 ws
    simp only [dS, PyData.depth]
    omega
  · have h4 := shownS h
    have h5 := tupleText_len_le (PyData.shownAll (ws.map PyData.str))
    simp only [dS, PyData.shown]
    exact Nat.le_trans (show _ ≤ 1004003 by omega) (by decide)
theorem rp_tup {K : PySem.W.Frag} {H : Hp} {p : Addr} {Q : VK} {ws : List Str} (hp : SqT K H p (ws.map V.str)) (hn : ws.length ≤ 1000) (h : ∀ w ∈ ws, Pl w ∧ w.length ≤ 100) (q : Q (.str (dS ws).shown) H) :
    rRp K [.ref p] H Q := ⟨.ref p, dS ws, rfl, .tup hp (dpS ws), dS_ok hn h, q⟩
theorem nmW {ws : List Str} (h : ∀ w ∈ ws, isNm w = true) : ∀ w ∈ ws, Pl w ∧ w.length ≤ 100 := fun w hw => ⟨pl_of (h w hw), by have := isNm_len (h w hw); omega⟩
theorem plW {ws : List Str} (h : ∀ w ∈ ws, isNm w = true) : ∀ w ∈ ws, Pl w := fun w hw => pl_of (h w hw)
end Lv

/-! what the defs over types and fronts promise -/
namespace Lv
open PySem PySem.Spec PyProof.Rows L2
structure Ty (xs : List Str) : Prop where
  nm : ∀ w ∈ xs, isNm w = true
  lo : 1 ≤ xs.length
  hi : xs.length ≤ 401
structure Fn (ys : List Str) : Prop where
  nm : ∀ w ∈ ys, isNm w = true
  hi : ys.length ≤ 400
theorem Ty.v {xs : List Str} (h : Ty xs) : namesV (xs.map V.str) 1 401 = true := names_all h.nm (by have := h.lo; omega) (by have := h.hi; omega)
theorem Fn.v {xs : List Str} (h : Fn xs) : namesV (xs.map V.str) 0 400 = true := names_all h.nm (by omega) (by have := h.hi; omega)
abbrev blank : Str := " "
abbrev none' : Str := ""
def tx (xs : List Str) : Str := Txt.join blank xs
def begW (xs ys : List Str) : Bool := decide (ys.length < xs.length) && decide (xs.take ys.length = ys)
def sp_words_of : Sp := fun vs H Q _ => ∃ (v : V) (t : String), vs = [v] ∧ Kn H v t ∧ ((∀ z, v ≠ .str z) → Q .non H) ∧
  ∀ z, v = .str z → z.length + 2 ≤ sizeLine ∧ (none' ∈ Txt.split z blank → ∀ H', Same H H' → Q .non H') ∧
    (none' ∉ Txt.split z blank → ∀ p H', Same H H' → H p = none → H' p = some (.lst ((Txt.split z blank).map V.str)) → Q (.ref p) H')
def sp_begins_in : Sp := fun vs H Q _ => ∃ (a b : Addr) (xs ys : List Str), vs = [.ref a, .ref b] ∧ H a = some (.tup (xs.map V.str)) ∧ H b = some (.tup (ys.map V.str)) ∧ (∀ w ∈ xs, Pl w) ∧ (∀ w ∈ ys, Pl w) ∧
  ∀ H', Same H H' → Q (.bl (begW xs ys)) H'
def sp_require : Sp := fun vs H Q _ => ∃ (a b : Addr) (xs ys : List Str), vs = [.ref a, .ref b] ∧ H a = some (.tup (xs.map V.str)) ∧ H b = some (.tup (ys.map V.str)) ∧ Ty xs ∧ Fn ys ∧ ∀ H', Same H H' → Q .non H'
def sp_begins : Sp := fun vs H Q _ => ∃ (a b : Addr) (xs ys : List Str), vs = [.ref a, .ref b] ∧ H a = some (.tup (xs.map V.str)) ∧ H b = some (.tup (ys.map V.str)) ∧ Ty xs ∧ Fn ys ∧ ∀ H', Same H H' → Q (.bl (begW xs ys)) H'
def sp_tail : Sp := fun vs H Q _ => ∃ (a b : Addr) (xs ys : List Str), vs = [.ref a, .ref b] ∧ H a = some (.tup (xs.map V.str)) ∧ H b = some (.tup (ys.map V.str)) ∧ Ty xs ∧ Fn ys ∧ begW xs ys = true ∧
  ∀ p H', Same H H' → H' p = some (.tup ((xs.drop ys.length).map V.str)) → Q (.ref p) H'
def sp_write_type : Sp := fun vs H Q _ => ∃ (a : Addr) (xs : List Str), vs = [.ref a] ∧ H a = some (.tup (xs.map V.str)) ∧ Ty xs ∧ ∀ H', Same H H' → Q (.str (tx xs)) H'
def sp_read_type : Sp := fun vs H Q _ => ∃ (xs : List Str), vs = [.str (tx xs)] ∧ Ty xs ∧ ∀ p H', Same H H' → H' p = some (.tup (xs.map V.str)) → Q (.ref p) H'
theorem in_empty (l : List Str) : inV (.str none') (l.map V.str) = decide (none' ∈ l) := by
  unfold inV
  rw [List.any_map]
  induction l with
  | nil => simp
  | cons a l ih =>
    rw [List.any_cons, ih]
    show (eqV (.str a) (.str none') || _) = _
    by_cases h : a = none'
    · subst h
      simp [eqV]
    · have h' : ¬ none' = a := fun e => h e.symm
      by_cases h2 : none' ∈ l <;> simp [eqV, h, h', h2]
theorem cut_from {xs : List V} (k : Nat) : cutV xs (some (k : Int)) none = xs.drop k := by
  unfold cutV
  rw [HT.sIx_none, HT.sIx_nat]
  by_cases h : k ≤ xs.length
  · rw [Nat.min_eq_left h, List.take_of_length_le (by rw [List.length_drop]; omega)]
  · rw [Nat.min_eq_right (by omega), List.drop_of_length_le (Nat.le_refl _), List.drop_of_length_le (by omega)]
    simp
theorem slFrom {K : PySem.W.Frag} {H : Hp} {a : Addr} {ws : List Str} {Q : VK} (k : Nat) (h : H a = some (.tup (ws.map V.str)))
    (q : ∀ p H', Same H H' → H' p = some (.tup ((ws.drop k).map V.str)) → Q (.ref p) H') : rSlA K (.ref a) (some (k : Int)) none H Q := by
  refine slT h fun p H' s f => q p H' s ?_
  rw [f, cut_from, List.map_drop]
theorem tx_len {xs : List Str} (h : Ty xs) : (tx xs).length ≤ 10000 := by
  have hj : ∀ ws : List Str, (∀ w ∈ ws, isNm w = true) → (TL.joinL (TL.tl blank) (ws.map TL.tl)).length ≤ 9 * ws.length := by
    intro ws
    induction ws with
    | nil => intro _; simp [TL.joinL]
    | cons w ws ih =>
      intro h
      have h1 := isNm_len (h w List.mem_cons_self)
      have h2 := ih fun x hx => h x (List.mem_cons_of_mem _ hx)
      rw [len_tl] at h1
      cases ws with
      | nil =>
        show (TL.tl w).length ≤ 9
        omega
      | cons v r =>
        show (TL.tl w ++ (TL.tl blank ++ TL.joinL (TL.tl blank) ((v :: r).map TL.tl))).length ≤ _
        rw [List.length_append, List.length_append, List.length_cons]
        have : (TL.tl blank).length = 1 := rfl
        omega
  have h1 := hj xs h.nm
  have h2 := h.hi
  rw [len_tl]
  unfold tx
  rw [TL.join_eq, TL.tl_join]
  omega
theorem nm_noblank {w : Str} (h : isNm w = true) : 32 ∉ TL.tl w := by
  intro hc
  unfold isNm at h
  simp only [Bool.and_eq_true] at h
  have := List.all_eq_true.mp h.2 32 hc
  revert this
  decide +kernel
theorem tx_split {xs : List Str} (h : Ty xs) : Txt.split (tx xs) blank = xs := by
  refine TL.split_join (s := 32) (S := []) rfl (by decide +kernel) ?_ fun p hp => nm_noblank (h.nm p hp)
  intro e
  have := h.lo
  rw [e] at this
  simp at this
theorem tx_ne {xs : List Str} (h : Ty xs) : none' ∉ Txt.split (tx xs) blank := by
  rw [tx_split h]
  intro hm
  exact absurd (h.nm _ hm) (by decide +kernel)
end Lv

/-! comprehensions with a test -/
namespace Lv
open PySem PySem.Spec PyProof.Rows L2
section
variable {J : It} {G : Hp → Prop} {g : TG} {tt : TT} {te : TE} {vs : List Nat} {σ : L2.St} {H1 : Hp} {Q : VK}
theorem lc_filt {xs : List V} (w : Walk J xs.length G (YAt xs)) (P : V → Bool) (hn : xs.length ≤ sizeLine) (hG : ∀ H, Same H1 H → G H)
    (hs : ∀ x H, x ∈ xs → Same H1 H → ∀ (C : VK) (C' : Hp → Prop), (P x = true → ∀ H4, Same H H4 → C x H4) → (P x = false → ∀ H4, Same H H4 → C' H4) →
      g x (wipe σ vs) H fun σ2 H2 => wipe σ2 vs = wipe σ vs ∧ tt σ2 H2 fun b H3 => if b = true then te σ2 H3 C else C' H3)
    (hd : ∀ H D, Same H1 H → H1 D = none → H D = some (.lst (xs.filter P)) → Q (.ref D) H) : LcB J g tt te vs σ Q H1 := by
  intro D hD
  refine lc_it w (fun i H => Same H1 H ∧ H D = some (.lst ((xs.take i).filter P))) ⟨same_new hD, upd_same⟩ (fun i H _ h => hG H h.1) ?_ (fun H h => hd H D h.1 hD ?_)
  · rintro i x H H' hi ⟨hS, hL⟩ ⟨rfl, hx⟩
    have hlen : ((xs.take i).filter P).length < sizeLine := Nat.lt_of_le_of_lt (List.length_filter_le ..) (by rw [List.length_take]; omega)
    refine hs x H' (List.mem_of_getElem? hx) hS _ _ (fun hp H4 h4 => ⟨_, h4 _ _ hL, hlen, same_mut (hS.trans h4) hD, ?_⟩) (fun hp H4 h4 => ⟨hS.trans h4, ?_⟩)
    · rw [upd_same, List.take_add_one, hx, List.filter_append]
      simp [hp]
    · rw [h4 _ _ hL, List.take_add_one, hx, List.filter_append]
      simp [hp]
  · have := h.2
    rw [List.take_length] at this
    exact this
end
theorem ixt_nat {K : PySem.W.Frag} {H : Hp} {a : Addr} {xs : List V} {j : Nat} {v : V} {Q : VK} (h : SqT K H a xs) (e : xs[j]? = some v) (q : Q v H) :
    rIxT K (.ref a) (.int j) H Q := ⟨a, xs, j, v, rfl, rfl, h, atI_nat e, q⟩
theorem catL {H : Hp} {a b : Addr} {xs ys : List V} {Q : VK} (ha : H a = some (.lst xs)) (hb : H b = some (.lst ys)) (hl : xs.length + ys.length ≤ sizeLine)
    (q : ∀ p, H p = none → Q (.ref p) (upd H p (.lst (xs ++ ys)))) : rCat (.ref a) (.ref b) H Q := ⟨a, b, xs, ys, rfl, rfl, ha, hb, hl, q⟩
end Lv

/-! laws whose defs make lambdas: the tables of their code objects are told of -/
namespace Lv
open PySem PySem.Spec PyProof.Rows L2 LamX
/-- the law's call; cs: the code objects and their tables -/
theorem lawGT {P : Program} {w : World} {K : PySem.W.Frag} {mg mb : Str → Option Value} {k : Nat} {fa a : Addr} {cs : List (Addr × Addr)}
    {fd : FuncData} {x : Str} {sp : Sp} {s₁ : Shared} {vs : List Value} {ns : List Int}
    (hK : K.In s₁.heap) (hG : s₁.heap.Ns mainGlobals mg) (hB : s₁.heap.Ns builtinsNs mb)
    (hB2 : ∀ x : Str, x ≠ "__name__" → mb x = bootBuiltins x) (hL : s₁.heap.NoLimit) (hg : s₁.gens = #[])
    (hT : ∀ p ∈ cs, s₁.heap.get? p.2 = some { cls := .none, data := .fields #[] }) (nT : ∀ p ∈ cs, K.lookup p.2 = none)
    (hC : ∀ p ∈ cs, PySem.W.CodeHd s₁.heap p.1 p.2)
    (hbm : ∃ (bm : Addr) (ob : Obj), mg "__builtins__" = some (.ref bm) ∧ bm ≠ builtinsNs ∧ s₁.heap.get? bm = some ob ∧
      ob.cls = .type "module" ∧ ob.dict = some builtinsNs ∧ ob.data = .plain)
    (ha : s₁.heap.get? a = some { cls := .type "list", data := .seq vs.toArray }) (hi : IntsAre vs ns)
    (hl : ns.length ≤ sizeLine) (hr : Room k callerA)
    (F : ∀ base : Heap, K.In base → base.Ns mainGlobals mg → (∀ p ∈ cs, TabB base mg p.1 p.2) → FnG P w K mg base CX0 k fa fd [x] sp)
    (hbind : ∀ (s : Shared) (u : Value), BindsTo s fd ⟨[u], []⟩ [(x, u)])
    (hsp : ∀ H : Hp, (∀ p ∈ cs, H p.2 = some (.tbl #[])) → SqL K H a (ns.map V.int) → sp [.ref a] H (fun v _ => v = .bl true) E0) :
    codeAny (model P w) callerA (.call (.ref fa) ⟨[.ref a], []⟩)
      (fun r s' => r = .ok (.ret (.bool true)) ∧ OldK s₁.heap s'.heap ∧ s'.os = s₁.os ∧ AllBare s'.gens) s₁ := by
  have rv := vals_ints hi
  have lenV := hi.length
  let o₁ : Obj := { cls := .type "list", data := .seq vs.toArray }
  have atT : ∀ b, b ∈ cs.map (·.2) → s₁.heap.get? b = some { cls := .none, data := .fields #[] } := by
    intro b hb
    obtain ⟨p, hp, rfl⟩ := List.mem_map.mp hb
    exact hT p hp
  -- the heap that is told of: the tables, and the script where it is none of the text's own
  let H : Hp := fun b => if b ∈ cs.map (·.2) then some (.tbl #[]) else
    if b = a ∧ K.lookup a = none then some (.frz o₁ (.lst (ns.map V.int))) else none
  have HT : ∀ b, b ∈ cs.map (·.2) → H b = some (.tbl #[]) := fun b hb => if_pos hb
  have Hc : ∀ b u, H b = some u → (b ∈ cs.map (·.2) ∧ u = .tbl #[]) ∨
      (b = a ∧ K.lookup a = none ∧ b ∉ cs.map (·.2) ∧ u = .frz o₁ (.lst (ns.map V.int))) := by
    intro b u e
    by_cases hb : b ∈ cs.map (·.2)
    · rw [HT b hb] at e
      cases e
      exact .inl ⟨hb, rfl⟩
    · have e' : (if b = a ∧ K.lookup a = none then some (HO.frz o₁ (.lst (ns.map V.int))) else none) = some u := (if_neg hb).symm.trans e
      by_cases h2 : b = a ∧ K.lookup a = none
      · rw [if_pos h2] at e'
        cases e'
        exact .inr ⟨h2.1, h2.2, hb, rfl⟩
      · rw [if_neg h2] at e'
        cases e'
  have an : a ∉ cs.map (·.2) := fun z => by
    have q := atT a z
    rw [ha] at q
    exact nomatch congrArg Obj.data (Option.some.inj q)
  have hS : SqL K H a (ns.map V.int) := by
    cases hk : K.lookup a with
    | none => exact .inl (.inr ⟨o₁, (if_neg an).trans (if_pos ⟨rfl, hk⟩)⟩)
    | some o =>
      have e := hK a o hk
      rw [ha] at e
      cases e
      exact .inr ⟨_, vs.toArray, _, hk, rfl, rfl, rfl, by rw [List.size_toArray, lenV]; exact hl, by simpa using rv⟩
  have hok : HOk P w H s₁.heap := by
    intro b u e
    rcases Hc b u e with ⟨hb, rfl⟩ | ⟨rfl, _, _, rfl⟩
    · exact atT b hb
    · exact ⟨ha, by rw [List.length_map]; exact hl, vs, _, rv, ha⟩
  -- what is neither a list nor an empty record is not told of
  have free : ∀ {b : Addr} {o : Obj}, s₁.heap.get? b = some o → (∀ z n, o.data ≠ .seq z n) → o.data ≠ .fields #[] → H b = none := by
    intro b o e h1 h2
    cases q : H b with
    | none => rfl
    | some u =>
      rcases Hc b u q with ⟨hb, _⟩ | ⟨rfl, _⟩
      · rw [atT b hb] at e
        cases e
        exact absurd rfl h2
      · rw [ha] at e
        cases e
        exact absurd rfl (h1 _ _)
  have ns2 : ∀ {b : Addr} {m : Str → Option Value}, s₁.heap.Ns b m → (hidT s₁.heap H).Ns b m := by
    rintro b m ⟨o, es, ep, e, d, r⟩
    exact ⟨o, es, ep, hidT_get e (free e (fun z n q => by rw [d] at q; cases q) (fun q => by rw [d] at q; cases q)), d, r⟩
  have hKb : K.In (hidT s₁.heap H) := by
    intro b o e
    refine hidT_get (hK b o e) ?_
    cases q : H b with
    | none => rfl
    | some u =>
      rcases Hc b u q with ⟨hb, _⟩ | ⟨rfl, z, _⟩
      · obtain ⟨p, hp, rfl⟩ := List.mem_map.mp hb
        rw [nT p hp] at e
        cases e
      · rw [z] at e
        cases e
  have hM : Mod K mg (hidT s₁.heap H) := by
    refine ⟨hKb, ns2 hG, ⟨mb, ns2 hB, hB2⟩, ?_⟩
    obtain ⟨mc, h1, h2⟩ := hL
    exact ⟨mc, ns2 h1, h2⟩
  have TB : ∀ p ∈ cs, TabB (hidT s₁.heap H) mg p.1 p.2 := by
    intro p hp
    have hTp := hT p hp
    refine ⟨?_, ?_, ?_⟩
    · obtain ⟨o, us, file, tf, flags, tg, inF, text, tt, e1, r1, r2, rest⟩ := hC p hp
      refine ⟨o, us, file, tf, flags, tg, inF, text, tt, hidT_get e1 (free e1 ?_ ?_), r1, r2, rest⟩
      · intro z n q
        rw [r2] at q
        cases q
      · intro q
        rw [r2] at q
        cases q
        simp at rest
    · obtain ⟨bm, ob, b1, b2, b3, b4, b5, b6⟩ := hbm
      refine ⟨bm, ob, b1, b2, ?_, ?_, hidT_get b3 (free b3 ?_ ?_), b4, b5, b6⟩
      · rintro rfl
        obtain ⟨o, es, ep, e, hd, _⟩ := hG
        rw [e] at b3
        cases b3
        rw [hd] at b6
        cases b6
      · rintro rfl
        rw [hTp] at b3
        cases b3
        cases b6
      · intro z n q
        rw [b6] at q
        cases q
      · intro q
        rw [b6] at q
        cases q
    · intro z
      obtain ⟨o, es, ep, e, hd, _⟩ := hG
      rw [z, hTp] at e
      cases e
      cases hd
  have e0 : Env0 P w K mg (hidT s₁.heap H) callerA [] s₁ H := by
    refine ⟨rfl, hM, fun b o e => of_hidT e, Nat.le_of_eq (hidT_size _ _), trivial, ?_, hok, .of_eq hg⟩
    intro b hb
    exact absurd (show b ∈ ([] : List Addr) from hb) (by simp)
  have hH : ∀ p ∈ cs, H p.2 = some (.tbl #[]) := fun p hp => HT _ (List.mem_map.mpr ⟨p, hp, rfl⟩)
  have run := (F _ hKb (ns2 hG) TB).run callerA rfl [] s₁ H ⟨[.ref a], []⟩ [.ref a] [.ref a] _ _ hr e0
    (hbind s₁ (.ref a)) (.cons rfl .nil) (hsp H hH hS)
  refine codeAny_mono run ?_
  rintro (er | (_ | _ | _ | u)) s' h
  · exact False.elim h
  · exact False.elim h
  · exact False.elim h
  · exact False.elim h
  obtain ⟨v, H', os, bare, un, hok', r', q⟩ := h
  obtain rfl : v = V.bl true := q
  obtain rfl : u = Value.bool true := r'
  have old : ∀ b o, b ∉ cs.map (·.2) → s₁.heap.get? b = some o → s'.heap.get? b = some o := by
    intro b o nb e
    cases q : H b with
    | none => exact un.keep b o e q (fun z => absurd (show b ∈ ([] : List Addr) from z) (by simp)) (by simp)
    | some u =>
      rcases Hc b u q with ⟨hb, _⟩ | ⟨rfl, _, _, rfl⟩
      · exact absurd hb nb
      · obtain ⟨e1, _⟩ := hok b _ q
        obtain ⟨e2, _⟩ := hok' b _ (un.frzs b o₁ _ q)
        rw [e] at e1
        cases e1
        exact e2
  have grown : ∀ p ∈ cs, ∃ more : Array Value, s'.heap.get? p.2 = some { cls := .none, data := .fields more } := by
    intro p hp
    obtain ⟨more, z⟩ := un.tbls p.2 #[] (hH p hp)
    exact ⟨_, hok' p.2 _ z⟩
  refine ⟨rfl, ⟨?_, ?_⟩, os, bare⟩
  · intro b o e
    by_cases hb : b ∈ cs.map (·.2)
    · obtain ⟨p, hp, rfl⟩ := List.mem_map.mp hb
      obtain ⟨more, hm⟩ := grown p hp
      rw [hT p hp] at e
      cases e
      exact .inr (.inl ⟨((hC p hp).tab (hT p hp)).isCodeTable, rfl, #[], more, rfl, by rw [Array.empty_append]; exact hm⟩)
    · exact .inl (old b o hb e)
  · intro b o e
    by_cases hb : b ∈ cs.map (·.2)
    · obtain ⟨p, hp, rfl⟩ := List.mem_map.mp hb
      obtain ⟨more, hm⟩ := grown p hp
      exact ⟨_, hm⟩
    · exact ⟨o, old b o hb e⟩
/-- the code object and the table of the def that x names -/
def TabOf (mg : Str → Option Value) (h : Heap) (x : Str) : Prop := ∃ (f : Addr) (o : Obj) (fd : FuncData) (c P : Addr), mg x = some (.ref f) ∧ h.get? f = some o ∧ o.data = .func fd ∧ fd.code = .ref c ∧
  PySem.W.CodeHd h c P ∧ h.get? P = some { cls := .none, data := .fields #[] }
theorem walkGT {l : PySem.W.OpenLaw} {n k : Nat} {q : Program} {loose : List Str}
    {XP : (Str → Option Value) → Heap → Prop} {YP : World → Heap → Prop} {d : DefRec}
    {K : Params → PySem.W.Frag} {sp : PySem.W.Frag → List (Addr × Addr) → Sp} {x : Str}
    (hn : l.most = some n) (hn2 : n ≤ sizeLine) (hdf : d.params.defaults = []) (hr : Room k callerA)
    (hY : ∀ (w : World) (h : Heap), YP w h → (K w.params).In h)
    (F : ∀ (w : World) (mg : Str → Option Value) (fa : Addr) (h : Heap), (K w.params).In h →
      h.Ns mainGlobals mg → mg d.name = some (.ref fa) → (∀ y, ((recsOf q).any fun e => e.name == y) = true → TabOf mg h y) →
      ∃ (fd : FuncData) (cs : List (Addr × Addr)), (∀ p ∈ cs, h.get? p.2 = some { cls := .none, data := .fields #[] }) ∧
        (∀ p ∈ cs, (K w.params).lookup p.2 = none) ∧ (∀ p ∈ cs, PySem.W.CodeHd h p.1 p.2) ∧
        (∀ (s : Shared) (u : Value), BindsTo s fd ⟨[u], []⟩ [(x, u)]) ∧
        ∀ base : Heap, (K w.params).In base → base.Ns mainGlobals mg → (∀ p ∈ cs, TabB base mg p.1 p.2) →
          FnG l.prog w (K w.params) mg base CX0 k fa fd [x] (sp (K w.params) cs))
    (hsp : ∀ (K : PySem.W.Frag) (cs : List (Addr × Addr)) (H : Hp) (a : Addr) (ns : List Int), ns.length ≤ n →
      (∀ p ∈ cs, H p.2 = some (.tbl #[])) → SqL K H a (ns.map V.int) → sp K cs [.ref a] H (fun v _ => v = .bl true) E0) :
    PySem.W.WalkO q loose XP YP l.row.toRowW d [] (fun f vs => PySem.call f vs) := by
  refine Att.attach_call hn hdf ?_
  intro w s₀ s₁ mg mb fa o pm cd doc a vs ns G Y ho hd hcd hmg hobj hints hlen hg
  have tab : ∀ y, ((recsOf q).any fun e => e.name == y) = true → TabOf mg s₁.heap y := by
    intro y hy
    obtain ⟨dL, hm, hn1⟩ := List.any_eq_true.mp hy
    obtain ⟨f, o', fd', c, P, h1, h2, h3, h4, h5, h6⟩ := G.T.tab dL hm
    rw [beq_iff_eq.mp hn1] at h1
    exact ⟨f, o', fd', c, P, h1, h2, h3, h4, PySem.W.CodeHd.of h5 h6, h6.2⟩
  obtain ⟨fd, cs, t1, t2, t3, hb, hF⟩ := F w mg fa _ (hY w _ Y) G.T.g hmg tab
  exact lawGT (hY w _ Y) G.T.g G.T.b G.T.builtins G.T.nolimit hg t1 t2 t3 G.T.bmain hobj hints (Nat.le_trans hlen hn2) hr hF hb
    (fun H hH hS => hsp _ cs H a ns hlen hH hS)
section
variable {P : Program} {w : World} {K : PySem.W.Frag} {mg : Str → Option Value} {base : Heap}
/-- okG, the code object's address told -/
theorem okGL {x qual : Str} {st : Stmt} {f c : Addr} {fd : FuncData} {N ps : List Str} {k : Nat} {sp : Sp}
    (F : Fun K x qual st f fd) (hc : fd.code = .ref c) (S : FnScope N ps (defScope st))
    (len : ∀ vs H Q E, sp vs H Q E → vs.length = ps.length)
    (hbody : ∀ (A : Around) (outer : List Env) (s : Shared) (H : Hp) (vs : List V) (Q : VK) (E : XK),
      (A.deeper (envOfC qual (defScope st) s.heap.objs.size f (.ref c))).guards = some [] →
      Room k (A.deeper (envOfC qual (defScope st) s.heap.objs.size f (.ref c))) → sp vs H Q E →
      ∃ t, PSs (cxOf CX0 P w K mg base N qual (defScope st) f (.ref c) A outer s H E).nox (defBody st) t ∧
        t { nx := fun _ H' => Q .non H', rt := Q } (L2.start N vs) H) :
    FnG P w K mg base CX0 (k + 1) f fd ps sp := by
  obtain ⟨oc, od, kV, doc, pm, an, cdv, ct, osl, rfl, lk, hcd⟩ := F.ex
  have e : cdv = .ref c := hc
  subst e
  have F' : Fun K x qual st f (PySem.W.fnOf x qual (defArgs st) (defBody st) (defScope st) .none kV doc pm an (.ref c) ct) := ⟨⟨oc, od, kV, doc, pm, an, .ref c, ct, osl, rfl, lk, hcd⟩, F.kp⟩
  refine ⟨len, fun A hgd outer s H args us vs Q E hr e0 hb hv hsp => ?_⟩
  have kept := fun b o (z : base.get? b = some o) => (e0.bs b o z).1
  have hK : K.In s.heap := e0.mod.kin.keeps kept
  have hL : s.heap.NoLimit := e0.mod.nolimit.keeps kept
  refine codeAny_call_function hr.depth (hK _ _ lk) rfl S.co S.gen rfl (PySem.W.codeRec_of hK hcd)
    (hb _ _ _ _ ?_)
  have kinds : ∀ y ∈ ps.zip us, (defScope st).names.lookup y.1 = some .local ∨
      ((defScope st).names.lookup y.1 = some .cell ∧
        ((cellsFrom (s.heap.objs.size + 1) (defScope st).names []).lookup y.1).isSome = true) := by
    rintro ⟨n, v⟩ hy
    rcases S.par n (List.of_mem_zip hy).1 with z | z
    · exact .inl z
    · exact .inr ⟨z, PySem.W.cellsFrom_some _ _ _ (.inl z)⟩
  refine wpAny_newFunctionEnv_cells S.kind kinds ?_
  rintro env rfl s1 x
  refine ⟨hL.keeps x.toInCall.keep, codeAny_func ?_⟩
  obtain ⟨t, ht, hq⟩ := hbody A outer s H vs Q E hgd (hr.deeper _) hsp
  have I := inv_start (CX := CX0) (E := E) S hr.hd e0 (len _ _ _ _ hsp) hv x
  refine wpAny_mono (ht.nox.run [] s1 (L2.start N vs) H _ I hq) ?_ (fun e s' z => z)
  rintro (_ | _ | _ | u) s' hs
  · obtain ⟨σ', H', J, q⟩ := hs
    exact ⟨V.non, H', J.os, J.bare, J.base, J.hok, (rfl : L2.RelV V.non Value.none), q⟩
  · obtain ⟨_, _, _, q⟩ := hs
    exact False.elim q
  · obtain ⟨_, _, _, q⟩ := hs
    exact False.elim q
  · obtain ⟨v, σ', H', J, rv, q⟩ := hs
    exact ⟨v, H', J.os, J.bare, J.base, J.hok, rv, q⟩
end
/-! ### heaps with tables -/
theorem tab_gr {H H' : Hp} {d : Addr} {T : List (Addr × Str)} (t : Tabs T H) (g : Gr d H H') : Tabs T H' := by
  intro p hp
  obtain ⟨ps, h1, h2, h3⟩ := t p hp
  obtain ⟨x, y, z, hd⟩ := g.pre
  have n1 : p.1 ≠ d := fun e => by
    rw [e, hd] at h1
    cases h1
  refine ⟨ps, g.keep _ _ n1 h1, h2, fun pos cv hc => ?_⟩
  obtain ⟨c, e, hcO⟩ := h3 pos cv hc
  refine ⟨c, e, g.keep _ _ (fun e => ?_) hcO⟩
  rw [e, hd] at hcO
  unfold CodeO at hcO
  cases hcO
/-- all but dice and tables is kept; the dice are dice, the tables tables -/
structure Gt (T : List (Addr × Str)) (d : Addr) (H H' : Hp) : Prop where
  pre : Dc H d
  keep : ∀ a o, a ≠ d → (∀ ps, o ≠ .tbl ps) → H a = some o → H' a = some o
  dice : Dc H' d
  tabs : Tabs T H'
section
variable {T : List (Addr × Str)} {d : Addr} {H H1 H2 : Hp}
theorem Gt.refl (h : Dc H d) (t : Tabs T H) : Gt T d H H := ⟨h, fun _ _ _ _ h => h, h, t⟩
theorem Gt.trans (a : Gt T d H H1) (b : Gt T d H1 H2) : Gt T d H H2 := ⟨a.pre, fun x o n z h => b.keep x o n z (a.keep x o n z h), b.dice, b.tabs⟩
theorem Gt.gr (a : Gt T d H H1) (g : Gr d H1 H2) : Gt T d H H2 := ⟨a.pre, fun x o n z h => g.keep x o n (a.keep x o n z h), g.dice, tab_gr a.tabs g⟩
theorem Gt.same (a : Gt T d H H1) (s : Same H1 H2) : Gt T d H H2 := a.gr (Gr.same a.dice s)
theorem Dc.extN (h : Dc H d) (e : ExtN H H1) : Dc H1 d := by
  obtain ⟨x, y, z, q⟩ := h
  exact ⟨x, y, z, e _ _ q fun ps e => nomatch e⟩
theorem Gt.ext (a : Gt T d H H1) (e : ExtN H1 H2) (t : Tabs T H2) : Gt T d H H2 := ⟨a.pre, fun x o n z h => e _ _ (a.keep x o n z h) z, a.dice.extN e, t⟩
theorem Gt.tup (a : Gt T d H H1) {p : Addr} {xs : List V} (h : H p = some (.tup xs)) : H1 p = some (.tup xs) := a.keep _ _ (a.pre.ne_tup h) (fun ps e => nomatch e) h
theorem Gt.lst (a : Gt T d H H1) {p : Addr} {xs : List V} (ne : p ≠ d) (h : H p = some (.lst xs)) : H1 p = some (.lst xs) := a.keep _ _ ne (fun ps e => nomatch e) h
end
/-- a table that is told of, by what the text has written -/
theorem tab_at {K : PySem.W.Frag} {h : Heap} {mg : Str → Option Value} {x : Str} {f c P : Addr} {oc e : Value} {od dd : Option Addr} {fd : FuncData} {osl sl : Array (Option Value)} {vs : Array Value}
    (hK : K.In h) (hm : mg x = some (.ref f)) (l : K.lookup f = some ⟨oc, od, .func fd, osl⟩) (hc : fd.code = .ref c) (lc : K.lookup c = some ⟨e, dd, .fields vs, sl⟩) (hv : vs[11]? = some (.ref P)) (t : TabOf mg h x) :
    h.get? P = some { cls := .none, data := .fields #[] } ∧ PySem.W.CodeHd h c P := by
  obtain ⟨f', o, fd', c', P', h1, h2, h3, h4, h5, h6⟩ := t
  rw [hm] at h1
  cases h1
  rw [hK _ _ l] at h2
  cases h2
  cases h3
  rw [hc] at h4
  cases h4
  have h5' := h5
  obtain ⟨o, us, file, tf, flags, tg, inF, text, tt, e1, r1, r2, r3, rest⟩ := h5'
  rw [hK _ _ lc] at e1
  cases e1
  cases r2
  rw [hv] at r3
  cases r3
  exact ⟨h6, h5⟩
/-- an own error's class, made with a text alone -/
structure XCl (K : PySem.W.Frag) (mg : Str → Option Value) (x : Str) (C : Addr) : Prop where
  g : mg x = some (.ref C)
  ex : PySem.W.excIn K C [.type "ValueError", .type "Exception", .type "BaseException", .type "object"] "ValueError.__new__" = true
  kp : PySem.W.keepIn K (.ref C) = true
  sb : PySem.W.subIn K (.ref C) (.type "BaseException") = some true
  ty : PySem.W.typeIn K (.ref C) = some (.type "type")
  ec : ExcC K C
theorem kit_same {K : PySem.W.Frag} {C : Addr} : PySem.W.kitOne K (.ref C) (.ref C) = some true := by
  unfold PySem.W.kitOne
  rw [if_pos (beq_self_eq_true _)]
theorem kit_sub {K : PySem.W.Frag} {D C : Addr} {b : Bool} (n : (Value.ref D == Value.ref C) = false) (ht : PySem.W.typeIn K (.ref C) = some (.type "type")) (hs : PySem.W.subIn K (.ref D) (.ref C) = some b) (hc : PySem.W.isClsIn K C = true) :
    PySem.W.kitOne K (.ref D) (.ref C) = some b := by
  unfold PySem.W.kitOne
  rw [if_neg (by rw [n]; exact Bool.false_ne_true)]
  unfold PySem.W.isClsIn at hc
  unfold PySem.W.kitCls
  simp only [ht, hs, hc]
  rfl
end Lv

/-! lists and tuples of names beside dice -/
namespace Lv
open PySem PySem.Spec PyProof.Rows L2
section
variable {K : PySem.W.Frag}
/-- a list of names that is not the dice -/
structure Wd (H : Hp) (d l : Addr) (ws : List Str) : Prop where
  at_ : H l = some (.lst (ws.map V.str))
  ne : l ≠ d
  nm : ∀ w ∈ ws, isNm w = true
  lo : 1 ≤ ws.length
  hi : ws.length ≤ 100
theorem Wd.gr {H H' : Hp} {d l : Addr} {ws : List Str} (h : Wd H d l ws) (g : Gr d H H') : Wd H' d l ws := ⟨g.keep _ _ h.ne h.at_, h.ne, h.nm, h.lo, h.hi⟩
theorem pick_l {H : Hp} {d l : Addr} {ws : List Str} {Q : VK} {E : XK} (hd : Dc H d) (h : H l = some (.lst (ws.map V.str))) (ne : l ≠ d) (lo : 1 ≤ ws.length) (hi : ws.length < 1073741824)
    (q : ∀ w H', w ∈ ws → Gr d H H' → Q (.str w) H') : sp_law_pick K [.ref d, .ref l] H Q E := by
  refine ⟨d, _, rfl, hd, .inl ⟨l, _, rfl, ne, sql_of h, ?_, ?_, fun y H' hy g => ?_⟩⟩
  · intro e
    rw [List.map_eq_nil_iff] at e
    rw [e] at lo
    simp at lo
  · rw [List.length_map]
    omega
  · obtain ⟨w, hw, rfl⟩ := List.mem_map.mp hy
    exact q w H' hw g
theorem pick_w {H : Hp} {d l : Addr} {ws : List Str} {Q : VK} {E : XK} (hd : Dc H d) (h : Wd H d l ws) (q : ∀ w H', isNm w = true → w ∈ ws → Gr d H H' → Q (.str w) H') : sp_law_pick K [.ref d, .ref l] H Q E := by
  refine ⟨d, _, rfl, hd, .inl ⟨l, _, rfl, h.ne, sql_of h.at_, ?_, ?_, fun y H' hy g => ?_⟩⟩
  · intro e
    rw [List.map_eq_nil_iff] at e
    have := h.lo
    rw [e] at this
    simp at this
  · rw [List.length_map]
    have := h.hi
    omega
  · obtain ⟨w, hw, rfl⟩ := List.mem_map.mp hy
    exact q w H' (h.nm w hw) hw g
theorem ex_ws {ys : List V} : (∀ (i : Nat) (y : V), ys[i]? = some y → ∃ w, y = V.str w ∧ isNm w = true) → ∃ ws : List Str, ys = ws.map V.str ∧ ∀ w ∈ ws, isNm w = true := by
  induction ys with
  | nil => intro _; exact ⟨[], rfl, fun w h => nomatch h⟩
  | cons y ys ih =>
    intro h
    obtain ⟨w, rfl, hw⟩ := h 0 y rfl
    obtain ⟨ws, rfl, hws⟩ := ih fun i y hy => h (i + 1) y hy
    refine ⟨w :: ws, rfl, fun x hx => ?_⟩
    rcases List.mem_cons.mp hx with rfl | hx
    · exact hw
    · exact hws x hx
theorem cut_ij {xs : List V} {i j : Nat} (h : i + j ≤ xs.length) : cutV xs (some (i : Int)) (some ((i + j : Nat) : Int)) = (xs.drop i).take j := by
  unfold cutV
  rw [HT.sIx_nat, HT.sIx_nat, Nat.min_eq_left h, Nat.min_eq_left (show i ≤ xs.length by omega)]
  congr 1
  omega
theorem joinL_app (S : List Nat) : ∀ (a b : List (List Nat)), a ≠ [] → b ≠ [] → TL.joinL S (a ++ b) = TL.joinL S a ++ (S ++ TL.joinL S b)
  | [], _, h, _ => absurd rfl h
  | [p], [], _, h => absurd rfl h
  | [p], q :: r, _, _ => rfl
  | p :: p' :: r, b, _, hb => by
    show p ++ (S ++ TL.joinL S (p' :: r ++ b)) = p ++ (S ++ TL.joinL S (p' :: r)) ++ (S ++ TL.joinL S b)
    rw [joinL_app S (p' :: r) b (by simp) hb]
    simp [List.append_assoc]
theorem tx_app {a b : List Str} (ha : a ≠ []) (hb : b ≠ []) : tx a ++ blank ++ tx b = tx (a ++ b) := by
  apply TL.ext_tl
  rw [TL.tl_append, TL.tl_append]
  unfold tx
  rw [TL.join_eq, TL.join_eq, TL.join_eq, TL.tl_join, TL.tl_join, TL.tl_join, List.map_append, joinL_app _ _ _ (by simpa using ha) (by simpa using hb), List.append_assoc]
theorem keepO {H H' : Hp} {d b : Addr} {o u : HO} (hb : H b = some u) (hd : H d = none) (g : Gr d (upd H d o) H') : H' b = some u := by
  have ne := ne_of_none hb hd
  exact g.keep _ _ ne (by rw [upd_ne ne]; exact hb)
theorem scr {H H' : Hp} {d s : Addr} {o : HO} {xs : List V} (h : SqL K H s xs) (hd : H d = none) (g : Gr d (upd H d o) H') : SqL K H' s xs := by
  rcases h with (h | ⟨u, h⟩) | h
  · exact .inl (.inl (keepO h hd g))
  · exact .inl (.inr ⟨u, keepO h hd g⟩)
  · exact .inr h
end
end Lv

/-! comprehensions whose elements make lambdas; lists of texts -/
namespace Lv
open PySem PySem.Spec PyProof.Rows L2 LamX
section
variable {T : List (Addr × Str)} {d : Addr} {H H1 H2 : Hp}
theorem tabs_upd {p : Addr} {o : HO} {xs : List V} (t : Tabs T H) (h : H p = some (.lst xs)) : Tabs T (upd H p o) := by
  intro x hx
  obtain ⟨ps, h1, h2, h3⟩ := t x hx
  have n1 : x.1 ≠ p := fun e => by
    rw [e, h] at h1
    cases h1
  refine ⟨ps, by rw [upd_ne n1]; exact h1, h2, fun pos cv hc => ?_⟩
  obtain ⟨c, e, hcO⟩ := h3 pos cv hc
  refine ⟨c, e, ?_⟩
  rw [upd_ne (fun e2 => ?_)]
  · exact hcO
  · rw [e2, h] at hcO
    unfold CodeO at hcO
    cases hcO
theorem Gt.mut {p : Addr} {o : HO} {xs : List V} (g : Gt T d H H1) (h : H p = none) (ne : p ≠ d) (hl : H1 p = some (.lst xs)) : Gt T d H (upd H1 p o) := by
  refine ⟨g.pre, fun a u n z q => ?_, ?_, tabs_upd g.tabs hl⟩
  · rw [upd_ne (ne_of_none q h)]
    exact g.keep a u n z q
  · obtain ⟨x, y, z, q⟩ := g.dice
    exact ⟨x, y, z, by rw [upd_ne ne.symm]; exact q⟩
theorem Gt.kn {v : V} {t : String} (g : Gt T d H H1) (k : Kn H v t) : Kn H1 v t := by
  cases k with
  | non => exact .non
  | bl b => exact .bl b
  | int i => exact .int i
  | str z => exact .str z
  | @lst a xs h =>
    by_cases e : a = d
    · subst e
      obtain ⟨x, y, z, q⟩ := g.dice
      exact .lst q
    · exact .lst (g.lst e h)
  | tup h => exact .tup (g.tup h)
  | @dK a kvs h =>
    refine .dK (g.keep _ _ (fun e => ?_) (fun ps z => nomatch z) h)
    subst e
    obtain ⟨x, y, z, q⟩ := g.pre
    rw [q] at h
    cases h
theorem Gt.told {v : V} {xs : List V} {b : Bool} (g : Gt T d H H1) (t : Told H v xs b) : Told H1 v xs b := by
  cases t with
  | tup h k z => exact .tup (g.tup h) (fun x hx => (k x hx).imp fun _ q => g.kn q) z
  | oth k n => exact .oth (g.kn k) n
theorem told_ext {v : V} {xs : List V} {b : Bool} (e : ExtN H H1) (t : Told H v xs b) : Told H1 v xs b := by
  have kn : ∀ {v : V} {t : String}, Kn H v t → Kn H1 v t := by
    intro v t k
    cases k with
    | non => exact .non
    | bl b => exact .bl b
    | int i => exact .int i
    | str z => exact .str z
    | lst h => exact .lst (e _ _ h fun ps z => nomatch z)
    | tup h => exact .tup (e _ _ h fun ps z => nomatch z)
    | dK h => exact .dK (e _ _ h fun ps z => nomatch z)
  cases t with
  | tup h k z => exact .tup (e _ _ h fun ps z => nomatch z) (fun x hx => (k x hx).imp fun _ q => kn q) z
  | oth k n => exact .oth (kn k) n
end
section
variable {J : It} {n : Nat} {G : Hp → Prop} {Y : Nat → Hp → V → Hp → Prop} {g : TG} {tt : TT} {te : TE} {vs : List Nat} {σ : L2.St} {Q : VK} {H1 : Hp}
theorem lc_gt {T : List (Addr × Str)} {d : Addr} (w : Walk J n G Y) (P : Nat → V → Prop) (hn : n ≤ sizeLine) (h0 : Dc H1 d) (hT : Tabs T H1) (hG : ∀ H, Gt T d H1 H → G H)
    (hs : ∀ i x H H', i < n → Gt T d H1 H → Y i H x H' → ∀ R : VK, (∀ y H4, P i y → Gt T d H H4 → R y H4) →
      g x (wipe σ vs) H' fun σ2 H2 => wipe σ2 vs = wipe σ vs ∧ tt σ2 H2 fun b H3 => b = true ∧ te σ2 H3 R)
    (mono : ∀ (x : V) (σ' : L2.St) (H' : Hp) (A B : L2.St → Hp → Prop), (∀ s h, A s h → B s h) → g x σ' H' A → g x σ' H' B)
    (monoT : ∀ (σ' : L2.St) (H' : Hp) (A B : Bool → Hp → Prop), (∀ b h, A b h → B b h) → tt σ' H' A → tt σ' H' B)
    (hd : ∀ H D ys, Gt T d H1 H → H1 D = none → D ≠ d → ys.length = n → (∀ i y, ys[i]? = some y → P i y) →
      H D = some (.lst ys) → Q (.ref D) H) :
    LcB J g tt te vs σ Q H1 := by
  intro D hD
  have ne := h0.ne hD
  refine lc_it w (fun i H => Gt T d H1 H ∧ ∃ ys : List V, ys.length = i ∧ (∀ j y, ys[j]? = some y → P j y) ∧ H D = some (.lst ys))
    ⟨(Gt.refl h0 hT).same (same_new hD), [], rfl, (fun j y e => by simp at e), upd_same⟩ (fun i H _ h => hG H h.1) ?_
    (fun H h => ?_)
  · rintro i x H H' hi ⟨hS, ys, hl, hp, hL⟩ hy
    have := hs i x H H' hi hS hy
      (fun y H4 => ∃ acc, H4 D = some (.lst acc) ∧ acc.length < sizeLine ∧ (Gt T d H1 (upd H4 D (.lst (acc ++ [y]))) ∧
        ∃ zs : List V, zs.length = i + 1 ∧ (∀ j z, zs[j]? = some z → P j z) ∧ upd H4 D (.lst (acc ++ [y])) D = some (.lst zs)))
      (fun y H4 hy h4 => ⟨ys, h4.lst ne hL, by omega, (hS.trans h4).mut hD ne (h4.lst ne hL), ys ++ [y], by
        rw [List.length_append, hl]
        rfl, fun j z hz => ?_, upd_same⟩)
    · refine mono _ _ _ _ _ ?_ this
      rintro s h ⟨e, h2⟩
      refine ⟨e, monoT _ _ _ _ ?_ h2⟩
      rintro b h3 ⟨rfl, h4⟩
      rw [if_pos rfl]
      exact h4
    · by_cases hj : j < ys.length
      · rw [List.getElem?_append_left hj] at hz
        exact hp j z hz
      · rw [List.getElem?_append_right (by omega)] at hz
        have e : j = i := by
          cases hq : j - ys.length with
          | zero => omega
          | succ m =>
            rw [hq] at hz
            exact nomatch hz
        subst e
        rw [hl, Nat.sub_self] at hz
        cases hz
        exact hy
  · obtain ⟨hS, ys, hl, hp, hL⟩ := h
    exact hd H D ys hS hD ne hl hp hL
end
theorem Dc.ne_lst3 {d p r1 r2 r3 : Addr} {H : Hp} (h : Dc H d) (n : H p = some (.lst [.ref r1, .ref r2, .ref r3])) : p ≠ d := fun e => by
  obtain ⟨x, y, z, q⟩ := h
  rw [e, q] at n
  cases n
/-- a list of texts as data -/
def dLs (ws : List Str) : PyData := .list (ws.map PyData.str)
theorem shapedL {ws : List Str} (h : ∀ w ∈ ws, Pl w) : SeqAt.shaped (dLs ws) = true := by
  have h0 := shapedS h
  unfold SeqAt.shaped at *
  simp only [dS, dLs, PyData.canLay0, PyData.depth] at *
  exact h0
theorem eqLs {K : PySem.W.Frag} {H : Hp} {a b : Addr} {xs ys : List Str} {Q : VK} (ha : SqL K H a (xs.map V.str)) (hb : SqL K H b (ys.map V.str)) (px : ∀ w ∈ xs, Pl w) (py : ∀ w ∈ ys, Pl w) (q : Q (.bl (decide (xs = ys))) H) : rEqD K (.ref a) (.ref b) H Q := by
  refine ⟨dLs xs, dLs ys, .lst ha (dpS xs), .lst hb (dpS ys), shapedL px, shapedL py, ?_⟩
  simp only [dLs, PyData.eqv, eqvS]
  exact q
/-- a text times an int -/
def rMulS : R2 := fun x y H Q => ∃ (z : Str) (n : Int), x = .str z ∧ y = .int n ∧ MulOk z n ∧ Q (.str (Txt.mul z n)) H
theorem op_mulS {X : Cx} : OpR X (binaryOp .Mult) rMulS := by
  intro pins s σ H x y v u Q I rx ry h
  obtain ⟨z, n, rfl, rfl, hz, q⟩ := h
  obtain ⟨t, rfl⟩ := rx
  obtain ⟨t', rfl⟩ := ry
  exact SB.mul hz fun t' k => ⟨.str (Txt.mul z n), H, I.tok _, ⟨_, rfl⟩, q⟩
/-- all the same text -/
theorem all_str {ys : List V} {z : Str} (h : ∀ (i : Nat) (y : V), ys[i]? = some y → y = .str z) : ys = (List.replicate ys.length z).map V.str := by
  apply List.ext_getElem
  · simp
  · intro i h1 h2
    rw [h i _ (List.getElem?_eq_getElem h1)]
    simp
end Lv

/-! an own error over ValueError: def __init__(self, f): super().__init__(f'..{f}..'); self.f = f -/
namespace PySem
namespace PeX
open PySem.W PySem.Calls PyProof.Rows PySem.HandSPX
/-- where the rows of __init__ stand -/
structure Ps where
  a1 : Pos
  a2 : Pos
  p0 : Pos
  p1 : Pos
  p2 : Pos
  k1 : Pos
  n1 : Pos
  v1 : Pos
  k2 : Pos
  j : Pos
  c : Pos
  x : Pos
  q1 : Pos
  q2 : Pos
  q3 : Pos
  q4 : Pos
def iA (f : Str) (p : Ps) : Arguments := { posonlyargs := [], args := [{ arg := "self", annotation := none, pos := p.a1 }, { arg := f, annotation := none, pos := p.a2 }], vararg := none, kwonlyargs := [], kw_defaults := [], kwarg := none, defaults := [] }
def iB (f a b : Str) (p : Ps) : List Stmt := [
  .Expr (.Call (.Attribute (.Call (.Name "super" p.p0) [] [] p.p1) "__init__" p.p2)
    [.JoinedStr [.Constant (.str a) 0 p.k1, .FormattedValue (.Name f p.n1) (-1) none p.v1, .Constant (.str b) 0 p.k2] p.j] [] p.c) p.x,
  .Assign [.Attribute (.Name "self" p.q1) f p.q2] (.Name f p.q3) p.q4]
def iS (f : Str) : Scope := { kind := .function, names := [(PySem.Str.ofString "self", .local), (f, .local), (PySem.Str.ofString "__class__", .free), (PySem.Str.ofString "super", .globalImplicit)], isGenerator := false, isCoroutine := false, more := [] }
/-- what the written part says of the class c at C, and of its __init__, at fI -/
structure Txt (P : Program) (K : Frag) (mg : Str → Option Value) (c q f a b : Str) (C fI : Addr) : Prop where
  gC : mg c = some (.ref C)
  cls : ∃ nm q N bs bm sn sub ab col dd k0 k1 k2 k3 k5, K.lookup C = some (excClassObj nm q C N bs bm true sn sub ab col dd k0 k1 k2 k3 k5 "ValueError.__new__") ∧ refsVE bm = true
  sa : findIn K (.ref C) "__setattr__" = some (some (.builtin "object.__setattr__"))
  ga : findIn K (.ref C) "__getattribute__" = some (some (.builtin "BaseException.__getattribute__"))
  gg : findIn K (.ref C) "__getattr__" = some none
  noN : findIn K (.ref C) f = some none
  iC : findIn K (.ref C) "__init__" = some (some (.ref fI))
  tC : typeIn K (.ref fI) = some (.type "function")
  kC : keepIn K (.ref C) = true
  exC : subIn K (.ref C) (.type "BaseException") = some true
  veC : subIn K (.ref C) (.type "ValueError") = some true
  tyC : typeIn K (.ref C) = some (.type "type")
  hdC : hasDictIn K C = true
  sup : ks_superIn K C C "__init__" = some (some (.builtin "ValueError.__init__"))
  op : nsIn K cStatics "thirdparty.any" = some none
  msub : mroIn K C (.ref C) = some true
  nsup : mg "super" = none
  top : (P.main.scope.names.lookup ("super" : Str)).isSome = false
  fn : ∃ (oc : Value) (od : Option Addr) (doc pm : Value) (an : Option Addr) (cda : Addr) (ct : Value) (osl : Array (Option Value)) (p : Ps) (cc : Addr) (cl : Value) (cld : Option Addr) (csl : Array (Option Value)) (ccl : Value) (cdd : Option Addr) (vs : Array Value) (ccs : Array (Option Value)) (file : Str) (tf : Tok),
    K.lookup fI = some ⟨oc, od, .func (ksFn "__init__" q (iA f p) (iB f a b p) (iS f) .none .none doc pm an (.ref cda) ct cc), osl⟩ ∧ codeIn K (.ref cda) q = true ∧
    K.lookup cc = some ⟨cl, cld, .cell (some (.ref C)), csl⟩ ∧ K.lookup cda = some ⟨ccl, cdd, .fields vs, ccs⟩ ∧ vs[2]? = some (.str file tf) ∧ ((P.main.file : Str) == file) = true ∧ (p.p2.endLine == p.c.line) = true
/-- a field's name is no other name of __init__ -/
structure Fld (f : Str) : Prop where
  n1 : (f == ("self" : Str)) = false
  n2 : (f == ("__class__" : Str)) = false
  n3 : (f == ("super" : Str)) = false
  n4 : (f == ("__debug__" : Str)) = false
/-- what __init__ leaves of a fresh exception at x -/
structure InitEnd (f : Str) (h h' : Heap) (x C dx t1 : Addr) (v : Value) : Prop where
  keep : ∀ b o, b ≠ x → h.get? b = some o → h'.get? b = some o
  obj : h'.get? x = some { cls := .ref C, dict := some dx, data := .fields #[.ref t1, .none, .none, .none, .bool false, .none] }
  dbig : h.objs.size ≤ dx
  dne : dx ≠ x
  ns : h'.Ns1 dx (fun y => if y = f then some v else none)
theorem kept_but {K : Frag} {h h' : Heap} {x : Addr} (X : K.In h) (hx : K.lookup x = none) (k : ∀ b o, b ≠ x → h.get? b = some o → h'.get? b = some o) : K.In h' := fun a o e =>
  k a o (fun z => by rw [z, hx] at e; cases e) (X a o e)
section
variable {prog : Program} {w : World} {A : Around} {E : Value → Shared → Prop} {R : Result → Shared → Prop} {s : Shared} {K : Frag} {mg mb : Str → Option Value} {C fI : Addr} {c q a b : Str}
theorem call_tree {o : Expr} {name : Str} {apos pos : Pos} {e : Expr} {env : Env} (hpos : (apos.endLine == pos.line) = true) (hs : starEach [e] env = [(false, eval e env)]) :
    eval (.Call (.Attribute o name apos) [e] [] pos) env = (do
      let ov ← attributeBase o name env (eval o env)
      standAt apos.atName
      let (f, first) ← holding [ov] (getMethod ov name (do return (← importBound o env).getD true))
      callWith pos f first (backTo pos (starEach [e] env)) []) := by
  have hf : methodCallForm ([e].length + ([] : List Keyword).length) (backTo pos (starEach [e] env)) (backToKw pos (keywordEach [] env)) = true := by
    rw [hs]
    rfl
  have hm : methodCallPos (methodCallForm ([e].length + ([] : List Keyword).length) (backTo pos (starEach [e] env)) (backToKw pos (keywordEach [] env))) o env apos pos = pure pos := by
    unfold methodCallPos
    rw [hpos, Bool.or_true, if_pos rfl]
  rw [hf] at hm
  rw [arm_eval_Call]
  unfold methodCall
  simp only [hf, hm, calleeOf, if_true, pure_bind]
  rfl
theorem call_wrap {u x t0 N : Addr} {nm qn : Str} {bs bm sub : List Value} {hd ab : Bool} {sn : List Str} {col : Option Bool} {dd : Option Addr} {k0 k1 k2 k3 k5 : Option Value} {rest : List Value} {Q : Value → Shared → Prop}
    (hu : s.heap.get? u = some (kxs_mw "ValueError.__init__" x)) (hC : s.heap.get? C = some (excClassObj nm qn C N bs bm hd sn sub ab col dd k0 k1 k2 k3 k5 "ValueError.__new__")) (he : s.heap.get? x = some (excObj C t0 none .none)) (hz : rest.length ≤ sizeLine)
    (fin : ∀ h', (∀ b o, b ≠ x → s.heap.get? b = some o → h'.get? b = some o) → h'.get? x = some (excObj C s.heap.objs.size none .none) → Q .none { s with heap := h' }) : wpAny (model prog w) A (call (.ref u) rest) Q E s := by
  obtain ⟨hh, g, d, tk, os⟩ := s
  have FB := F.excBase_ValueError
  have go := fun (A : Around) (P : Fin → Shared → Prop) (E : Value → Shared → Prop) (h : ∀ h', (∀ b o, b ≠ x → hh.get? b = some o → h'.get? b = some o) → h'.get? x = some (excObj C hh.objs.size none .none) → P (.done (.ret .none)) ⟨h', g, d, tk, os⟩) =>
    exc_init_tree (M := model prog w) (A := A) (E := E) (P := P) (g := g) (d := d) (t := tk) (os := os) (cls := .ref C) (t0 := t0) (dv := none) (c2 := .none) (c3 := .none) (b4 := .bool false) (rest := rest) he hz fun h' k e _ => h h' k e
  refine wpAny_call (codeAny_of_tree ?_)
  show wpAny _ _ (callAny (.ref u) _) _ _ _
  unfold callAny
  repeat (first | (with_reducible refine wpAny_load hu ?_) | (refine check_bound_init (rest := rest) FB.toExcCallFacts hC he rfl ?_) | wp_step)
  all_goals (try exact ⟨plainId_quiet FB.init.plain _, codeAny_builtin FB.initEntry (go _ _ _ fun h' k e => fin h' k e)⟩)
theorem init (T : Txt prog K mg c q "line" a b C fI) {x t0 : Addr} {v : Value} (X : K.In s.heap) (hlim : s.heap.NoLimit) (hG : s.heap.Ns mainGlobals mg) (hB : s.heap.Ns builtinsNs mb) (hsu : mb "super" = some (.type "super"))
    (hx : s.heap.get? x = some (excO C t0)) (hnx : K.lookup x = none) (hroom : A.depth < recursionLimit)
    (za : a.length ≤ 100) (zb : b.length ≤ 100)
    (hfm : ∀ (A : Around) (s : Shared) (Q : Value → Shared → Prop) (E : Value → Shared → Prop), (∀ (y : Str) (t' k : Nat), y.length ≤ 100000 → Q (.str y t') { s with toks := k }) → wpAny (model prog w) A (formatField v Str.empty) Q E s)
    (hq : ∀ h' tk dx t1, InitEnd "line" s.heap h' x C dx t1 v → R (.ok (.ret .none)) { s with heap := h', toks := tk }) :
    codeAny (model prog w) A (.call (.ref fI) ⟨[.ref x, v], []⟩) R s := by
  obtain ⟨oc, od, doc, pm, an, cda, ct, osl, p, cc, cl, cld, csl, ccl, cdd, vs, ccs, file, tf, ho, hcd, hcell, hcode, hvs, hfile, hpos⟩ := T.fn
  obtain ⟨nm, qn, N, bs, bm, sn, sub, ab, col, dd, k0, k1, k2, k3, k5, hC, hbm⟩ := T.cls
  have hcl : clsIn K C = some { name := nm, bases := bs, mro := .ref C :: bm, ns := N, qualname := qn, hasDict := true, slotNames := sn, subclasses := sub, abstract := ab, collection := col, hasDel := false } := by unfold clsIn; rw [hC] <;> rfl
  have hsup := T.sup
  unfold ks_superIn at hsup
  rw [hcl] at hsup
  obtain ⟨hp, g, dr, tk, os⟩ := s
  refine ks_codeAny_call_defAt (fd := ksFn "__init__" q (iA "line" p) (iB "line" a b p) (iS "line") .none .none doc pm an (.ref cda) ct cc) (body := iB "line" a b p) (binds := [("self", .ref x), ("line", v)]) hroom (X _ _ ho) rfl hlim (codeRec_of X hcd) rfl
    (BindsTo.of_eq (by first | rfl | with_unfolding_all rfl)) (show ∀ x ∈ (iS "line").names, x.2 ≠ .cell by decide) (fun y hy => by
      rcases List.mem_cons.mp hy with rfl | hy
      · rfl
      · rcases List.mem_cons.mp hy with rfl | hy
        · rfl
        · exact nomatch hy) (fun h₁ hns k => ?_)
  have X₁ : K.In h₁ := X.keeps k
  have hx₁ := k _ _ hx
  have hC₁ := X₁ _ _ hC
  refine ks_wpAt_execs_cons (ks_wpAt_Expr_any (ks_wpAt_MethodCall ?_ (call_tree hpos rfl)))
  refine ks_wpAt_super_base rfl rfl rfl rfl (X₁ _ _ ho) rfl rfl rfl (X₁ _ _ hcode) rfl hvs hfile T.top ?_
  refine ks_loadName_global rfl rfl (loadGlobal_builtin (hG.keeps k) T.nsup (hB.keeps k) hsu ⟨rfl, ?_⟩)
  refine wpAny_loadName_free rfl rfl rfl ⟨_, X₁ _ _ hcell, rfl⟩ ?_
  refine wpAny_loadName_local rfl rfl hns rfl ?_
  refine ks_wpAny_isType_cls hC₁ rfl ⟨rfl, ?_⟩
  refine ks_wpAny_call_super hC₁ rfl hx₁ rfl (fun c e => nomatch e) (looks_mroIn X₁ T.msub) (fun h₂ e₂ k₂ => ?_)
  have X₂ : K.In h₂ := X₁.keeps k₂
  have hx₂ := k₂ _ _ hx₁
  have I₂ : InstAt h₂ x (excO C t0) C none := ⟨hx₂, rfl, rfl, trivial⟩
  refine kxs_getMethod kxs_ValueError e₂ (looks_opaque X₂ T.op) (l₀ := .ref C :: bm) (fun A Q E s k q => wpAny_bind ((looks_clsIn X₂ hcl) A _ E s k (wpAny_pure q))) rfl X₂ hsup (I₂.type.andThen (looks_subIn X₂ T.veC)) (ks_ne X₂ I₂ hcl) rfl ?_
  have k₃ : ∀ b o, h₂.get? b = some o → (h₂.push (kxs_mw "ValueError.__init__" x)).get? b = some o := fun b o e => Heap.get?_push_of_some _ e
  have e₃ : (h₂.push (kxs_mw "ValueError.__init__" x)).get? h₂.objs.size = some (kxs_mw "ValueError.__init__" x) := Heap.get?_push_at rfl rfl
  have k₃₃ : ∀ b o, h₁.get? b = some o → (h₂.push (kxs_mw "ValueError.__init__" x)).get? b = some o := fun b o e => k₃ b o (k₂ b o e)
  have hns₃ := hns.keeps k₃₃
  refine kxs_callWith (i := "ValueError.__init__") (x := x) rfl (evalArgs_plain ?_)
  refine spliced_cons ?_
  refine wpAny_JoinedStr (pos := p.j) ?_
  refine Constant_str ⟨_, _, rfl, ?_, ?_⟩
  · show (Str.empty ++ a).length ≤ sizeLine
    rw [strLen_append]
    exact Nat.le_trans (show _ ≤ 100 by show 0 + a.length ≤ 100; omega) (by decide)
  refine wpAny_FormattedValue_plain (wpAny_Name (wpAny_loadName_local rfl rfl hns₃ rfl ?_) (by decide))
  refine hfm _ _ _ _ fun y t' k' hy => ⟨y, t', rfl, ?_, ?_⟩
  · rw [strLen_append, strLen_append]
    exact Nat.le_trans (show _ ≤ 100100 by show 0 + a.length + y.length ≤ 100100; omega) (by decide)
  refine Constant_str ⟨_, _, rfl, ?_, ?_⟩
  · rw [strLen_append, strLen_append, strLen_append]
    exact Nat.le_trans (show _ ≤ 100200 by show 0 + a.length + y.length + b.length ≤ 100200; omega) (by decide)
  refine ⟨?_, ?_⟩
  · rw [strLen_append, strLen_append, strLen_append]
    exact Nat.le_trans (show _ ≤ 100200 by show 0 + a.length + y.length + b.length ≤ 100200; omega) (by decide)
  refine spliced_nil ⟨e₃, ?_⟩
  refine call_wrap e₃ (k₃ _ _ (X₂ _ _ hC)) (k₃ _ _ hx₂) (show 1 ≤ sizeLine by decide) fun h₄ k₄ hx₄ => ?_
  have X₄ : K.In h₄ := kept_but (X₂.keeps k₃) hnx k₄
  have xL : hp.objs.size ≠ x := Nat.ne_of_gt (Heap.lt_size hx)
  have hns₄ : h₄.Ns hp.objs.size (fun x_1 => List.lookup x_1 [(("self" : Str), Value.ref x), (("line" : Str), v)].reverse) := hns₃.at fun o e => k₄ _ o xL e
  show wpAt _ _ _ (execs _ _) _ _ _
  refine ks_wpAt_execs_cons (ks_wpAt_Assign_Attr (wpAt_of_wpAny ?_))
  refine wpAny_Name (wpAny_loadName_local rfl rfl hns₄ rfl ?_) (by decide)
  refine wpAny_Name (wpAny_loadName_local rfl rfl hns₄ rfl ?_) (by decide)
  refine set_plain X₄ (ox := excObj C (h₂.push (kxs_mw "ValueError.__init__" x)).objs.size none .none) (od := none) ⟨hx₄, rfl, rfl, trivial⟩ T.sa ?_
  refine exc_osa X₄ hx₄ hcl (show refsVE (.ref C :: bm) = true from hbm) rfl T.noN (fun h₅ tk₅ dx k₅ dn dne hx₅ hn₅ => ?_)
  show wpAt _ _ _ (execs _ _) _ _ _
  refine wpAt_of_wpAny (wpAny_execs_nil (hq h₅ tk₅ dx _ ⟨fun b o hb e => k₅ b o hb (k₄ b o hb (k₃₃ b o (k b o e))), hx₅, ?_, dne, hn₅⟩))
  have z : hp.objs.size < h₄.objs.size := hns₄.lt
  exact Nat.le_of_lt (Nat.lt_of_lt_of_le z dn)
/-- a made one -/
structure OwnMade (f : Str) (h h' : Heap) (e C d : Addr) (v : Value) : Prop where
  keep : ∀ b o, h.get? b = some o → h'.get? b = some o
  new : h.objs.size ≤ e
  obj : ∃ oe vs, h'.get? e = some oe ∧ oe.cls = .ref C ∧ oe.dict = some d ∧ oe.data = .fields vs ∧ vs[1]? = some .none
  dbig : h.objs.size ≤ d
  dne : d ≠ e
  ns : h'.Ns1 d (fun y => if y = f then some v else none)
theorem made (T : Txt prog K mg c q "line" a b C fI) {v : Value} (X : K.In s.heap) (hlim : s.heap.NoLimit) (hG : s.heap.Ns mainGlobals mg) (hB : s.heap.Ns builtinsNs mb) (hsu : mb "super" = some (.type "super")) (hroom : A.depth + 1 < recursionLimit)
    (za : a.length ≤ 100) (zb : b.length ≤ 100)
    (hfm : ∀ (A : Around) (s : Shared) (Q : Value → Shared → Prop) (E : Value → Shared → Prop), (∀ (y : Str) (t' k : Nat), y.length ≤ 100000 → Q (.str y t') { s with toks := k }) → wpAny (model prog w) A (formatField v Str.empty) Q E s)
    (hq : ∀ h' tk e d, OwnMade "line" s.heap h' e C d v → R (.ok (.ret (.ref e))) { s with heap := h', toks := tk }) :
    codeAny (model prog w) A (.call (.ref C) ⟨[v], []⟩) R s := by
  obtain ⟨nm, qn, N, bs, bm, sn, sub, ab, col, dd, k0, k1, k2, k3, k5, hC, hbm⟩ := T.cls
  obtain ⟨hp, g, dr, tk, os⟩ := s
  have k : ∀ b o, hp.get? b = some o → ((hp.push (kdv_tup [v])).push (excO C hp.objs.size)).get? b = some o := fun b o e => Heap.get?_push_of_some _ (Heap.get?_push_of_some _ e)
  have hget : ((hp.push (kdv_tup [v])).push (excO C hp.objs.size)).get? (hp.objs.size + 1) = some (excO C hp.objs.size) := by heap_get
  have hnx : K.lookup (hp.objs.size + 1) = none := by
    cases e : K.lookup (hp.objs.size + 1) with
    | none => rfl
    | some o =>
      have z : hp.get? (hp.objs.size + 1) = some o := X _ _ e
      exact absurd (Nat.lt_of_succ_lt (Heap.lt_size z)) (Nat.lt_irrefl _)
  refine call_own F.excBase_ValueError (fun X => refsVE_contains X bm hbm) (X _ _ hC) (looks_findIn X T.iC) (fun self => bind_fn X self T.tC) (show 1 ≤ sizeLine by decide) ?_
  refine init (s := ⟨(hp.push (kdv_tup [v])).push (excO C hp.objs.size), g, dr, tk, os⟩) T (X.keeps k) (hlim.keeps k) (hG.keeps k) (hB.keeps k) hsu hget hnx ?_ za zb hfm fun h' tk' dx t1 M => ?_
  · show A.depth + 1 < recursionLimit
    exact hroom
  · obtain ⟨k', hx, dn, dne, hns⟩ := M
    have old : ∀ b o, hp.get? b = some o → h'.get? b = some o := fun b o e => k' b o (Nat.ne_of_lt (Nat.lt_succ_of_lt (Heap.lt_size e))) (k b o e)
    have z : hp.objs.size + 1 + 1 ≤ dx := by
      first
        | (simpa only [Heap.size_push] using dn)
        | exact dn
        | (have q := dn; rw [Heap.size_push, Heap.size_push] at q; exact q)
    exact ⟨rfl, hq h' tk' (hp.objs.size + 1) dx ⟨old, Nat.le_succ _, ⟨_, _, hx, rfl, rfl, rfl, rfl⟩, Nat.le_trans (Nat.le_trans (Nat.le_succ _) (Nat.le_succ _)) z, dne, hns⟩⟩
end
end PeX
end PySem
namespace Lv
open PySem PySem.Spec PyProof.Rows L2
theorem relO_one {f0 : Str} {v : V} {v' : Value} (r : RelV v v') (f : Str) : RelO (List.lookup f [(f0, v)]) (if f = f0 then some v' else none) := by
  by_cases hw : f = f0
  · subst hw
    rw [if_pos rfl]
    have q : List.lookup f [(f, v)] = some v := by simp [List.lookup]
    rw [q]
    exact r
  · rw [if_neg hw]
    have qw : (f == f0) = false := by simpa using hw
    have q2 : List.lookup f [(f0, v)] = none := by simp [List.lookup, qw]
    rw [q2]
    trivial
section
variable {X : Cx} {C fI : Addr} {c q a b : Str}
/-- C(None): the error keeps None -/
def tMkN (C : Addr) (ta : TA) : L2.St → Hp → XK → Prop := fun σ H Q => ta σ H fun vs H1 => vs = [.non] ∧ ∀ d, H1 d = none → Q (.ref C) (some d) (upd H1 d (.xd [(("line" : Str), .non)]))
theorem pmk_none {x : Expr} {ta : TA} {p pos : Pos} {k : Nat} (T : PySem.PeX.Txt X.prog X.K X.mg c q "line" a b C fI) (za : a.length ≤ 100) (zb : b.length ≤ 100) (hr : Room k X.A) (ha : PA X [x] ta) (hg : Gl X c) (hdb : (c == ("__debug__" : Str)) = false)
    (he : starEach (x :: []) X.env = (false, eval x X.env) :: starEach [] X.env := by rfl) (hpl : (backTo pos (starEach [] X.env)).any (·.1) = false := by rfl) :
    PMk X (.Call (.Name c p) [x] [] pos) (tMkN C ta) := by
  intro pins s σ H Q I h
  refine wpAny_Call_Name_kw (ld_glob I hg T.gC ?_ hdb)
  refine PySem.W.callWith_K (h₀ := X.base) I.ok.mod.kin T.kC (thn (ha.run pos pins s σ H _ I h) fun us s1 hh => ?_) he hpl
  obtain ⟨vs, H1, I1, r1, ev, q1⟩ := hh
  subst ev
  refine ⟨I1.kIn, ?_⟩
  cases r1 with
  | cons rv rn =>
    rename_i v' us'
    cases rn
    obtain rfl : v' = Value.none := rv
    show wpAny _ _ (call (.ref C) [Value.none]) _ _ _
    have hlim := I1.nolimit
    have hG := I1.mod.glob.keeps I1.bk
    obtain ⟨mb, hB0, hB1⟩ := I1.mod.blt
    have hB := hB0.keeps I1.bk
    have hsu : mb "super" = some (.type "super") := (hB1 _ (by decide)).trans (by decide +kernel)
    obtain ⟨hp, g, dr, tk, os⟩ := s1
    refine wpAny_call (PySem.PeX.made T I1.kIn hlim hG hB hsu (by have := hr.dp; omega) za zb (fun A s Q E h => wpAny_formatField_none (h _ _ _ (by decide))) fun h' tk' e d M => ?_)
    show MkP X pins σ Q (.ref e) ⟨h', g, dr, tk', os⟩
    obtain ⟨oe, fv, hoe, hc, hd, hdat, h1⟩ := M.obj
    have hns := M.ns
    obtain ⟨G', g1, g2⟩ := restrict h' fun b => decide (b ≠ e)
    have gk : ∀ b, b ≠ e → G'.get? b = h'.get? b := fun b hb => g1 b (decide_eq_true hb)
    have ge : G'.get? e = none := g2 e (by simp)
    have old : ∀ b o, hp.get? b = some o → G'.get? b = some o := fun b o q => (gk b (Nat.ne_of_lt (Nat.lt_of_lt_of_le (Heap.lt_size q) M.new))).trans (M.keep b o q)
    have ob : ObjOk X.prog X.w (upd H1 d (.xd [(("line" : Str), .non)])) G' d (.xd [(("line" : Str), .non)]) :=
      ⟨_, hns.at (fun o q => (gk d M.dne).trans q), fun f => relO_one (v := .non) rfl f⟩
    have J : L2.Inv X pins σ (upd H1 d (.xd [(("line" : Str), .non)])) ⟨G', g, dr, tk', os⟩ := I1.laid (t' := tk') old M.dbig ob
    refine ⟨e, oe, fv, ⟨G', g, dr, tk', os⟩, _, .ref C, some d, rfl, J, fun b o q => ?_, ge, hoe, ⟨hc, hd⟩, hdat, h1, ?_, rfl, I1.bare, raises_own T.exC T.tyC, q1 d (I1.hok.fresh M.dbig)⟩
    · by_cases hb : b = e
      · have q' : G'.get? b = some o := q
        rw [hb, ge] at q'; cases q'
      · exact (gk b hb).symm.trans q
    · rw [upd_ne (Ne.symm M.dne)]
      exact I1.hok.fresh M.new
end
end Lv

/-! try with several clauses, with `as` or without; no exception leaves -/
namespace Lv
open PySem PySem.Spec PyProof.Rows L2
/-- an exception that a try of X has caught -/
structure Got (X : Cx) (pins : List (Addr × Obj)) (σ : L2.St) (H : Hp) (a : Addr) (cls : Value) (d : Option Addr) (s : Shared) : Prop where
  ex : ∃ (B : Heap) (t : Shared), L2.Inv X pins σ H t ∧ (∀ b o, t.heap.get? b = some o → b ∉ frs X.stack → B.get? b = some o) ∧ t.heap.UpToSlots s.heap ∧
    HandSPX.FlyingZ B (X.env :: X.outer) a (Zc cls d) s.heap ∧ s.os = t.os ∧ AllBare s.gens
  na : H a = none
section
variable {X : Cx} {pins : List (Addr × Obj)} {σ : L2.St} {H : Hp} {a : Addr} {cls : Value} {d : Option Addr} {s : Shared}
theorem Got.inv (g : Got X pins σ H a cls d s) : L2.Inv X pins σ H s := by
  obtain ⟨B, t, I, nb, up, fl, os, ag⟩ := g.ex
  exact I.landed nb fl.1 up os ag
theorem Got.suite (g : Got X pins σ H a cls d s) (hf : X.env.frame = some X.env.locals) :
    ∃ oe, Zc cls d oe ∧ (∃ vs, oe.data = .fields vs) ∧ s.heap.get? a = some oe ∧ L2.Inv (X.suite a ((a, oe) :: (X.pn ++ pins))) [] σ H s := by
  obtain ⟨B, t, I, nb, up, fl, os, ag⟩ := id g.ex
  obtain ⟨oe, vs, ge, ze, de⟩ := fl.there
  have out : a ∉ (X.env :: X.outer).filterMap (·.frame) := by
    intro m
    obtain ⟨_, o2, e2, no⟩ := fl.2.2.1.mem m
    cases ge.symm.trans e2
    exact no vs de
  refine ⟨oe, ze, ⟨vs, de⟩, ge, g.inv.suite ge de g.na ?_ ?_⟩
  · rintro rfl
    exact out (List.mem_filterMap.mpr ⟨_, .head _, hf⟩)
  · intro m
    obtain ⟨e1, m1, q1⟩ := List.mem_filterMap.mp m
    exact out (List.mem_filterMap.mpr ⟨e1, .tail _ m1, q1⟩)
theorem Got.land {M : Model} {A : Around} {E : Value → Shared → Prop} {Q : Unit → Shared → Prop} (g : Got X pins σ H a cls d s) (h : ∀ s', Got X pins σ H a cls d s' → Q () s') :
    wpAny M A (setFlight (.ref a) none) Q E s := by
  obtain ⟨B, t, I, nb, up, fl, os, ag⟩ := g.ex
  exact HandSPX.lands_againZ fl fun h4 f4 u4 => h _ ⟨⟨B, t, I, nb, up.trans u4, f4, os, ag⟩, g.na⟩
theorem Got.test {x : Str} {c : Value} {b : Bool} {np pos' : Pos} {R : Except Value Flow → Shared → Prop} (g : Got X pins σ H a cls d s) (hf : X.env.frame = some X.env.locals) (hc : Names X x c)
    (hb : PySem.W.exmOne X.K cls c = some b) (h : R (.ok (if b then .brk else .next)) s) :
    codeAny (model X.prog X.w) (X.A.mark (some (.ref a))) (.handlers (.ref a) [.ExceptHandler (some (.Name x np)) none [] pos'] X.env) R s := by
  obtain ⟨oe, ze, _, ge, S⟩ := g.suite hf
  refine codeAny_handlers_test ?_
  have look : PySem.W.Looks (model X.prog X.w) s.heap (typeOf (.ref a)) cls := fun _ _ _ _ k q => wpAny_typeOf_ref (k _ _ ge) (ze.1.symm ▸ q)
  have nxt := (PySem.W.exm_one (M := model X.prog X.w) g.inv.kIn look hb).here (A := X.A.mark (some (.ref a))) (s := s) (Q := fun b s₂ => R (.ok (if b then .brk else .next)) s₂)
    (E := notedBy (model X.prog X.w) (X.A.mark (some (.ref a))) X.env fun x s₂ => R (.error x) s₂) h
  rcases hc with ⟨hg, hd, hm | ⟨hm, hv, hn⟩⟩
  · exact ld_glob S hg hm nxt hd
  · exact ld_blt S hg hm hv nxt hn hd
theorem sp_try {D : Ends} {f : Flow} {xe : Value → Shared → Prop} {pn : List (Addr × Obj)} (h : SP (X.tr (X.pn ++ pins) xe) pn D f s) (ok : X.Ok) : SP X pins D f s := by
  cases f with
  | ret u => obtain ⟨v, σ1, H1, J, r, q⟩ := h; exact ⟨v, σ1, H1, J.ofTry ok, r, q⟩
  | _ => obtain ⟨σ1, H1, J, q⟩ := h; exact ⟨σ1, H1, J.ofTry ok, q⟩
theorem sp_out {D : Ends} {f : Flow} {q0 : Addr × Obj} {pn : List (Addr × Obj)} (h : SP (X.suite a (q0 :: (X.pn ++ pins))) pn D f s) (ok : X.Ok) : SP X pins D f s := by
  cases f with
  | ret u => obtain ⟨v, σ1, H1, J, r, q⟩ := h; exact ⟨v, σ1, H1, J.unsuite ok, r, q⟩
  | _ => obtain ⟨σ1, H1, J, q⟩ := h; exact ⟨σ1, H1, J.unsuite ok, q⟩
/-- the ends of a suite whose name goes -/
def gone (i : Nat) (D : Ends) : Ends := { nx := fun σ' H' => D.nx (σ'.set i none) H', rt := D.rt, bk := fun σ' H' => D.bk (σ'.set i none) H', ct := fun σ' H' => D.ct (σ'.set i none) H' }
theorem sp_gone {D : Ends} {f : Flow} {i : Nat} {n : Str} {pos' : Pos} {E : Value → Shared → Prop} (hN : X.N.Nodup) (hi : X.N[i]? = some n) (hl : X.env.kindOf n = some .local) (h : SP X pins (gone i D) f s) :
    wpAny (model X.prog X.w) X.A (do bindName X.env n .none; unbindBehindTheSuite X.env n pos') (fun _ s7 => SP X pins D f s7) E s := by
  cases f with
  | ret u => obtain ⟨v, σ1, H1, J, r, q⟩ := h; exact gone_ok J hN hi hl fun s7 J7 => ⟨v, _, _, J7, r, q⟩
  | _ => obtain ⟨σ1, H1, J, q⟩ := h; exact gone_ok J hN hi hl fun s7 J7 => ⟨_, _, J7, q⟩
end
abbrev ClW := Ends → Addr → Value → Option Addr → L2.St → Hp → Prop
/-- a clause, with the class it names and what its suite wishes -/
inductive Clause (X : Cx) : ExceptHandler → Value → ClW → Prop
  | plain {x : Str} {c : Value} {np pos' : Pos} {b₀ : Stmt} {suite : List Stmt} {ts : Addr → Value → Option Addr → TS} (hc : Names X x c)
      (hsu : ∀ (a : Addr) (oe : Obj) (cls : Value) (d : Option Addr) (pn : List (Addr × Obj)), Zc cls d oe → (∃ vs, oe.data = .fields vs) → PSs (X.suite a ((a, oe) :: pn)) (b₀ :: suite) (ts a cls d)) :
      Clause X (.ExceptHandler (some (.Name x np)) none (b₀ :: suite) pos') c (fun D a cls d σ H => ts a cls d D σ H)
  | named {x n : Str} {i : Nat} {c : Value} {np pos' : Pos} {b₀ : Stmt} {suite : List Stmt} {ts : Addr → Value → Option Addr → TS} (hN : X.N.Nodup) (hi : X.N[i]? = some n) (hl : X.env.kindOf n = some .local) (hc : Names X x c)
      (hsu : ∀ (a : Addr) (oe : Obj) (cls : Value) (d : Option Addr) (pn : List (Addr × Obj)), Zc cls d oe → (∃ vs, oe.data = .fields vs) → PSs (X.suite a ((a, oe) :: pn)) (b₀ :: suite) (ts a cls d)) :
      Clause X (.ExceptHandler (some (.Name x np)) (some n) (b₀ :: suite) pos') c (fun D a cls d σ H => ts a cls d (gone i D) (σ.set i (some (.ref a))) H)
inductive Clauses (X : Cx) : List ExceptHandler → List (Value × ClW) → Prop
  | nil : Clauses X [] []
  | cons {h : ExceptHandler} {c : Value} {f : ClW} {hs : List ExceptHandler} {l : List (Value × ClW)} : Clause X h c f → Clauses X hs l → Clauses X (h :: hs) ((c, f) :: l)
/-- what the clauses wish of an exception -/
def wCl (K : PySem.W.Frag) (D : Ends) : List (Value × ClW) → WX
  | [] => fun _ _ _ _ => False
  | (c, f) :: r => fun cls d σ H => (PySem.W.exmOne K cls c = some true ∧ ∀ a, H a = none → f D a cls d σ H) ∨ (PySem.W.exmOne K cls c = some false ∧ wCl K D r cls d σ H)
section
variable {X : Cx} {pins : List (Addr × Obj)} {σ : L2.St} {H : Hp} {a : Addr} {cls : Value} {d : Option Addr} {s : Shared}
theorem clause_yes {hd : ExceptHandler} {c : Value} {f : ClW} {D : Ends} {rest : List ExceptHandler} (k : Clause X hd c f) (hf : X.env.frame = some X.env.locals) (g : Got X pins σ H a cls d s)
    (hb : PySem.W.exmOne X.K cls c = some true) (w : f D a cls d σ H) : wpAny (model X.prog X.w) X.A (handleBy (.ref a) X.env (hd :: rest)) (SP X pins D) X.xe s := by
  have ok := g.inv.ok
  cases k with
  | plain hc hsu =>
    refine wpAny_handleBy_cons (g.test hf hc hb ?_) (nofun)
    refine codeAny_handlers_suite (g.land fun s4 g4 => ?_)
    obtain ⟨oe, ze, fe, _, S⟩ := g4.suite hf
    exact wpAny_mono ((hsu a oe cls d _ ze fe).run [] _ _ _ D S w) (fun fl s6 q => sp_out q ok) fun _ _ z => z.elim
  | @named x n i _ np pos' b₀ suite ts hN hi hl hc hsu =>
    refine wpAny_handleBy_cons (g.test hf hc hb ?_) (nofun)
    refine codeAny_handlers_suite_as (g.land fun s4 g4 => ?_)
    obtain ⟨oe, ze, fe, _, S⟩ := g4.suite hf
    refine store_ok (X := X.suite a ((a, oe) :: (X.pn ++ pins))) (v := .ref a) S hN hi (.inl hl) rfl (fun s5 S5 => ?_) (.inr hl)
    exact wpAny_mono ((hsu a oe cls d _ ze fe).run [] _ _ _ (gone i D) S5 w) (fun fl s6 q => sp_gone hN hi hl (sp_out q ok)) fun _ _ z => z.elim
theorem clause_no {hd : ExceptHandler} {c : Value} {f : ClW} {D : Ends} {rest : List ExceptHandler} (k : Clause X hd c f) (hf : X.env.frame = some X.env.locals) (g : Got X pins σ H a cls d s)
    (hb : PySem.W.exmOne X.K cls c = some false) (w : wpAny (model X.prog X.w) X.A (handleBy (.ref a) X.env rest) (SP X pins D) X.xe s) :
    wpAny (model X.prog X.w) X.A (handleBy (.ref a) X.env (hd :: rest)) (SP X pins D) X.xe s := by
  cases k with
  | plain hc hsu => exact wpAny_handleBy_cons (g.test hf hc hb w) (nofun)
  | named hN hi hl hc hsu => exact wpAny_handleBy_cons (g.test hf hc hb w) (nofun)
theorem clauses_run {hds : List ExceptHandler} {l : List (Value × ClW)} {D : Ends} (k : Clauses X hds l) (hf : X.env.frame = some X.env.locals) (g : Got X pins σ H a cls d s) (w : wCl X.K D l cls d σ H) :
    wpAny (model X.prog X.w) X.A (handleBy (.ref a) X.env hds) (SP X pins D) X.xe s := by
  induction k with
  | nil => exact w.elim
  | cons c r ih =>
    rcases w with ⟨e, w⟩ | ⟨e, w⟩
    · exact clause_yes c hf g e (w a g.na)
    · exact clause_no c hf g e (ih w)
end
/-- what a try wishes of what flies out of its body -/
abbrev caught (X : Cx) (pins : List (Addr × Obj)) (D : Ends) (hds : List ExceptHandler) : Value → Shared → Prop := fun e => wpAny (model X.prog X.w) X.A (noteFrame e X.env)
  (fun _ => wpAny (model X.prog X.w) X.A (setFlight e none) (fun _ => wpAny (model X.prog X.w) X.A (handleBy e X.env hds) (SP X pins D) X.xe) X.xe) X.xe
/-- try: body, with clauses -/
theorem ps_try_cl {X : Cx} {body : List Stmt} {h₀ : ExceptHandler} {hds : List ExceptHandler} {l : List (Value × ClW)} {pos : Pos} {tb : WX → TS} (hs : X.stack = X.env :: X.outer) (hf : X.env.frame = some X.env.locals)
    (hb : ∀ (W : WX) (pn : List (Addr × Obj)) (xe : Value → Shared → Prop), Takes (X.tr pn xe) W → PassesOwn (model X.prog X.w) X.A X.env xe → PSs (X.tr pn xe) body (tb W))
    (k : Clauses X (h₀ :: hds) l) : PS X (.Try body (h₀ :: hds) [] [] pos) (fun D σ H => tb (wCl X.K D l) D σ H) := by
  refine ⟨fun pins s σ H D I h => wpAny_Try_except ?_⟩
  have ok := I.ok
  have run := (hb (wCl X.K D l) (X.pn ++ pins) (caught X pins D (h₀ :: hds)) (fun u s' xx => ?_) PassesOwn.looking).run [] s σ H D (I.toTry _) h
  · refine wpAny_mono run (fun f s1 q => ?_) (fun e s1 he => he)
    have q' := sp_try q ok
    cases f with
    | next => exact wpAny_execs_nil q'
    | _ => exact q'
  · obtain ⟨a, B, t, _, σ1, H1, cls, d, rfl, J, nb, up, sky, na, os, ag, w⟩ := xx
    refine Sky.land Zc.steady (ok.frames.trans (congrArg some hs)) hf (hs ▸ sky) fun h3 f3 u3 => ?_
    exact clauses_run k hf ⟨⟨B, t, J.ofTry ok, nb, up.trans u3, f3, os, ag⟩, na⟩ w
end Lv
namespace PySem.W
open PySem PySem.Spec PySem.Calls PyProof.Rows
/-- a class above that of x -/
theorem isi_up {K : Frag} {x t c : Value} {G : Heap → Prop} (ty : ∀ (M : Model) (h : Heap), G h → Looks M h (typeOf x) t) (e : kitOne K t c = some true) : Answers (fun s => K.In s.heap ∧ G s.heap) x c true := by
  intro dep tk prog w A R s hh
  obtain ⟨hp, gn, dr, tt, os⟩ := s
  obtain ⟨⟨kin, g⟩, fin⟩ := hh
  have lt := ty (model prog w) hp g
  unfold Builtin.«isinstance.nested»
  refine wpAny_bind (lt.at ?_)
  unfold kitOne at e
  cases tc : (t == c) with
  | true =>
    rw [if_pos rfl]
    first
      | ((repeat lk); exact fin tt)
      | exact wpAny_bind (wpAny_rule (wpAny_pure (fin tt)))
  | false =>
    rw [if_neg Bool.false_ne_true]
    rw [tc, if_neg Bool.false_ne_true] at e
    obtain ⟨l1, l2, l3⟩ := kit_cls (M := model prog w) kin e
    refine wpAny_bind (l1.at ?_)
    rw [if_pos (by decide)]
    k_delta "plainIsInstance"
    refine wpAny_bind (wpAny_bind (l2.at ?_))
    rw [if_neg (by decide)]
    refine wpAny_bind (Looks.at (lt.andThen l3) ?_)
    rw [if_pos rfl]
    first
      | exact wpAny_pure (wpAny_pure (fin tt))
      | exact wpAny_pure (fin tt)
      | exact wpAny_bind (wpAny_pure (wpAny_pure (fin tt)))
end PySem.W
namespace Lv
open PySem PySem.Spec PyProof.Rows L2
/-- isinstance(e, c), e the caught error, c its class or one above it -/
def rIsT (K : PySem.W.Frag) (D a : Addr) : List V → Hp → VK → Prop := fun xs H Q => ∃ (c : V) (cv : Value), xs = [.ref a, c] ∧ (∀ u, RelV c u → u = cv) ∧ PySem.W.kitOne K (.ref D) cv = some true ∧ Q (.bl true) H
theorem call_isT {X : Cx} {a D : Addr} {d : Option Addr} {oe : Obj} {pn : List (Addr × Obj)} (hz : Zc (.ref D) d oe) : CallR (X.suite a ((a, oe) :: pn)) (.builtin "isinstance") (rIsT X.K D a) := by
  intro pins s σ H xs us Q I r h
  obtain ⟨c, cv, rfl, hcv, e, q⟩ := h
  obtain _ | ⟨rx, _ | ⟨rc, _ | _⟩⟩ := r
  cases rx
  obtain rfl := hcv _ rc
  have ge := (I.pin (a, oe) (List.mem_append.mpr (.inl (.head _)))).1
  refine call_isinstance (S := fun _ R s => (X.K.In s.heap ∧ s.heap.get? a = some oe) ∧ ∀ tk, R (.ok (.ret (.bool true))) { s with toks := tk })
    (fun prog w A R s hs => isinstance_outer (PySem.W.isi_up (G := fun h => h.get? a = some oe) (fun M h g _ _ _ _ k q => wpAny_typeOf_ref (k _ _ g) (hz.1.symm ▸ q)) e 0 _ prog w A R s hs) (nofun)) ⟨⟨I.kIn, ge⟩, fun tk => ?_⟩
  exact ⟨.bl true, H, I.kept (t' := tk) fun _ _ z => z, rfl, q⟩
/-- repr(None) -/
def rRpN : List V → Hp → VK → Prop := fun xs H Q => xs = [.non] ∧ Q (.str "None") H
theorem call_rpN {X : Cx} : CallR X (.builtin "repr") rRpN := by
  intro pins s σ H xs us Q I r h
  obtain ⟨rfl, q⟩ := h
  obtain _ | ⟨rx, _ | _⟩ := r
  cases rx
  exact PySem.P.repr_of_none ⟨.str _, H, I.tok _, ⟨_, rfl⟩, q⟩
end Lv

/-! errors over other classes than ValueError -/
namespace PySem
namespace PeB
open PySem.W PySem.Calls PyProof.Rows PySem.HandSPX Builtin Builtin.ObjectAttr
abbrev keTail : List Value := [.type "KeyError", .type "LookupError", .type "Exception", .type "BaseException", .type "object"]
/-- what is asked of the __new__ under which such objects are made -/
structure NewF (B newId : String) : Prop where
  kind : builtinKind newId = some .builtinFn
  split : splitId newId = some (B, "__new__")
  row : Manifest.signature? newId = some ⟨.any, B, B, .cls, [⟨"args", .varPos, false⟩, ⟨"kwargs", .varKw, false⟩]⟩
  ends : newId.endsWith ".__new__" = true
  entry : entryFor table newId = some Builtin.«BaseException.__new__»
  owner : newId.dropRight 8 = B
  canon : Manifest.canonical newId = Manifest.canonical "BaseException.__new__"
  quiet : newId.startsWith "lifetime." = false
  star : (B != "*") = true
theorem NewF.of {B newId initId : String} {bm : List Value} (F : ExcBaseFacts B newId initId bm) : NewF B newId := ⟨F.newKind, F.newSplit, F.newRow, F.ends, F.entry, F.owner, F.canon, F.quiet, F.noStar⟩
/-- what is asked of the __init__ that super() finds -/
structure InitF (B initId : String) : Prop where
  kx : KxsFacts B initId
  kind : builtinKind initId = some .slot
  row : Manifest.signature? initId = some ⟨.positional, "*", B, .self, [⟨"args", .varPos, false⟩]⟩
  slot : Slot B "__init__" initId
  entry : entryFor table initId = some Builtin.«BaseException.__init__»
  star : (B != "*") = true
theorem InitF.of {B newId initId : String} {bm : List Value} (k : KxsFacts B initId) (F : ExcBaseFacts B newId initId bm) : InitF B initId := ⟨k, F.initKind, F.initRow, F.init, F.initEntry, F.noStar⟩
theorem keKx : KxsFacts "KeyError" "KeyError.__init__" := by
  refine ⟨?_, ?_⟩
  · show builtinType _ = _
    rw [builtinType_eq_fast]
    kernel_rfl
  · kernel_rfl
theorem keInit : InitF "KeyError" "KeyError.__init__" := by
  refine ⟨keKx, by kernel_rfl, by kernel_rfl, ?_, ?_, by decide +kernel⟩
  · refine .of (owner := "KeyError") (n := "__init__") ?_ (by decide +kernel) (by decide +kernel) (by decide +kernel) ?_ ?_
    · rw [typeLookup_type, builtinLookup_eq_fast]
      kernel_rfl
    · first
        | exact .inl (by decide +kernel)
        | exact .inr (by decide +kernel)
    · rw [isSubtype_type]
      kernel_rfl
  · refine entryFor_alias (id' := "BaseException.__init__") ?_ ?_ (by decide +kernel) ?_
    · rw [fastTable_eq_tree]
      kernel_rfl
    · first
        | rfl
        | decide +kernel
    · rw [fastTable_eq_tree]
      kernel_rfl
/-- the classes above such a class -/
structure Above (B' : String) (l : List Value) : Prop where
  has : l.contains (.type B') = true
  na : l.contains (.type "AttributeError") = false
  nn : l.contains (.type "NameError") = false
  obj : l.contains (.type "object") = true
  ne : l.isEmpty = false
  pass : ∀ self, refuseLoop self "__setattr__" l = pure ()
section
variable {prog : Program} {w : World} {A : Around} {E : Value → Shared → Prop} {R : Result → Shared → Prop} {h : Heap} {g : Array GenState} {d : Drawn} {t : Nat} {os : OsState}
variable {nm q : Str} {C N : Addr} {bs bm : List Value} {hdct : Bool} {sn : List Str} {sub : List Value} {ab : Bool} {col : Option Bool} {dd : Option Addr} {k0 k1 k2 k3 k5 : Option Value} {B newId : String}
theorem made_new (F : NewF B newId) (L : Above B (.ref C :: bm)) {rest : List Value} (hC : h.get? C = some (excClassObj nm q C N bs bm hdct sn sub ab col dd k0 k1 k2 k3 k5 newId)) (hz : rest.length ≤ sizeLine)
    (fin : R (.ok (.ret (.ref (h.objs.size + 1)))) ⟨(h.push (kdv_tup rest)).push (excO C h.objs.size), g, d, t, os⟩) : codeAny (model prog w) A (.call (.builtin newId) ⟨.ref C :: rest, []⟩) R ⟨h, g, d, t, os⟩ := by
  have cB := L.has
  have cA := L.na
  have cN := L.nn
  have e1 := F.ends
  have e2 := F.star
  refine codeAny_call_builtin_code (Code.quiet_builtin _ F.quiet) ?_
  simp only [checkBuiltinCall, F.kind, F.split, F.row]
  repeat (first
    | refine wpAny_loadPart_at hC ?_
    | (refine wpAny_isSubtype_exc hC ?_; rw [cB])
    | refine wpAny_staticBase_exc hC ?_
    | refine wpAny_madeBy_exc hC ?_
    | simp only [bne_self_eq_false, Bool.false_eq_true, if_false]
    | wp_step)
  refine codeAny_builtinAt F.entry ?_
  unfold Builtin.«BaseException.__new__»; refine wpAt_bind ?_
  change wpAt _ _ _ (stack >>= _) _ _ _
  refine wpAt_bind (wpAt_stack fun _ _ => wpAt_of_wpAny ?_)
  wp_walk
  refine wpAt_of_wpAny ?_
  rw [F.owner]
  repeat (first
    | with_reducible refine wpAny_madeHere_exc F.canon hC ?_
    | with_reducible refine wpAny_loadPart_at hC ?_
    | (with_reducible refine wpAny_isSubtype_exc hC ?_; first | rw [cB] | rw [cA] | rw [cN])
    | wp_step)
  show R _ _
  rw [Heap.size_push]
  exact fin
theorem type_call (F : NewF B newId) (L : Above B (.ref C :: bm)) {rest : List Value} {fI : Addr} {Q : Fin → Shared → Prop} (hC : h.get? C = some (excClassObj nm q C N bs bm hdct sn sub ab col dd k0 k1 k2 k3 k5 newId))
    (hi : Looks (model prog w) h (typeLookup (.ref C) "__init__") (some (.ref fI))) (hb : ∀ self, Looks (model prog w) h (bindSpecial (.ref fI) self) (.ref fI, [self])) (hz : rest.length ≤ sizeLine)
    (go : codeAny (model prog w) A (.call (.ref fI) ⟨.ref (h.objs.size + 1) :: rest, []⟩)
      (fun r s' => match r with | .ok (.ret v) => v = .none ∧ Q (.done (.ret (.ref (h.objs.size + 1)))) s' | .ok _ => False | .error e => E e s') ⟨(h.push (kdv_tup rest)).push (excO C h.objs.size), g, d, t, os⟩) :
    wpAny (model prog w) A (Builtin.«type.__call__» ⟨.ref C :: rest, []⟩) Q E ⟨h, g, d, t, os⟩ := by
  have kk : ∀ b o, h.get? b = some o → ((h.push (kdv_tup rest)).push (excO C h.objs.size)).get? b = some o := fun b o e => Heap.get?_push_of_some _ (Heap.get?_push_of_some _ e)
  have own : (Value.ref C :: bm).contains (.ref C) = true := by simp
  have here : ((h.push (kdv_tup rest)).push (excO C h.objs.size)).get? (h.objs.size + 1) = some (excO C h.objs.size) := by heap_get
  repeat (first
    | with_reducible refine wpAny_loadPart_at hC ?_
    | with_reducible refine wpAny_madeBy_exc hC ?_
    | wp_step)
  refine made_new F L hC hz ?_
  change wpAny _ _ _ _ _ _
  unfold isInstance
  repeat (first
    | with_reducible refine wpAny_loadPart_at here ?_
    | (with_reducible refine wpAny_isSubtype_exc (kk _ _ hC) ?_; rw [own])
    | wp_step)
  change wpAny _ _ (typeLookup (.ref C) _) _ _ _
  refine (hi.keeps kk).at (wpAny_holding (wpAny_bind (((hb _).keeps kk).at (wpAny_bind (wpAny_call (codeAny_mono go fun r s' z => ?_))))))
  match r, z with
  | .error e, z => exact z
  | .ok (.ret v), z =>
    obtain ⟨rfl, z⟩ := z
    first
      | exact wpAny_pure (wpAny_pure z)
      | (wp_walk; exact z)
theorem call_cls (F : NewF B newId) (L : Above B (.ref C :: bm)) {rest : List Value} {fI : Addr} (hC : h.get? C = some (excClassObj nm q C N bs bm hdct sn sub ab col dd k0 k1 k2 k3 k5 newId))
    (hi : Looks (model prog w) h (typeLookup (.ref C) "__init__") (some (.ref fI))) (hb : ∀ self, Looks (model prog w) h (bindSpecial (.ref fI) self) (.ref fI, [self])) (hz : rest.length ≤ sizeLine)
    (go : codeAny (model prog w) (A.under (.builtin "type.__call__" ⟨.ref C :: rest, []⟩)) (.call (.ref fI) ⟨.ref (h.objs.size + 1) :: rest, []⟩) (InitBack (h.objs.size + 1) R) ⟨(h.push (kdv_tup rest)).push (excO C h.objs.size), g, d, t, os⟩) :
    codeAny (model prog w) A (.call (.ref C) ⟨rest, []⟩) R ⟨h, g, d, t, os⟩ := by
  have l1 := tc_lookup
  have l2 := tc_bind (.ref C)
  have l3 : (⟨h, g, d, t, os⟩ : Shared).TypeIs (.ref C) "type" := ⟨_, hC, rfl⟩
  refine codeAny_of_tree (show wpAny _ _ (callAny (.ref C) _) _ _ _ from ?_)
  repeat (any_goals (first
    | assumption
    | with_reducible refine wpAny_loadPart_at hC ?_
    | wp_step))
  refine ⟨rfl, codeAny_call_builtin_at (Code.quiet_builtin _ (by decide +kernel)) entry_typeCall (wpAny_check_type_call_sub hC (type_call F L hC hi hb hz (codeAny_mono go fun r s' z => ?_)))⟩
  match r, z with
  | .error e, z => exact z
  | .ok (.ret v), z => exact z
theorem Above.of {B' : String} {bmB l : List Value} (a : Above B' bmB) (e : excTail bmB l = true) : Above B' l where
  has := (excTail_contains _ l e).trans a.has
  na := (excTail_contains _ l e).trans a.na
  nn := (excTail_contains _ l e).trans a.nn
  obj := (excTail_contains _ l e).trans a.obj
  ne := by
    cases l with
    | nil =>
      have z := a.has
      rw [← excTail_contains (bmB := bmB) B' [] e] at z
      cases z
    | cons _ _ => rfl
  pass := fun self => excTail_pass self (a.pass self) l e
abbrev tl1 (b : String) : List Value := [.type b, .type "Exception", .type "BaseException", .type "object"]
abbrev tl2 (a b : String) : List Value := [.type a, .type b, .type "Exception", .type "BaseException", .type "object"]
theorem aVE : Above "ValueError" (tl1 "ValueError") := ⟨by decide +kernel, by decide +kernel, by decide +kernel, by decide +kernel, rfl, F.store_ValueError.passes⟩
theorem aKE : Above "LookupError" (tl2 "KeyError" "LookupError") := ⟨by decide +kernel, by decide +kernel, by decide +kernel, by decide +kernel, rfl, fun self => by kernel_rfl⟩
theorem aLE : Above "LookupError" (tl1 "LookupError") := ⟨by decide +kernel, by decide +kernel, by decide +kernel, by decide +kernel, rfl, F.store_LookupError.passes⟩
theorem aIE : Above "IndexError" (tl2 "IndexError" "LookupError") := ⟨by decide +kernel, by decide +kernel, by decide +kernel, by decide +kernel, rfl, F.store_IndexError.passes⟩
theorem aOE : Above "OverflowError" (tl2 "OverflowError" "ArithmeticError") := ⟨by decide +kernel, by decide +kernel, by decide +kernel, by decide +kernel, rfl, F.store_OverflowError.passes⟩
theorem aAE : Above "ArithmeticError" (tl1 "ArithmeticError") := ⟨by decide +kernel, by decide +kernel, by decide +kernel, by decide +kernel, rfl, F.store_ArithmeticError.passes⟩
theorem aRE : Above "RuntimeError" (tl1 "RuntimeError") := ⟨by decide +kernel, by decide +kernel, by decide +kernel, by decide +kernel, rfl, F.store_RuntimeError.passes⟩
/-- self.name = v where the error has no dict yet -/
theorem osaB {K : Frag} {B' : String} {name : Str} {tk : Tok} {v : Value} {x : Addr} {fv : Array Value} {cd : ClassData} (X : K.In h) (hx : h.get? x = some { cls := .ref C, data := .fields fv }) (hcd : clsIn K C = some cd) (L : Above B' cd.mro)
    (hh : cd.hasDict = true) (ha : findIn K (.ref C) name = some none)
    (fin : ∀ h' tk' dx, (∀ b o, b ≠ x → h.get? b = some o → h'.get? b = some o) → h.objs.size ≤ dx → dx ≠ x → h'.get? x = some { cls := .ref C, dict := some dx, data := .fields fv } →
      h'.Ns1 dx (fun y => if y = name then some v else none) → R (.ok (.ret .none)) ⟨h', g, d, tk', os⟩) :
    codeAny (model prog w) A (.call (.builtin "object.__setattr__") ⟨[.ref x, .str name tk, v], []⟩) R ⟨h, g, d, t, os⟩ := by
  have J : InstAt h x { cls := .ref C, data := .fields fv } C none := ⟨hx, rfl, rfl, trivial⟩
  have S := F.store_object
  have far : x ≠ h.objs.size := Nat.ne_of_lt (Heap.lt_size hx)
  have lc : Looks (model prog w) h (classData C) cd := looks_clsIn X hcd
  have lo : Looks (model prog w) h (isInstance (.ref x) (.type "object")) true := by
    refine J.type.andThen (looks_mroIn X ?_)
    unfold mroIn
    rw [hcd, Option.bind_some, if_neg (by rw [L.ne]; decide), L.obj]
  have lm : Looks (model prog w) h (mroOf (.ref C)) cd.mro := lc.andThen .now
  refine codeAny_call_builtin S.slot.plain S.entry (@check_slot (model prog w) _ _ ⟨h, g, d, t, os⟩ "object.__setattr__" "object" "__setattr__" (.ref x) [.str name tk, v] [] _ S.kind S.split lo (S.args _ _ _) ?_)
  rw [osa_eq, refuse_eq]
  refine wpAny_bind (wpAny_bind (J.type.at (wpAny_bind (lm.at ?_))))
  rw [L.pass]
  refine wpAny_pure (wpAny_bind (J.type.at (wpAny_bind ((looks_findIn X ha).at (wpAny_bind (Looks.at (r := none) .now ?_))))))
  change wpAny _ _ (storeInOwnDict (.ref x) (.ref C) (.str name tk) name v false) _ _ _
  obtain ⟨a1, a2, a3, a4, a5, hd, a6, a7, a8, a9, a0⟩ := cd
  obtain rfl : hd = true := hh
  unfold storeInOwnDict ownDictForStores
  repeat (first
    | with_reducible refine store_in_new ?_ ?_
    | with_reducible refine wpAny_loadPart_at hx ?_
    | with_reducible refine lc.at ?_
    | wp_step)
  · exact ⟨_, #[], _, (Heap.get?_update_ne _ _ _ _ far.symm).trans (Heap.get?_push_at rfl rfl), rfl, fun e he => absurd he (by simp), fun _ => rfl⟩
  · intro h' tk' n1 n2
    refine fin h' tk' h.objs.size (fun b o hb e => ?_) (Nat.le_refl _) far.symm ?_ n1
    · rw [n2.2 b (Nat.ne_of_lt (Heap.lt_size e)), Heap.get?_update_ne _ _ _ _ hb]
      exact Heap.get?_push_of_some _ e
    · rw [n2.2 x far]
      exact Heap.get?_update_self _ (Heap.get?_push_of_some _ hx) rfl
theorem check_boundB {M : Model} {B' newId i : String} (F : InitF B' i) {x : Addr} {oe : Obj} {rest : List Value} {Q : Unit → Shared → Prop} (hC : h.get? C = some (excClassObj nm q C N bs bm hdct sn sub ab col dd k0 k1 k2 k3 k5 newId))
    (he : h.get? x = some oe) (hc : oe.cls = .ref C) (fin : Q () ⟨h, g, d, t, os⟩) : wpAny M A (checkBoundCall i ⟨.ref x :: rest, []⟩) Q E ⟨h, g, d, t, os⟩ := by
  have st := F.star
  simp only [checkBoundCall, F.kind, F.row]
  repeat (first
    | (with_reducible refine wpAny_loadPart_at he ?_; rw [hc])
    | with_reducible refine wpAny_loadPart_at hC ?_
    | wp_step)
  have e : ∀ (a b : String) (n : Nat), Bind.check ⟨.positional, "*", B', .self, [⟨"args", .varPos, false⟩]⟩ a b n (List.map (fun x => x.fst) ({ pos := Value.ref x :: rest } : Args).kw) = pure () := fun _ _ _ => check_star_args _ _ _ _ _ _
  exact wpAny_onRaise (by rw [e]; exact wpAny_pure fin)
/-- the bound __init__ of a class above, called -/
theorem call_wrapB {B' i : String} (F : InitF B' i) {u x t0 : Addr} {rest : List Value} {Q : Value → Shared → Prop} {s : Shared} (hu : s.heap.get? u = some (kxs_mw i x))
    (hC : s.heap.get? C = some (excClassObj nm q C N bs bm hdct sn sub ab col dd k0 k1 k2 k3 k5 newId)) (he : s.heap.get? x = some (excObj C t0 none .none)) (hz : rest.length ≤ sizeLine)
    (fin : ∀ h', (∀ b o, b ≠ x → s.heap.get? b = some o → h'.get? b = some o) → h'.get? x = some (excObj C s.heap.objs.size none .none) → Q .none { s with heap := h' }) : wpAny (model prog w) A (call (.ref u) rest) Q E s := by
  obtain ⟨hh, g, d, tk, os⟩ := s
  have go := fun (A : Around) (P : Fin → Shared → Prop) (E : Value → Shared → Prop) (f : ∀ h', (∀ b o, b ≠ x → hh.get? b = some o → h'.get? b = some o) → h'.get? x = some (excObj C hh.objs.size none .none) → P (.done (.ret .none)) ⟨h', g, d, tk, os⟩) =>
    exc_init_tree (M := model prog w) (A := A) (E := E) (P := P) (g := g) (d := d) (t := tk) (os := os) (cls := .ref C) (t0 := t0) (dv := none) (c2 := .none) (c3 := .none) (b4 := .bool false) (rest := rest) he hz fun h' k e _ => f h' k e
  refine wpAny_call (codeAny_of_tree (show wpAny _ _ (callAny (.ref u) _) _ _ _ from ?_))
  unfold callAny
  repeat (first
    | (with_reducible refine wpAny_load hu ?_)
    | (refine check_boundB (rest := rest) F hC he rfl ?_)
    | wp_step)
  all_goals (try exact ⟨plainId_quiet F.slot.plain _, codeAny_builtin F.entry (go _ _ _ fun h' k e => fin h' k e)⟩)
end
end PeB
end PySem

set_option pp.maxSteps 300
/-! an own error over some class of Python: def __init__(self, f): super().__init__(f'..{f}..'); self.f = f -/
namespace PySem
namespace PeB
open PySem.W PySem.Calls PyProof.Rows PySem.HandSPX
/-- the class above: of whose __new__ (Bn, newId), of whose __init__ (Bi, i), its own row -/
structure Bs where
  Bn : String
  newId : String
  Bi : String
  i : String
  tail : List Value
structure BsOk (p : Bs) : Prop where
  new : NewF p.Bn p.newId
  init : InitF p.Bi p.i
  ab : Above p.Bn p.tail
abbrev bVE : Bs := ⟨"ValueError", "ValueError.__new__", "ValueError", "ValueError.__init__", tl1 "ValueError"⟩
abbrev bKE : Bs := ⟨"LookupError", "LookupError.__new__", "KeyError", "KeyError.__init__", tl2 "KeyError" "LookupError"⟩
abbrev bLE : Bs := ⟨"LookupError", "LookupError.__new__", "LookupError", "LookupError.__init__", tl1 "LookupError"⟩
abbrev bIE : Bs := ⟨"IndexError", "IndexError.__new__", "IndexError", "IndexError.__init__", tl2 "IndexError" "LookupError"⟩
abbrev bOE : Bs := ⟨"OverflowError", "OverflowError.__new__", "OverflowError", "OverflowError.__init__", tl2 "OverflowError" "ArithmeticError"⟩
abbrev bAE : Bs := ⟨"ArithmeticError", "ArithmeticError.__new__", "ArithmeticError", "ArithmeticError.__init__", tl1 "ArithmeticError"⟩
abbrev bRE : Bs := ⟨"RuntimeError", "RuntimeError.__new__", "RuntimeError", "RuntimeError.__init__", tl1 "RuntimeError"⟩
theorem okVE : BsOk bVE := ⟨.of F.excBase_ValueError, .of kxs_ValueError F.excBase_ValueError, aVE⟩
theorem okKE : BsOk bKE := ⟨.of F.excBase_LookupError, keInit, aKE⟩
theorem okLE : BsOk bLE := ⟨.of F.excBase_LookupError, .of kxs_LookupError F.excBase_LookupError, aLE⟩
theorem okIE : BsOk bIE := ⟨.of F.excBase_IndexError, .of kxs_IndexError F.excBase_IndexError, aIE⟩
theorem okOE : BsOk bOE := ⟨.of F.excBase_OverflowError, .of kxs_OverflowError F.excBase_OverflowError, aOE⟩
theorem okAE : BsOk bAE := ⟨.of F.excBase_ArithmeticError, .of kxs_ArithmeticError F.excBase_ArithmeticError, aAE⟩
theorem okRE : BsOk bRE := ⟨.of F.excBase_RuntimeError, .of kxs_RuntimeError F.excBase_RuntimeError, aRE⟩
/-- __init__ whose text begins with the value -/
def iB1 (f a b : Str) (p : PeX.Ps) : List Stmt := [
  .Expr (.Call (.Attribute (.Call (.Name "super" p.p0) [] [] p.p1) "__init__" p.p2) [.JoinedStr [.FormattedValue (.Name f p.n1) (-1) none p.v1, .Constant (.str b) 0 p.k2] p.j] [] p.c) p.x,
  .Assign [.Attribute (.Name "self" p.q1) f p.q2] (.Name f p.q3) p.q4]
/-- __init__ whose text ends with the value -/
def iB2 (f a b : Str) (p : PeX.Ps) : List Stmt := [
  .Expr (.Call (.Attribute (.Call (.Name "super" p.p0) [] [] p.p1) "__init__" p.p2) [.JoinedStr [.Constant (.str a) 0 p.k1, .FormattedValue (.Name f p.n1) (-1) none p.v1] p.j] [] p.c) p.x,
  .Assign [.Attribute (.Name "self" p.q1) f p.q2] (.Name f p.q3) p.q4]
/-- what the written part says of the class c at C, and of its __init__, at fI -/
structure TxB (P : Program) (K : Frag) (mg : Str → Option Value) (c q f a b : Str) (C fI : Addr) (p : Bs) (bd : Str → Str → Str → PeX.Ps → List Stmt) : Prop where
  gC : mg c = some (.ref C)
  cls : ∃ nm q N bs bm sn sub ab col dd k0 k1 k2 k3 k5, K.lookup C = some (excClassObj nm q C N bs bm true sn sub ab col dd k0 k1 k2 k3 k5 p.newId) ∧ excTail p.tail bm = true
  sa : findIn K (.ref C) "__setattr__" = some (some (.builtin "object.__setattr__"))
  ga : findIn K (.ref C) "__getattribute__" = some (some (.builtin "BaseException.__getattribute__"))
  gg : findIn K (.ref C) "__getattr__" = some none
  noN : findIn K (.ref C) f = some none
  iC : findIn K (.ref C) "__init__" = some (some (.ref fI))
  tC : typeIn K (.ref fI) = some (.type "function")
  kC : keepIn K (.ref C) = true
  exC : subIn K (.ref C) (.type "BaseException") = some true
  veC : subIn K (.ref C) (.type p.Bi) = some true
  tyC : typeIn K (.ref C) = some (.type "type")
  hdC : hasDictIn K C = true
  sup : ks_superIn K C C "__init__" = some (some (.builtin p.i))
  op : nsIn K cStatics "thirdparty.any" = some none
  msub : mroIn K C (.ref C) = some true
  nsup : mg "super" = none
  top : (P.main.scope.names.lookup ("super" : Str)).isSome = false
  fn : ∃ (oc : Value) (od : Option Addr) (doc pm : Value) (an : Option Addr) (cda : Addr) (ct : Value) (osl : Array (Option Value)) (ps : PeX.Ps) (cc : Addr) (cl : Value) (cld : Option Addr) (csl : Array (Option Value)) (ccl : Value) (cdd : Option Addr) (vs : Array Value) (ccs : Array (Option Value)) (file : Str) (tf : Tok),
    K.lookup fI = some ⟨oc, od, .func (ksFn "__init__" q (PeX.iA f ps) (bd f a b ps) (PeX.iS f) .none .none doc pm an (.ref cda) ct cc), osl⟩ ∧ codeIn K (.ref cda) q = true ∧
    K.lookup cc = some ⟨cl, cld, .cell (some (.ref C)), csl⟩ ∧ K.lookup cda = some ⟨ccl, cdd, .fields vs, ccs⟩ ∧ vs[2]? = some (.str file tf) ∧ ((P.main.file : Str) == file) = true ∧ (ps.p2.endLine == ps.c.line) = true
section
variable {prog : Program} {w : World} {A : Around} {E : Value → Shared → Prop} {R : Result → Shared → Prop} {s : Shared} {K : Frag} {mg mb : Str → Option Value} {C fI : Addr} {c q a b : Str}
/-- how the value is put into the text of the error -/
def Fmts (prog : Program) (w : World) (A : Around) (h : Heap) (v : Value) : Prop :=
  ∀ (env : Env) (s' : Shared) (Q : Value → Shared → Prop) (E : Value → Shared → Prop), (∀ b o, h.get? b = some o → s'.heap.get? b = some o) →
    (∀ (y : Str) (t' k : Nat) (h' : Heap), y.length ≤ 100000 → (∀ b o, s'.heap.get? b = some o → h'.get? b = some o) → Q (.str y t') { s' with heap := h', toks := k }) → wpAny (model prog w) (A.deeper env) (formatField v Str.empty) Q E s'
theorem Fmts.mono {prog : Program} {w : World} {A : Around} {h h' : Heap} {v : Value} (f : Fmts prog w A h v) (k : ∀ b o, h.get? b = some o → h'.get? b = some o) : Fmts prog w A h' v :=
  fun env s' Q E k' fin => f env s' Q E (fun b o e => k' b o (k b o e)) fin
/-- a class whose objects keep what they are made of, in the field f -/
structure Kp (P : Program) (w : World) (K : Frag) (mg : Str → Option Value) (c : Str) (C : Addr) (f : Str) : Prop where
  gC : mg c = some (.ref C)
  kC : keepIn K (.ref C) = true
  exC : subIn K (.ref C) (.type "BaseException") = some true
  tyC : typeIn K (.ref C) = some (.type "type")
  ga : findIn K (.ref C) "__getattribute__" = some (some (.builtin "BaseException.__getattribute__"))
  gg : findIn K (.ref C) "__getattr__" = some none
  hdC : hasDictIn K C = true
  noN : findIn K (.ref C) f = some none
  made : ∀ (A : Around) (R : Result → Shared → Prop) (s : Shared) (v : Value) (mb : Str → Option Value), K.In s.heap → s.heap.NoLimit → s.heap.Ns mainGlobals mg → s.heap.Ns builtinsNs mb → mb "super" = some (.type "super") → A.depth + 1 < recursionLimit →
    Fmts P w (A.under (.builtin "type.__call__" ⟨[.ref C, v], []⟩)) s.heap v → (∀ h' tk e d, PeX.OwnMade f s.heap h' e C d v → R (.ok (.ret (.ref e))) { s with heap := h', toks := tk }) → codeAny (model P w) A (.call (.ref C) ⟨[v], []⟩) R s
/-- the __init__ of such a class, whose field is line -/
theorem init_line {p : Bs} (ok : BsOk p) (T : TxB prog K mg c q "line" a b C fI p PeX.iB) {x t0 : Addr} {v : Value} (X : K.In s.heap) (hlim : s.heap.NoLimit) (hG : s.heap.Ns mainGlobals mg) (hB : s.heap.Ns builtinsNs mb) (hsu : mb "super" = some (.type "super"))
    (hx : s.heap.get? x = some (excO C t0)) (hnx : K.lookup x = none) (hroom : A.depth < recursionLimit) (za : a.length ≤ 100) (zb : b.length ≤ 100)
    (hfm : Fmts prog w A s.heap v)
    (hq : ∀ h' tk dx t1, PeX.InitEnd "line" s.heap h' x C dx t1 v → R (.ok (.ret .none)) { s with heap := h', toks := tk }) :
    codeAny (model prog w) A (.call (.ref fI) ⟨[.ref x, v], []⟩) R s := by
  obtain ⟨oc, od, doc, pm, an, cda, ct, osl, ps, cc, cl, cld, csl, ccl, cdd, vs, ccs, file, tf, ho, hcd, hcell, hcode, hvs, hfile, hpos⟩ := T.fn
  obtain ⟨nm, qn, N, bs, bm, sn, sub, ab, col, dd, k0, k1, k2, k3, k5, hC, hbm⟩ := T.cls
  have hcl : clsIn K C = some { name := nm, bases := bs, mro := .ref C :: bm, ns := N, qualname := qn, hasDict := true, slotNames := sn, subclasses := sub, abstract := ab, collection := col, hasDel := false } := by unfold clsIn; rw [hC] <;> rfl
  have hsup := T.sup
  unfold ks_superIn at hsup
  rw [hcl] at hsup
  obtain ⟨hp, g, dr, tk, os⟩ := s
  refine ks_codeAny_call_defAt (fd := ksFn "__init__" q (PeX.iA "line" ps) (PeX.iB "line" a b ps) (PeX.iS "line") .none .none doc pm an (.ref cda) ct cc) (body := PeX.iB "line" a b ps) (binds := [("self", .ref x), ("line", v)]) hroom (X _ _ ho) rfl hlim (codeRec_of X hcd) rfl
    (BindsTo.of_eq (by first | rfl | with_unfolding_all rfl)) (show ∀ x ∈ (PeX.iS "line").names, x.2 ≠ .cell by decide) (fun y hy => by
      rcases List.mem_cons.mp hy with rfl | hy
      · rfl
      · rcases List.mem_cons.mp hy with rfl | hy
        · rfl
        · exact nomatch hy) (fun h₁ hns k => ?_)
  have X₁ : K.In h₁ := X.keeps k
  have hx₁ := k _ _ hx
  have hC₁ := X₁ _ _ hC
  refine ks_wpAt_execs_cons (ks_wpAt_Expr_any (ks_wpAt_MethodCall ?_ (PeX.call_tree hpos rfl)))
  refine ks_wpAt_super_base rfl rfl rfl rfl (X₁ _ _ ho) rfl rfl rfl (X₁ _ _ hcode) rfl hvs hfile T.top ?_
  refine ks_loadName_global rfl rfl (loadGlobal_builtin (hG.keeps k) T.nsup (hB.keeps k) hsu ⟨rfl, ?_⟩)
  refine wpAny_loadName_free rfl rfl rfl ⟨_, X₁ _ _ hcell, rfl⟩ (wpAny_loadName_local rfl rfl hns rfl (ks_wpAny_isType_cls hC₁ rfl ⟨rfl, ?_⟩))
  refine ks_wpAny_call_super hC₁ rfl hx₁ rfl (fun c e => nomatch e) (looks_mroIn X₁ T.msub) (fun h₂ e₂ k₂ => ?_)
  have X₂ : K.In h₂ := X₁.keeps k₂
  have hx₂ := k₂ _ _ hx₁
  have I₂ : InstAt h₂ x (excO C t0) C none := ⟨hx₂, rfl, rfl, trivial⟩
  refine kxs_getMethod ok.init.kx e₂ (looks_opaque X₂ T.op) (l₀ := .ref C :: bm) (fun A Q E s k q => wpAny_bind ((looks_clsIn X₂ hcl) A _ E s k (wpAny_pure q))) rfl X₂ hsup (I₂.type.andThen (looks_subIn X₂ T.veC)) (ks_ne X₂ I₂ hcl) rfl ?_
  have k₃ : ∀ b o, h₂.get? b = some o → (h₂.push (kxs_mw p.i x)).get? b = some o := fun b o e => Heap.get?_push_of_some _ e
  have e₃ : (h₂.push (kxs_mw p.i x)).get? h₂.objs.size = some (kxs_mw p.i x) := Heap.get?_push_at rfl rfl
  have k₃₃ : ∀ b o, h₁.get? b = some o → (h₂.push (kxs_mw p.i x)).get? b = some o := fun b o e => k₃ b o (k₂ b o e)
  have hns₃ := hns.keeps k₃₃
  refine kxs_callWith (i := p.i) (x := x) rfl (evalArgs_plain (spliced_cons (wpAny_JoinedStr (pos := ps.j) (Constant_str ⟨_, _, rfl, ?_, ?_⟩))))
  · rw [strLen_append]
    exact Nat.le_trans (show _ ≤ 100 by show 0 + a.length ≤ 100; omega) (by decide)
  refine wpAny_FormattedValue_plain (wpAny_Name (wpAny_loadName_local rfl rfl hns₃ rfl ?_) (by decide))
  refine hfm _ _ _ _ (fun b o e => k₃₃ b o (k b o e)) fun y t' k' h₆ hy k₆ => ⟨y, t', rfl, ?_, ?_⟩
  · rw [strLen_append, strLen_append]
    exact Nat.le_trans (show _ ≤ 100100 by show 0 + a.length + y.length ≤ 100100; omega) (by decide)
  have all : Str.empty.length + a.length + y.length + b.length ≤ sizeLine := Nat.le_trans (show _ ≤ 100200 by show 0 + a.length + y.length + b.length ≤ 100200; omega) (by decide)
  refine Constant_str ⟨_, _, rfl, by rw [strLen_append, strLen_append, strLen_append]; exact all, by rw [strLen_append, strLen_append, strLen_append]; exact all, spliced_nil ⟨k₆ _ _ e₃, ?_⟩⟩
  have X₆ : K.In h₆ := (X₂.keeps k₃).keeps k₆
  refine call_wrapB ok.init (k₆ _ _ e₃) (X₆ _ _ hC) (k₆ _ _ (k₃ _ _ hx₂)) (show 1 ≤ sizeLine by decide) fun h₄ k₄ hx₄ => ?_
  have X₄ : K.In h₄ := PeX.kept_but X₆ hnx k₄
  have xL : hp.objs.size ≠ x := Nat.ne_of_gt (Heap.lt_size hx)
  have hns₄ : h₄.Ns hp.objs.size (fun x_1 => List.lookup x_1 [(("self" : Str), Value.ref x), (("line" : Str), v)].reverse) := (hns₃.keeps k₆).at fun o e => k₄ _ o xL e
  change wpAt _ _ _ (execs _ _) _ _ _
  refine ks_wpAt_execs_cons (ks_wpAt_Assign_Attr (wpAt_of_wpAny (wpAny_Name (wpAny_loadName_local rfl rfl hns₄ rfl (wpAny_Name (wpAny_loadName_local rfl rfl hns₄ rfl ?_) (by decide))) (by decide))))
  refine set_plain X₄ (ox := excObj C h₆.objs.size none .none) (od := none) ⟨hx₄, rfl, rfl, trivial⟩ T.sa ?_
  refine osaB X₄ hx₄ hcl (ok.ab.of (show excTail p.tail (.ref C :: bm) = true from hbm)) rfl T.noN (fun h₅ tk₅ dx k₅ dn dne hx₅ hn₅ => ?_)
  change wpAt _ _ _ (execs _ _) _ _ _
  refine wpAt_of_wpAny (wpAny_execs_nil (hq h₅ tk₅ dx _ ⟨fun b o hb e => k₅ b o hb (k₄ b o hb (k₆ _ _ (k₃₃ b o (k b o e)))), hx₅, ?_, dne, hn₅⟩))
  have z : hp.objs.size < h₄.objs.size := hns₄.lt
  exact Nat.le_of_lt (Nat.lt_of_lt_of_le z dn)
theorem Kp.of_line {p : Bs} (ok : BsOk p) (T : TxB prog K mg c q "line" a b C fI p PeX.iB) (za : a.length ≤ 100) (zb : b.length ≤ 100) : Kp prog w K mg c C "line" := by
  refine ⟨T.gC, T.kC, T.exC, T.tyC, T.ga, T.gg, T.hdC, T.noN, ?_⟩
  intro A R s v mb X hlim hG hB hsu hroom hfm fin
  obtain ⟨nm, qn, N, bs, bm, sn, sub, ab, col, dd, k0, k1, k2, k3, k5, hC, hbm⟩ := T.cls
  obtain ⟨hp, g, dr, tk, os⟩ := s
  have k : ∀ b o, hp.get? b = some o → ((hp.push (kdv_tup [v])).push (excO C hp.objs.size)).get? b = some o := fun b o e => Heap.get?_push_of_some _ (Heap.get?_push_of_some _ e)
  have here : ((hp.push (kdv_tup [v])).push (excO C hp.objs.size)).get? (hp.objs.size + 1) = some (excO C hp.objs.size) := by heap_get
  have hnx : K.lookup (hp.objs.size + 1) = none := by
    cases e : K.lookup (hp.objs.size + 1) with
    | none => rfl
    | some o => exact absurd (Nat.lt_of_succ_lt (Heap.lt_size (X _ _ e))) (Nat.lt_irrefl _)
  refine call_cls ok.new (ok.ab.of (show excTail p.tail (.ref C :: bm) = true from hbm)) (X _ _ hC) (looks_findIn X T.iC) (fun self => bind_fn X self T.tC) (show 1 ≤ sizeLine by decide) ?_
  refine init_line (s := ⟨(hp.push (kdv_tup [v])).push (excO C hp.objs.size), g, dr, tk, os⟩) ok T (X.keeps k) (hlim.keeps k) (hG.keeps k) (hB.keeps k) hsu here hnx hroom za zb (hfm.mono k) fun h' tk' dx t1 M => ⟨rfl, ?_⟩
  have z : hp.objs.size + 1 + 1 ≤ dx := by
    have q := M.dbig
    first
      | exact q
      | simpa only [Heap.size_push] using q
  exact fin h' tk' (hp.objs.size + 1) dx ⟨fun b o e => M.keep b o (Nat.ne_of_lt (Nat.lt_succ_of_lt (Heap.lt_size e))) (k b o e), Nat.le_succ _, ⟨_, _, M.obj, rfl, rfl, rfl, rfl⟩, Nat.le_trans (Nat.le_trans (Nat.le_succ _) (Nat.le_succ _)) z, M.dne, M.ns⟩
/-- the __init__ of such a class, whose field is name -/
theorem init_name {p : Bs} (ok : BsOk p) (T : TxB prog K mg c q "name" a b C fI p iB1) {x t0 : Addr} {v : Value} (X : K.In s.heap) (hlim : s.heap.NoLimit) (hG : s.heap.Ns mainGlobals mg) (hB : s.heap.Ns builtinsNs mb) (hsu : mb "super" = some (.type "super"))
    (hx : s.heap.get? x = some (excO C t0)) (hnx : K.lookup x = none) (hroom : A.depth < recursionLimit) (za : a.length ≤ 100) (zb : b.length ≤ 100)
    (hfm : Fmts prog w A s.heap v)
    (hq : ∀ h' tk dx t1, PeX.InitEnd "name" s.heap h' x C dx t1 v → R (.ok (.ret .none)) { s with heap := h', toks := tk }) :
    codeAny (model prog w) A (.call (.ref fI) ⟨[.ref x, v], []⟩) R s := by
  obtain ⟨oc, od, doc, pm, an, cda, ct, osl, ps, cc, cl, cld, csl, ccl, cdd, vs, ccs, file, tf, ho, hcd, hcell, hcode, hvs, hfile, hpos⟩ := T.fn
  obtain ⟨nm, qn, N, bs, bm, sn, sub, ab, col, dd, k0, k1, k2, k3, k5, hC, hbm⟩ := T.cls
  have hcl : clsIn K C = some { name := nm, bases := bs, mro := .ref C :: bm, ns := N, qualname := qn, hasDict := true, slotNames := sn, subclasses := sub, abstract := ab, collection := col, hasDel := false } := by unfold clsIn; rw [hC] <;> rfl
  have hsup := T.sup
  unfold ks_superIn at hsup
  rw [hcl] at hsup
  obtain ⟨hp, g, dr, tk, os⟩ := s
  refine ks_codeAny_call_defAt (fd := ksFn "__init__" q (PeX.iA "name" ps) (iB1 "name" a b ps) (PeX.iS "name") .none .none doc pm an (.ref cda) ct cc) (body := iB1 "name" a b ps) (binds := [("self", .ref x), ("name", v)]) hroom (X _ _ ho) rfl hlim (codeRec_of X hcd) rfl
    (BindsTo.of_eq (by first | rfl | with_unfolding_all rfl)) (show ∀ x ∈ (PeX.iS "name").names, x.2 ≠ .cell by decide) (fun y hy => by
      rcases List.mem_cons.mp hy with rfl | hy
      · rfl
      · rcases List.mem_cons.mp hy with rfl | hy
        · rfl
        · exact nomatch hy) (fun h₁ hns k => ?_)
  have X₁ : K.In h₁ := X.keeps k
  have hx₁ := k _ _ hx
  have hC₁ := X₁ _ _ hC
  refine ks_wpAt_execs_cons (ks_wpAt_Expr_any (ks_wpAt_MethodCall ?_ (PeX.call_tree hpos rfl)))
  refine ks_wpAt_super_base rfl rfl rfl rfl (X₁ _ _ ho) rfl rfl rfl (X₁ _ _ hcode) rfl hvs hfile T.top ?_
  refine ks_loadName_global rfl rfl (loadGlobal_builtin (hG.keeps k) T.nsup (hB.keeps k) hsu ⟨rfl, ?_⟩)
  refine wpAny_loadName_free rfl rfl rfl ⟨_, X₁ _ _ hcell, rfl⟩ (wpAny_loadName_local rfl rfl hns rfl (ks_wpAny_isType_cls hC₁ rfl ⟨rfl, ?_⟩))
  refine ks_wpAny_call_super hC₁ rfl hx₁ rfl (fun c e => nomatch e) (looks_mroIn X₁ T.msub) (fun h₂ e₂ k₂ => ?_)
  have X₂ : K.In h₂ := X₁.keeps k₂
  have hx₂ := k₂ _ _ hx₁
  have I₂ : InstAt h₂ x (excO C t0) C none := ⟨hx₂, rfl, rfl, trivial⟩
  refine kxs_getMethod ok.init.kx e₂ (looks_opaque X₂ T.op) (l₀ := .ref C :: bm) (fun A Q E s k q => wpAny_bind ((looks_clsIn X₂ hcl) A _ E s k (wpAny_pure q))) rfl X₂ hsup (I₂.type.andThen (looks_subIn X₂ T.veC)) (ks_ne X₂ I₂ hcl) rfl ?_
  have k₃ : ∀ b o, h₂.get? b = some o → (h₂.push (kxs_mw p.i x)).get? b = some o := fun b o e => Heap.get?_push_of_some _ e
  have e₃ : (h₂.push (kxs_mw p.i x)).get? h₂.objs.size = some (kxs_mw p.i x) := Heap.get?_push_at rfl rfl
  have k₃₃ : ∀ b o, h₁.get? b = some o → (h₂.push (kxs_mw p.i x)).get? b = some o := fun b o e => k₃ b o (k₂ b o e)
  have hns₃ := hns.keeps k₃₃
  refine kxs_callWith (i := p.i) (x := x) rfl (evalArgs_plain (spliced_cons (wpAny_JoinedStr (pos := ps.j) ?_)))
  refine wpAny_FormattedValue_plain (wpAny_Name (wpAny_loadName_local rfl rfl hns₃ rfl ?_) (by decide))
  refine hfm _ _ _ _ (fun b o e => k₃₃ b o (k b o e)) fun y t' k' h₆ hy k₆ => ⟨y, t', rfl, ?_, ?_⟩
  · rw [strLen_append]
    exact Nat.le_trans (show _ ≤ 100000 by show 0 + y.length ≤ 100000; omega) (by decide)
  have all : Str.empty.length + y.length + b.length ≤ sizeLine := Nat.le_trans (show _ ≤ 100200 by show 0 + y.length + b.length ≤ 100200; omega) (by decide)
  refine Constant_str ⟨_, _, rfl, by rw [strLen_append, strLen_append]; exact all, by rw [strLen_append, strLen_append]; exact all, spliced_nil ⟨k₆ _ _ e₃, ?_⟩⟩
  have X₆ : K.In h₆ := (X₂.keeps k₃).keeps k₆
  refine call_wrapB ok.init (k₆ _ _ e₃) (X₆ _ _ hC) (k₆ _ _ (k₃ _ _ hx₂)) (show 1 ≤ sizeLine by decide) fun h₄ k₄ hx₄ => ?_
  have X₄ : K.In h₄ := PeX.kept_but X₆ hnx k₄
  have xL : hp.objs.size ≠ x := Nat.ne_of_gt (Heap.lt_size hx)
  have hns₄ : h₄.Ns hp.objs.size (fun x_1 => List.lookup x_1 [(("self" : Str), Value.ref x), (("name" : Str), v)].reverse) := (hns₃.keeps k₆).at fun o e => k₄ _ o xL e
  change wpAt _ _ _ (execs _ _) _ _ _
  refine ks_wpAt_execs_cons (ks_wpAt_Assign_Attr (wpAt_of_wpAny (wpAny_Name (wpAny_loadName_local rfl rfl hns₄ rfl (wpAny_Name (wpAny_loadName_local rfl rfl hns₄ rfl ?_) (by decide))) (by decide))))
  refine set_plain X₄ (ox := excObj C h₆.objs.size none .none) (od := none) ⟨hx₄, rfl, rfl, trivial⟩ T.sa ?_
  refine osaB X₄ hx₄ hcl (ok.ab.of (show excTail p.tail (.ref C :: bm) = true from hbm)) rfl T.noN (fun h₅ tk₅ dx k₅ dn dne hx₅ hn₅ => ?_)
  change wpAt _ _ _ (execs _ _) _ _ _
  refine wpAt_of_wpAny (wpAny_execs_nil (hq h₅ tk₅ dx _ ⟨fun b o hb e => k₅ b o hb (k₄ b o hb (k₆ _ _ (k₃₃ b o (k b o e)))), hx₅, ?_, dne, hn₅⟩))
  have z : hp.objs.size < h₄.objs.size := hns₄.lt
  exact Nat.le_of_lt (Nat.lt_of_lt_of_le z dn)
theorem Kp.of_name {p : Bs} (ok : BsOk p) (T : TxB prog K mg c q "name" a b C fI p iB1) (za : a.length ≤ 100) (zb : b.length ≤ 100) : Kp prog w K mg c C "name" := by
  refine ⟨T.gC, T.kC, T.exC, T.tyC, T.ga, T.gg, T.hdC, T.noN, ?_⟩
  intro A R s v mb X hlim hG hB hsu hroom hfm fin
  obtain ⟨nm, qn, N, bs, bm, sn, sub, ab, col, dd, k0, k1, k2, k3, k5, hC, hbm⟩ := T.cls
  obtain ⟨hp, g, dr, tk, os⟩ := s
  have k : ∀ b o, hp.get? b = some o → ((hp.push (kdv_tup [v])).push (excO C hp.objs.size)).get? b = some o := fun b o e => Heap.get?_push_of_some _ (Heap.get?_push_of_some _ e)
  have here : ((hp.push (kdv_tup [v])).push (excO C hp.objs.size)).get? (hp.objs.size + 1) = some (excO C hp.objs.size) := by heap_get
  have hnx : K.lookup (hp.objs.size + 1) = none := by
    cases e : K.lookup (hp.objs.size + 1) with
    | none => rfl
    | some o => exact absurd (Nat.lt_of_succ_lt (Heap.lt_size (X _ _ e))) (Nat.lt_irrefl _)
  refine call_cls ok.new (ok.ab.of (show excTail p.tail (.ref C :: bm) = true from hbm)) (X _ _ hC) (looks_findIn X T.iC) (fun self => bind_fn X self T.tC) (show 1 ≤ sizeLine by decide) ?_
  refine init_name (s := ⟨(hp.push (kdv_tup [v])).push (excO C hp.objs.size), g, dr, tk, os⟩) ok T (X.keeps k) (hlim.keeps k) (hG.keeps k) (hB.keeps k) hsu here hnx hroom za zb (hfm.mono k) fun h' tk' dx t1 M => ⟨rfl, ?_⟩
  have z : hp.objs.size + 1 + 1 ≤ dx := by
    have q := M.dbig
    first
      | exact q
      | simpa only [Heap.size_push] using q
  exact fin h' tk' (hp.objs.size + 1) dx ⟨fun b o e => M.keep b o (Nat.ne_of_lt (Nat.lt_succ_of_lt (Heap.lt_size e))) (k b o e), Nat.le_succ _, ⟨_, _, M.obj, rfl, rfl, rfl, rfl⟩, Nat.le_trans (Nat.le_trans (Nat.le_succ _) (Nat.le_succ _)) z, M.dne, M.ns⟩
/-- the __init__ of such a class, whose field is many -/
theorem init_many {p : Bs} (ok : BsOk p) (T : TxB prog K mg c q "many" a b C fI p PeX.iB) {x t0 : Addr} {v : Value} (X : K.In s.heap) (hlim : s.heap.NoLimit) (hG : s.heap.Ns mainGlobals mg) (hB : s.heap.Ns builtinsNs mb) (hsu : mb "super" = some (.type "super"))
    (hx : s.heap.get? x = some (excO C t0)) (hnx : K.lookup x = none) (hroom : A.depth < recursionLimit) (za : a.length ≤ 100) (zb : b.length ≤ 100)
    (hfm : Fmts prog w A s.heap v)
    (hq : ∀ h' tk dx t1, PeX.InitEnd "many" s.heap h' x C dx t1 v → R (.ok (.ret .none)) { s with heap := h', toks := tk }) :
    codeAny (model prog w) A (.call (.ref fI) ⟨[.ref x, v], []⟩) R s := by
  obtain ⟨oc, od, doc, pm, an, cda, ct, osl, ps, cc, cl, cld, csl, ccl, cdd, vs, ccs, file, tf, ho, hcd, hcell, hcode, hvs, hfile, hpos⟩ := T.fn
  obtain ⟨nm, qn, N, bs, bm, sn, sub, ab, col, dd, k0, k1, k2, k3, k5, hC, hbm⟩ := T.cls
  have hcl : clsIn K C = some { name := nm, bases := bs, mro := .ref C :: bm, ns := N, qualname := qn, hasDict := true, slotNames := sn, subclasses := sub, abstract := ab, collection := col, hasDel := false } := by unfold clsIn; rw [hC] <;> rfl
  have hsup := T.sup
  unfold ks_superIn at hsup
  rw [hcl] at hsup
  obtain ⟨hp, g, dr, tk, os⟩ := s
  refine ks_codeAny_call_defAt (fd := ksFn "__init__" q (PeX.iA "many" ps) (PeX.iB "many" a b ps) (PeX.iS "many") .none .none doc pm an (.ref cda) ct cc) (body := PeX.iB "many" a b ps) (binds := [("self", .ref x), ("many", v)]) hroom (X _ _ ho) rfl hlim (codeRec_of X hcd) rfl
    (BindsTo.of_eq (by first | rfl | with_unfolding_all rfl)) (show ∀ x ∈ (PeX.iS "many").names, x.2 ≠ .cell by decide) (fun y hy => by
      rcases List.mem_cons.mp hy with rfl | hy
      · rfl
      · rcases List.mem_cons.mp hy with rfl | hy
        · rfl
        · exact nomatch hy) (fun h₁ hns k => ?_)
  have X₁ : K.In h₁ := X.keeps k
  have hx₁ := k _ _ hx
  have hC₁ := X₁ _ _ hC
  refine ks_wpAt_execs_cons (ks_wpAt_Expr_any (ks_wpAt_MethodCall ?_ (PeX.call_tree hpos rfl)))
  refine ks_wpAt_super_base rfl rfl rfl rfl (X₁ _ _ ho) rfl rfl rfl (X₁ _ _ hcode) rfl hvs hfile T.top ?_
  refine ks_loadName_global rfl rfl (loadGlobal_builtin (hG.keeps k) T.nsup (hB.keeps k) hsu ⟨rfl, ?_⟩)
  refine wpAny_loadName_free rfl rfl rfl ⟨_, X₁ _ _ hcell, rfl⟩ (wpAny_loadName_local rfl rfl hns rfl (ks_wpAny_isType_cls hC₁ rfl ⟨rfl, ?_⟩))
  refine ks_wpAny_call_super hC₁ rfl hx₁ rfl (fun c e => nomatch e) (looks_mroIn X₁ T.msub) (fun h₂ e₂ k₂ => ?_)
  have X₂ : K.In h₂ := X₁.keeps k₂
  have hx₂ := k₂ _ _ hx₁
  have I₂ : InstAt h₂ x (excO C t0) C none := ⟨hx₂, rfl, rfl, trivial⟩
  refine kxs_getMethod ok.init.kx e₂ (looks_opaque X₂ T.op) (l₀ := .ref C :: bm) (fun A Q E s k q => wpAny_bind ((looks_clsIn X₂ hcl) A _ E s k (wpAny_pure q))) rfl X₂ hsup (I₂.type.andThen (looks_subIn X₂ T.veC)) (ks_ne X₂ I₂ hcl) rfl ?_
  have k₃ : ∀ b o, h₂.get? b = some o → (h₂.push (kxs_mw p.i x)).get? b = some o := fun b o e => Heap.get?_push_of_some _ e
  have e₃ : (h₂.push (kxs_mw p.i x)).get? h₂.objs.size = some (kxs_mw p.i x) := Heap.get?_push_at rfl rfl
  have k₃₃ : ∀ b o, h₁.get? b = some o → (h₂.push (kxs_mw p.i x)).get? b = some o := fun b o e => k₃ b o (k₂ b o e)
  have hns₃ := hns.keeps k₃₃
  refine kxs_callWith (i := p.i) (x := x) rfl (evalArgs_plain (spliced_cons (wpAny_JoinedStr (pos := ps.j) (Constant_str ⟨_, _, rfl, ?_, ?_⟩))))
  · rw [strLen_append]
    exact Nat.le_trans (show _ ≤ 100 by show 0 + a.length ≤ 100; omega) (by decide)
  refine wpAny_FormattedValue_plain (wpAny_Name (wpAny_loadName_local rfl rfl hns₃ rfl ?_) (by decide))
  refine hfm _ _ _ _ (fun b o e => k₃₃ b o (k b o e)) fun y t' k' h₆ hy k₆ => ⟨y, t', rfl, ?_, ?_⟩
  · rw [strLen_append, strLen_append]
    exact Nat.le_trans (show _ ≤ 100100 by show 0 + a.length + y.length ≤ 100100; omega) (by decide)
  have all : Str.empty.length + a.length + y.length + b.length ≤ sizeLine := Nat.le_trans (show _ ≤ 100200 by show 0 + a.length + y.length + b.length ≤ 100200; omega) (by decide)
  refine Constant_str ⟨_, _, rfl, by rw [strLen_append, strLen_append, strLen_append]; exact all, by rw [strLen_append, strLen_append, strLen_append]; exact all, spliced_nil ⟨k₆ _ _ e₃, ?_⟩⟩
  have X₆ : K.In h₆ := (X₂.keeps k₃).keeps k₆
  refine call_wrapB ok.init (k₆ _ _ e₃) (X₆ _ _ hC) (k₆ _ _ (k₃ _ _ hx₂)) (show 1 ≤ sizeLine by decide) fun h₄ k₄ hx₄ => ?_
  have X₄ : K.In h₄ := PeX.kept_but X₆ hnx k₄
  have xL : hp.objs.size ≠ x := Nat.ne_of_gt (Heap.lt_size hx)
  have hns₄ : h₄.Ns hp.objs.size (fun x_1 => List.lookup x_1 [(("self" : Str), Value.ref x), (("many" : Str), v)].reverse) := (hns₃.keeps k₆).at fun o e => k₄ _ o xL e
  change wpAt _ _ _ (execs _ _) _ _ _
  refine ks_wpAt_execs_cons (ks_wpAt_Assign_Attr (wpAt_of_wpAny (wpAny_Name (wpAny_loadName_local rfl rfl hns₄ rfl (wpAny_Name (wpAny_loadName_local rfl rfl hns₄ rfl ?_) (by decide))) (by decide))))
  refine set_plain X₄ (ox := excObj C h₆.objs.size none .none) (od := none) ⟨hx₄, rfl, rfl, trivial⟩ T.sa ?_
  refine osaB X₄ hx₄ hcl (ok.ab.of (show excTail p.tail (.ref C :: bm) = true from hbm)) rfl T.noN (fun h₅ tk₅ dx k₅ dn dne hx₅ hn₅ => ?_)
  change wpAt _ _ _ (execs _ _) _ _ _
  refine wpAt_of_wpAny (wpAny_execs_nil (hq h₅ tk₅ dx _ ⟨fun b o hb e => k₅ b o hb (k₄ b o hb (k₆ _ _ (k₃₃ b o (k b o e)))), hx₅, ?_, dne, hn₅⟩))
  have z : hp.objs.size < h₄.objs.size := hns₄.lt
  exact Nat.le_of_lt (Nat.lt_of_lt_of_le z dn)
theorem Kp.of_many {p : Bs} (ok : BsOk p) (T : TxB prog K mg c q "many" a b C fI p PeX.iB) (za : a.length ≤ 100) (zb : b.length ≤ 100) : Kp prog w K mg c C "many" := by
  refine ⟨T.gC, T.kC, T.exC, T.tyC, T.ga, T.gg, T.hdC, T.noN, ?_⟩
  intro A R s v mb X hlim hG hB hsu hroom hfm fin
  obtain ⟨nm, qn, N, bs, bm, sn, sub, ab, col, dd, k0, k1, k2, k3, k5, hC, hbm⟩ := T.cls
  obtain ⟨hp, g, dr, tk, os⟩ := s
  have k : ∀ b o, hp.get? b = some o → ((hp.push (kdv_tup [v])).push (excO C hp.objs.size)).get? b = some o := fun b o e => Heap.get?_push_of_some _ (Heap.get?_push_of_some _ e)
  have here : ((hp.push (kdv_tup [v])).push (excO C hp.objs.size)).get? (hp.objs.size + 1) = some (excO C hp.objs.size) := by heap_get
  have hnx : K.lookup (hp.objs.size + 1) = none := by
    cases e : K.lookup (hp.objs.size + 1) with
    | none => rfl
    | some o => exact absurd (Nat.lt_of_succ_lt (Heap.lt_size (X _ _ e))) (Nat.lt_irrefl _)
  refine call_cls ok.new (ok.ab.of (show excTail p.tail (.ref C :: bm) = true from hbm)) (X _ _ hC) (looks_findIn X T.iC) (fun self => bind_fn X self T.tC) (show 1 ≤ sizeLine by decide) ?_
  refine init_many (s := ⟨(hp.push (kdv_tup [v])).push (excO C hp.objs.size), g, dr, tk, os⟩) ok T (X.keeps k) (hlim.keeps k) (hG.keeps k) (hB.keeps k) hsu here hnx hroom za zb (hfm.mono k) fun h' tk' dx t1 M => ⟨rfl, ?_⟩
  have z : hp.objs.size + 1 + 1 ≤ dx := by
    have q := M.dbig
    first
      | exact q
      | simpa only [Heap.size_push] using q
  exact fin h' tk' (hp.objs.size + 1) dx ⟨fun b o e => M.keep b o (Nat.ne_of_lt (Nat.lt_succ_of_lt (Heap.lt_size e))) (k b o e), Nat.le_succ _, ⟨_, _, M.obj, rfl, rfl, rfl, rfl⟩, Nat.le_trans (Nat.le_trans (Nat.le_succ _) (Nat.le_succ _)) z, M.dne, M.ns⟩
/-- the __init__ of such a class, whose field is limit -/
theorem init_limit {p : Bs} (ok : BsOk p) (T : TxB prog K mg c q "limit" a b C fI p iB2) {x t0 : Addr} {v : Value} (X : K.In s.heap) (hlim : s.heap.NoLimit) (hG : s.heap.Ns mainGlobals mg) (hB : s.heap.Ns builtinsNs mb) (hsu : mb "super" = some (.type "super"))
    (hx : s.heap.get? x = some (excO C t0)) (hnx : K.lookup x = none) (hroom : A.depth < recursionLimit) (za : a.length ≤ 100) (zb : b.length ≤ 100)
    (hfm : Fmts prog w A s.heap v)
    (hq : ∀ h' tk dx t1, PeX.InitEnd "limit" s.heap h' x C dx t1 v → R (.ok (.ret .none)) { s with heap := h', toks := tk }) :
    codeAny (model prog w) A (.call (.ref fI) ⟨[.ref x, v], []⟩) R s := by
  obtain ⟨oc, od, doc, pm, an, cda, ct, osl, ps, cc, cl, cld, csl, ccl, cdd, vs, ccs, file, tf, ho, hcd, hcell, hcode, hvs, hfile, hpos⟩ := T.fn
  obtain ⟨nm, qn, N, bs, bm, sn, sub, ab, col, dd, k0, k1, k2, k3, k5, hC, hbm⟩ := T.cls
  have hcl : clsIn K C = some { name := nm, bases := bs, mro := .ref C :: bm, ns := N, qualname := qn, hasDict := true, slotNames := sn, subclasses := sub, abstract := ab, collection := col, hasDel := false } := by unfold clsIn; rw [hC] <;> rfl
  have hsup := T.sup
  unfold ks_superIn at hsup
  rw [hcl] at hsup
  obtain ⟨hp, g, dr, tk, os⟩ := s
  refine ks_codeAny_call_defAt (fd := ksFn "__init__" q (PeX.iA "limit" ps) (iB2 "limit" a b ps) (PeX.iS "limit") .none .none doc pm an (.ref cda) ct cc) (body := iB2 "limit" a b ps) (binds := [("self", .ref x), ("limit", v)]) hroom (X _ _ ho) rfl hlim (codeRec_of X hcd) rfl
    (BindsTo.of_eq (by first | rfl | with_unfolding_all rfl)) (show ∀ x ∈ (PeX.iS "limit").names, x.2 ≠ .cell by decide) (fun y hy => by
      rcases List.mem_cons.mp hy with rfl | hy
      · rfl
      · rcases List.mem_cons.mp hy with rfl | hy
        · rfl
        · exact nomatch hy) (fun h₁ hns k => ?_)
  have X₁ : K.In h₁ := X.keeps k
  have hx₁ := k _ _ hx
  have hC₁ := X₁ _ _ hC
  refine ks_wpAt_execs_cons (ks_wpAt_Expr_any (ks_wpAt_MethodCall ?_ (PeX.call_tree hpos rfl)))
  refine ks_wpAt_super_base rfl rfl rfl rfl (X₁ _ _ ho) rfl rfl rfl (X₁ _ _ hcode) rfl hvs hfile T.top ?_
  refine ks_loadName_global rfl rfl (loadGlobal_builtin (hG.keeps k) T.nsup (hB.keeps k) hsu ⟨rfl, ?_⟩)
  refine wpAny_loadName_free rfl rfl rfl ⟨_, X₁ _ _ hcell, rfl⟩ (wpAny_loadName_local rfl rfl hns rfl (ks_wpAny_isType_cls hC₁ rfl ⟨rfl, ?_⟩))
  refine ks_wpAny_call_super hC₁ rfl hx₁ rfl (fun c e => nomatch e) (looks_mroIn X₁ T.msub) (fun h₂ e₂ k₂ => ?_)
  have X₂ : K.In h₂ := X₁.keeps k₂
  have hx₂ := k₂ _ _ hx₁
  have I₂ : InstAt h₂ x (excO C t0) C none := ⟨hx₂, rfl, rfl, trivial⟩
  refine kxs_getMethod ok.init.kx e₂ (looks_opaque X₂ T.op) (l₀ := .ref C :: bm) (fun A Q E s k q => wpAny_bind ((looks_clsIn X₂ hcl) A _ E s k (wpAny_pure q))) rfl X₂ hsup (I₂.type.andThen (looks_subIn X₂ T.veC)) (ks_ne X₂ I₂ hcl) rfl ?_
  have k₃ : ∀ b o, h₂.get? b = some o → (h₂.push (kxs_mw p.i x)).get? b = some o := fun b o e => Heap.get?_push_of_some _ e
  have e₃ : (h₂.push (kxs_mw p.i x)).get? h₂.objs.size = some (kxs_mw p.i x) := Heap.get?_push_at rfl rfl
  have k₃₃ : ∀ b o, h₁.get? b = some o → (h₂.push (kxs_mw p.i x)).get? b = some o := fun b o e => k₃ b o (k₂ b o e)
  have hns₃ := hns.keeps k₃₃
  refine kxs_callWith (i := p.i) (x := x) rfl (evalArgs_plain (spliced_cons (wpAny_JoinedStr (pos := ps.j) (Constant_str ⟨_, _, rfl, ?_, ?_⟩))))
  · rw [strLen_append]
    exact Nat.le_trans (show _ ≤ 100 by show 0 + a.length ≤ 100; omega) (by decide)
  refine wpAny_FormattedValue_plain (wpAny_Name (wpAny_loadName_local rfl rfl hns₃ rfl ?_) (by decide))
  refine hfm _ _ _ _ (fun b o e => k₃₃ b o (k b o e)) fun y t' k' h₆ hy k₆ => ?_
  have all : Str.empty.length + a.length + y.length ≤ sizeLine := Nat.le_trans (show _ ≤ 100200 by show 0 + a.length + y.length ≤ 100200; omega) (by decide)
  refine ⟨y, t', rfl, by rw [strLen_append, strLen_append]; exact all, by rw [strLen_append, strLen_append]; exact all, spliced_nil ⟨k₆ _ _ e₃, ?_⟩⟩
  have X₆ : K.In h₆ := (X₂.keeps k₃).keeps k₆
  refine call_wrapB ok.init (k₆ _ _ e₃) (X₆ _ _ hC) (k₆ _ _ (k₃ _ _ hx₂)) (show 1 ≤ sizeLine by decide) fun h₄ k₄ hx₄ => ?_
  have X₄ : K.In h₄ := PeX.kept_but X₆ hnx k₄
  have xL : hp.objs.size ≠ x := Nat.ne_of_gt (Heap.lt_size hx)
  have hns₄ : h₄.Ns hp.objs.size (fun x_1 => List.lookup x_1 [(("self" : Str), Value.ref x), (("limit" : Str), v)].reverse) := (hns₃.keeps k₆).at fun o e => k₄ _ o xL e
  change wpAt _ _ _ (execs _ _) _ _ _
  refine ks_wpAt_execs_cons (ks_wpAt_Assign_Attr (wpAt_of_wpAny (wpAny_Name (wpAny_loadName_local rfl rfl hns₄ rfl (wpAny_Name (wpAny_loadName_local rfl rfl hns₄ rfl ?_) (by decide))) (by decide))))
  refine set_plain X₄ (ox := excObj C h₆.objs.size none .none) (od := none) ⟨hx₄, rfl, rfl, trivial⟩ T.sa ?_
  refine osaB X₄ hx₄ hcl (ok.ab.of (show excTail p.tail (.ref C :: bm) = true from hbm)) rfl T.noN (fun h₅ tk₅ dx k₅ dn dne hx₅ hn₅ => ?_)
  change wpAt _ _ _ (execs _ _) _ _ _
  refine wpAt_of_wpAny (wpAny_execs_nil (hq h₅ tk₅ dx _ ⟨fun b o hb e => k₅ b o hb (k₄ b o hb (k₆ _ _ (k₃₃ b o (k b o e)))), hx₅, ?_, dne, hn₅⟩))
  have z : hp.objs.size < h₄.objs.size := hns₄.lt
  exact Nat.le_of_lt (Nat.lt_of_lt_of_le z dn)
theorem Kp.of_limit {p : Bs} (ok : BsOk p) (T : TxB prog K mg c q "limit" a b C fI p iB2) (za : a.length ≤ 100) (zb : b.length ≤ 100) : Kp prog w K mg c C "limit" := by
  refine ⟨T.gC, T.kC, T.exC, T.tyC, T.ga, T.gg, T.hdC, T.noN, ?_⟩
  intro A R s v mb X hlim hG hB hsu hroom hfm fin
  obtain ⟨nm, qn, N, bs, bm, sn, sub, ab, col, dd, k0, k1, k2, k3, k5, hC, hbm⟩ := T.cls
  obtain ⟨hp, g, dr, tk, os⟩ := s
  have k : ∀ b o, hp.get? b = some o → ((hp.push (kdv_tup [v])).push (excO C hp.objs.size)).get? b = some o := fun b o e => Heap.get?_push_of_some _ (Heap.get?_push_of_some _ e)
  have here : ((hp.push (kdv_tup [v])).push (excO C hp.objs.size)).get? (hp.objs.size + 1) = some (excO C hp.objs.size) := by heap_get
  have hnx : K.lookup (hp.objs.size + 1) = none := by
    cases e : K.lookup (hp.objs.size + 1) with
    | none => rfl
    | some o => exact absurd (Nat.lt_of_succ_lt (Heap.lt_size (X _ _ e))) (Nat.lt_irrefl _)
  refine call_cls ok.new (ok.ab.of (show excTail p.tail (.ref C :: bm) = true from hbm)) (X _ _ hC) (looks_findIn X T.iC) (fun self => bind_fn X self T.tC) (show 1 ≤ sizeLine by decide) ?_
  refine init_limit (s := ⟨(hp.push (kdv_tup [v])).push (excO C hp.objs.size), g, dr, tk, os⟩) ok T (X.keeps k) (hlim.keeps k) (hG.keeps k) (hB.keeps k) hsu here hnx hroom za zb (hfm.mono k) fun h' tk' dx t1 M => ⟨rfl, ?_⟩
  have z : hp.objs.size + 1 + 1 ≤ dx := by
    have q := M.dbig
    first
      | exact q
      | simpa only [Heap.size_push] using q
  exact fin h' tk' (hp.objs.size + 1) dx ⟨fun b o e => M.keep b o (Nat.ne_of_lt (Nat.lt_succ_of_lt (Heap.lt_size e))) (k b o e), Nat.le_succ _, ⟨_, _, M.obj, rfl, rfl, rfl, rfl⟩, Nat.le_trans (Nat.le_trans (Nat.le_succ _) (Nat.le_succ _)) z, M.dne, M.ns⟩
/-- the __init__ of such a class, whose field is call -/
theorem init_call {p : Bs} (ok : BsOk p) (T : TxB prog K mg c q "call" a b C fI p PeX.iB) {x t0 : Addr} {v : Value} (X : K.In s.heap) (hlim : s.heap.NoLimit) (hG : s.heap.Ns mainGlobals mg) (hB : s.heap.Ns builtinsNs mb) (hsu : mb "super" = some (.type "super"))
    (hx : s.heap.get? x = some (excO C t0)) (hnx : K.lookup x = none) (hroom : A.depth < recursionLimit) (za : a.length ≤ 100) (zb : b.length ≤ 100)
    (hfm : Fmts prog w A s.heap v)
    (hq : ∀ h' tk dx t1, PeX.InitEnd "call" s.heap h' x C dx t1 v → R (.ok (.ret .none)) { s with heap := h', toks := tk }) :
    codeAny (model prog w) A (.call (.ref fI) ⟨[.ref x, v], []⟩) R s := by
  obtain ⟨oc, od, doc, pm, an, cda, ct, osl, ps, cc, cl, cld, csl, ccl, cdd, vs, ccs, file, tf, ho, hcd, hcell, hcode, hvs, hfile, hpos⟩ := T.fn
  obtain ⟨nm, qn, N, bs, bm, sn, sub, ab, col, dd, k0, k1, k2, k3, k5, hC, hbm⟩ := T.cls
  have hcl : clsIn K C = some { name := nm, bases := bs, mro := .ref C :: bm, ns := N, qualname := qn, hasDict := true, slotNames := sn, subclasses := sub, abstract := ab, collection := col, hasDel := false } := by unfold clsIn; rw [hC] <;> rfl
  have hsup := T.sup
  unfold ks_superIn at hsup
  rw [hcl] at hsup
  obtain ⟨hp, g, dr, tk, os⟩ := s
  refine ks_codeAny_call_defAt (fd := ksFn "__init__" q (PeX.iA "call" ps) (PeX.iB "call" a b ps) (PeX.iS "call") .none .none doc pm an (.ref cda) ct cc) (body := PeX.iB "call" a b ps) (binds := [("self", .ref x), ("call", v)]) hroom (X _ _ ho) rfl hlim (codeRec_of X hcd) rfl
    (BindsTo.of_eq (by first | rfl | with_unfolding_all rfl)) (show ∀ x ∈ (PeX.iS "call").names, x.2 ≠ .cell by decide) (fun y hy => by
      rcases List.mem_cons.mp hy with rfl | hy
      · rfl
      · rcases List.mem_cons.mp hy with rfl | hy
        · rfl
        · exact nomatch hy) (fun h₁ hns k => ?_)
  have X₁ : K.In h₁ := X.keeps k
  have hx₁ := k _ _ hx
  have hC₁ := X₁ _ _ hC
  refine ks_wpAt_execs_cons (ks_wpAt_Expr_any (ks_wpAt_MethodCall ?_ (PeX.call_tree hpos rfl)))
  refine ks_wpAt_super_base rfl rfl rfl rfl (X₁ _ _ ho) rfl rfl rfl (X₁ _ _ hcode) rfl hvs hfile T.top ?_
  refine ks_loadName_global rfl rfl (loadGlobal_builtin (hG.keeps k) T.nsup (hB.keeps k) hsu ⟨rfl, ?_⟩)
  refine wpAny_loadName_free rfl rfl rfl ⟨_, X₁ _ _ hcell, rfl⟩ (wpAny_loadName_local rfl rfl hns rfl (ks_wpAny_isType_cls hC₁ rfl ⟨rfl, ?_⟩))
  refine ks_wpAny_call_super hC₁ rfl hx₁ rfl (fun c e => nomatch e) (looks_mroIn X₁ T.msub) (fun h₂ e₂ k₂ => ?_)
  have X₂ : K.In h₂ := X₁.keeps k₂
  have hx₂ := k₂ _ _ hx₁
  have I₂ : InstAt h₂ x (excO C t0) C none := ⟨hx₂, rfl, rfl, trivial⟩
  refine kxs_getMethod ok.init.kx e₂ (looks_opaque X₂ T.op) (l₀ := .ref C :: bm) (fun A Q E s k q => wpAny_bind ((looks_clsIn X₂ hcl) A _ E s k (wpAny_pure q))) rfl X₂ hsup (I₂.type.andThen (looks_subIn X₂ T.veC)) (ks_ne X₂ I₂ hcl) rfl ?_
  have k₃ : ∀ b o, h₂.get? b = some o → (h₂.push (kxs_mw p.i x)).get? b = some o := fun b o e => Heap.get?_push_of_some _ e
  have e₃ : (h₂.push (kxs_mw p.i x)).get? h₂.objs.size = some (kxs_mw p.i x) := Heap.get?_push_at rfl rfl
  have k₃₃ : ∀ b o, h₁.get? b = some o → (h₂.push (kxs_mw p.i x)).get? b = some o := fun b o e => k₃ b o (k₂ b o e)
  have hns₃ := hns.keeps k₃₃
  refine kxs_callWith (i := p.i) (x := x) rfl (evalArgs_plain (spliced_cons (wpAny_JoinedStr (pos := ps.j) (Constant_str ⟨_, _, rfl, ?_, ?_⟩))))
  · rw [strLen_append]
    exact Nat.le_trans (show _ ≤ 100 by show 0 + a.length ≤ 100; omega) (by decide)
  refine wpAny_FormattedValue_plain (wpAny_Name (wpAny_loadName_local rfl rfl hns₃ rfl ?_) (by decide))
  refine hfm _ _ _ _ (fun b o e => k₃₃ b o (k b o e)) fun y t' k' h₆ hy k₆ => ⟨y, t', rfl, ?_, ?_⟩
  · rw [strLen_append, strLen_append]
    exact Nat.le_trans (show _ ≤ 100100 by show 0 + a.length + y.length ≤ 100100; omega) (by decide)
  have all : Str.empty.length + a.length + y.length + b.length ≤ sizeLine := Nat.le_trans (show _ ≤ 100200 by show 0 + a.length + y.length + b.length ≤ 100200; omega) (by decide)
  refine Constant_str ⟨_, _, rfl, by rw [strLen_append, strLen_append, strLen_append]; exact all, by rw [strLen_append, strLen_append, strLen_append]; exact all, spliced_nil ⟨k₆ _ _ e₃, ?_⟩⟩
  have X₆ : K.In h₆ := (X₂.keeps k₃).keeps k₆
  refine call_wrapB ok.init (k₆ _ _ e₃) (X₆ _ _ hC) (k₆ _ _ (k₃ _ _ hx₂)) (show 1 ≤ sizeLine by decide) fun h₄ k₄ hx₄ => ?_
  have X₄ : K.In h₄ := PeX.kept_but X₆ hnx k₄
  have xL : hp.objs.size ≠ x := Nat.ne_of_gt (Heap.lt_size hx)
  have hns₄ : h₄.Ns hp.objs.size (fun x_1 => List.lookup x_1 [(("self" : Str), Value.ref x), (("call" : Str), v)].reverse) := (hns₃.keeps k₆).at fun o e => k₄ _ o xL e
  change wpAt _ _ _ (execs _ _) _ _ _
  refine ks_wpAt_execs_cons (ks_wpAt_Assign_Attr (wpAt_of_wpAny (wpAny_Name (wpAny_loadName_local rfl rfl hns₄ rfl (wpAny_Name (wpAny_loadName_local rfl rfl hns₄ rfl ?_) (by decide))) (by decide))))
  refine set_plain X₄ (ox := excObj C h₆.objs.size none .none) (od := none) ⟨hx₄, rfl, rfl, trivial⟩ T.sa ?_
  refine osaB X₄ hx₄ hcl (ok.ab.of (show excTail p.tail (.ref C :: bm) = true from hbm)) rfl T.noN (fun h₅ tk₅ dx k₅ dn dne hx₅ hn₅ => ?_)
  change wpAt _ _ _ (execs _ _) _ _ _
  refine wpAt_of_wpAny (wpAny_execs_nil (hq h₅ tk₅ dx _ ⟨fun b o hb e => k₅ b o hb (k₄ b o hb (k₆ _ _ (k₃₃ b o (k b o e)))), hx₅, ?_, dne, hn₅⟩))
  have z : hp.objs.size < h₄.objs.size := hns₄.lt
  exact Nat.le_of_lt (Nat.lt_of_lt_of_le z dn)
theorem Kp.of_call {p : Bs} (ok : BsOk p) (T : TxB prog K mg c q "call" a b C fI p PeX.iB) (za : a.length ≤ 100) (zb : b.length ≤ 100) : Kp prog w K mg c C "call" := by
  refine ⟨T.gC, T.kC, T.exC, T.tyC, T.ga, T.gg, T.hdC, T.noN, ?_⟩
  intro A R s v mb X hlim hG hB hsu hroom hfm fin
  obtain ⟨nm, qn, N, bs, bm, sn, sub, ab, col, dd, k0, k1, k2, k3, k5, hC, hbm⟩ := T.cls
  obtain ⟨hp, g, dr, tk, os⟩ := s
  have k : ∀ b o, hp.get? b = some o → ((hp.push (kdv_tup [v])).push (excO C hp.objs.size)).get? b = some o := fun b o e => Heap.get?_push_of_some _ (Heap.get?_push_of_some _ e)
  have here : ((hp.push (kdv_tup [v])).push (excO C hp.objs.size)).get? (hp.objs.size + 1) = some (excO C hp.objs.size) := by heap_get
  have hnx : K.lookup (hp.objs.size + 1) = none := by
    cases e : K.lookup (hp.objs.size + 1) with
    | none => rfl
    | some o => exact absurd (Nat.lt_of_succ_lt (Heap.lt_size (X _ _ e))) (Nat.lt_irrefl _)
  refine call_cls ok.new (ok.ab.of (show excTail p.tail (.ref C :: bm) = true from hbm)) (X _ _ hC) (looks_findIn X T.iC) (fun self => bind_fn X self T.tC) (show 1 ≤ sizeLine by decide) ?_
  refine init_call (s := ⟨(hp.push (kdv_tup [v])).push (excO C hp.objs.size), g, dr, tk, os⟩) ok T (X.keeps k) (hlim.keeps k) (hG.keeps k) (hB.keeps k) hsu here hnx hroom za zb (hfm.mono k) fun h' tk' dx t1 M => ⟨rfl, ?_⟩
  have z : hp.objs.size + 1 + 1 ≤ dx := by
    have q := M.dbig
    first
      | exact q
      | simpa only [Heap.size_push] using q
  exact fin h' tk' (hp.objs.size + 1) dx ⟨fun b o e => M.keep b o (Nat.ne_of_lt (Nat.lt_succ_of_lt (Heap.lt_size e))) (k b o e), Nat.le_succ _, ⟨_, _, M.obj, rfl, rfl, rfl, rfl⟩, Nat.le_trans (Nat.le_trans (Nat.le_succ _) (Nat.le_succ _)) z, M.dne, M.ns⟩
/-- the __init__ of such a class, whose field is value -/
theorem init_value {p : Bs} (ok : BsOk p) (T : TxB prog K mg c q "value" a b C fI p iB1) {x t0 : Addr} {v : Value} (X : K.In s.heap) (hlim : s.heap.NoLimit) (hG : s.heap.Ns mainGlobals mg) (hB : s.heap.Ns builtinsNs mb) (hsu : mb "super" = some (.type "super"))
    (hx : s.heap.get? x = some (excO C t0)) (hnx : K.lookup x = none) (hroom : A.depth < recursionLimit) (za : a.length ≤ 100) (zb : b.length ≤ 100)
    (hfm : Fmts prog w A s.heap v)
    (hq : ∀ h' tk dx t1, PeX.InitEnd "value" s.heap h' x C dx t1 v → R (.ok (.ret .none)) { s with heap := h', toks := tk }) :
    codeAny (model prog w) A (.call (.ref fI) ⟨[.ref x, v], []⟩) R s := by
  obtain ⟨oc, od, doc, pm, an, cda, ct, osl, ps, cc, cl, cld, csl, ccl, cdd, vs, ccs, file, tf, ho, hcd, hcell, hcode, hvs, hfile, hpos⟩ := T.fn
  obtain ⟨nm, qn, N, bs, bm, sn, sub, ab, col, dd, k0, k1, k2, k3, k5, hC, hbm⟩ := T.cls
  have hcl : clsIn K C = some { name := nm, bases := bs, mro := .ref C :: bm, ns := N, qualname := qn, hasDict := true, slotNames := sn, subclasses := sub, abstract := ab, collection := col, hasDel := false } := by unfold clsIn; rw [hC] <;> rfl
  have hsup := T.sup
  unfold ks_superIn at hsup
  rw [hcl] at hsup
  obtain ⟨hp, g, dr, tk, os⟩ := s
  refine ks_codeAny_call_defAt (fd := ksFn "__init__" q (PeX.iA "value" ps) (iB1 "value" a b ps) (PeX.iS "value") .none .none doc pm an (.ref cda) ct cc) (body := iB1 "value" a b ps) (binds := [("self", .ref x), ("value", v)]) hroom (X _ _ ho) rfl hlim (codeRec_of X hcd) rfl
    (BindsTo.of_eq (by first | rfl | with_unfolding_all rfl)) (show ∀ x ∈ (PeX.iS "value").names, x.2 ≠ .cell by decide) (fun y hy => by
      rcases List.mem_cons.mp hy with rfl | hy
      · rfl
      · rcases List.mem_cons.mp hy with rfl | hy
        · rfl
        · exact nomatch hy) (fun h₁ hns k => ?_)
  have X₁ : K.In h₁ := X.keeps k
  have hx₁ := k _ _ hx
  have hC₁ := X₁ _ _ hC
  refine ks_wpAt_execs_cons (ks_wpAt_Expr_any (ks_wpAt_MethodCall ?_ (PeX.call_tree hpos rfl)))
  refine ks_wpAt_super_base rfl rfl rfl rfl (X₁ _ _ ho) rfl rfl rfl (X₁ _ _ hcode) rfl hvs hfile T.top ?_
  refine ks_loadName_global rfl rfl (loadGlobal_builtin (hG.keeps k) T.nsup (hB.keeps k) hsu ⟨rfl, ?_⟩)
  refine wpAny_loadName_free rfl rfl rfl ⟨_, X₁ _ _ hcell, rfl⟩ (wpAny_loadName_local rfl rfl hns rfl (ks_wpAny_isType_cls hC₁ rfl ⟨rfl, ?_⟩))
  refine ks_wpAny_call_super hC₁ rfl hx₁ rfl (fun c e => nomatch e) (looks_mroIn X₁ T.msub) (fun h₂ e₂ k₂ => ?_)
  have X₂ : K.In h₂ := X₁.keeps k₂
  have hx₂ := k₂ _ _ hx₁
  have I₂ : InstAt h₂ x (excO C t0) C none := ⟨hx₂, rfl, rfl, trivial⟩
  refine kxs_getMethod ok.init.kx e₂ (looks_opaque X₂ T.op) (l₀ := .ref C :: bm) (fun A Q E s k q => wpAny_bind ((looks_clsIn X₂ hcl) A _ E s k (wpAny_pure q))) rfl X₂ hsup (I₂.type.andThen (looks_subIn X₂ T.veC)) (ks_ne X₂ I₂ hcl) rfl ?_
  have k₃ : ∀ b o, h₂.get? b = some o → (h₂.push (kxs_mw p.i x)).get? b = some o := fun b o e => Heap.get?_push_of_some _ e
  have e₃ : (h₂.push (kxs_mw p.i x)).get? h₂.objs.size = some (kxs_mw p.i x) := Heap.get?_push_at rfl rfl
  have k₃₃ : ∀ b o, h₁.get? b = some o → (h₂.push (kxs_mw p.i x)).get? b = some o := fun b o e => k₃ b o (k₂ b o e)
  have hns₃ := hns.keeps k₃₃
  refine kxs_callWith (i := p.i) (x := x) rfl (evalArgs_plain (spliced_cons (wpAny_JoinedStr (pos := ps.j) ?_)))
  refine wpAny_FormattedValue_plain (wpAny_Name (wpAny_loadName_local rfl rfl hns₃ rfl ?_) (by decide))
  refine hfm _ _ _ _ (fun b o e => k₃₃ b o (k b o e)) fun y t' k' h₆ hy k₆ => ⟨y, t', rfl, ?_, ?_⟩
  · rw [strLen_append]
    exact Nat.le_trans (show _ ≤ 100000 by show 0 + y.length ≤ 100000; omega) (by decide)
  have all : Str.empty.length + y.length + b.length ≤ sizeLine := Nat.le_trans (show _ ≤ 100200 by show 0 + y.length + b.length ≤ 100200; omega) (by decide)
  refine Constant_str ⟨_, _, rfl, by rw [strLen_append, strLen_append]; exact all, by rw [strLen_append, strLen_append]; exact all, spliced_nil ⟨k₆ _ _ e₃, ?_⟩⟩
  have X₆ : K.In h₆ := (X₂.keeps k₃).keeps k₆
  refine call_wrapB ok.init (k₆ _ _ e₃) (X₆ _ _ hC) (k₆ _ _ (k₃ _ _ hx₂)) (show 1 ≤ sizeLine by decide) fun h₄ k₄ hx₄ => ?_
  have X₄ : K.In h₄ := PeX.kept_but X₆ hnx k₄
  have xL : hp.objs.size ≠ x := Nat.ne_of_gt (Heap.lt_size hx)
  have hns₄ : h₄.Ns hp.objs.size (fun x_1 => List.lookup x_1 [(("self" : Str), Value.ref x), (("value" : Str), v)].reverse) := (hns₃.keeps k₆).at fun o e => k₄ _ o xL e
  change wpAt _ _ _ (execs _ _) _ _ _
  refine ks_wpAt_execs_cons (ks_wpAt_Assign_Attr (wpAt_of_wpAny (wpAny_Name (wpAny_loadName_local rfl rfl hns₄ rfl (wpAny_Name (wpAny_loadName_local rfl rfl hns₄ rfl ?_) (by decide))) (by decide))))
  refine set_plain X₄ (ox := excObj C h₆.objs.size none .none) (od := none) ⟨hx₄, rfl, rfl, trivial⟩ T.sa ?_
  refine osaB X₄ hx₄ hcl (ok.ab.of (show excTail p.tail (.ref C :: bm) = true from hbm)) rfl T.noN (fun h₅ tk₅ dx k₅ dn dne hx₅ hn₅ => ?_)
  change wpAt _ _ _ (execs _ _) _ _ _
  refine wpAt_of_wpAny (wpAny_execs_nil (hq h₅ tk₅ dx _ ⟨fun b o hb e => k₅ b o hb (k₄ b o hb (k₆ _ _ (k₃₃ b o (k b o e)))), hx₅, ?_, dne, hn₅⟩))
  have z : hp.objs.size < h₄.objs.size := hns₄.lt
  exact Nat.le_of_lt (Nat.lt_of_lt_of_le z dn)
theorem Kp.of_value {p : Bs} (ok : BsOk p) (T : TxB prog K mg c q "value" a b C fI p iB1) (za : a.length ≤ 100) (zb : b.length ≤ 100) : Kp prog w K mg c C "value" := by
  refine ⟨T.gC, T.kC, T.exC, T.tyC, T.ga, T.gg, T.hdC, T.noN, ?_⟩
  intro A R s v mb X hlim hG hB hsu hroom hfm fin
  obtain ⟨nm, qn, N, bs, bm, sn, sub, ab, col, dd, k0, k1, k2, k3, k5, hC, hbm⟩ := T.cls
  obtain ⟨hp, g, dr, tk, os⟩ := s
  have k : ∀ b o, hp.get? b = some o → ((hp.push (kdv_tup [v])).push (excO C hp.objs.size)).get? b = some o := fun b o e => Heap.get?_push_of_some _ (Heap.get?_push_of_some _ e)
  have here : ((hp.push (kdv_tup [v])).push (excO C hp.objs.size)).get? (hp.objs.size + 1) = some (excO C hp.objs.size) := by heap_get
  have hnx : K.lookup (hp.objs.size + 1) = none := by
    cases e : K.lookup (hp.objs.size + 1) with
    | none => rfl
    | some o => exact absurd (Nat.lt_of_succ_lt (Heap.lt_size (X _ _ e))) (Nat.lt_irrefl _)
  refine call_cls ok.new (ok.ab.of (show excTail p.tail (.ref C :: bm) = true from hbm)) (X _ _ hC) (looks_findIn X T.iC) (fun self => bind_fn X self T.tC) (show 1 ≤ sizeLine by decide) ?_
  refine init_value (s := ⟨(hp.push (kdv_tup [v])).push (excO C hp.objs.size), g, dr, tk, os⟩) ok T (X.keeps k) (hlim.keeps k) (hG.keeps k) (hB.keeps k) hsu here hnx hroom za zb (hfm.mono k) fun h' tk' dx t1 M => ⟨rfl, ?_⟩
  have z : hp.objs.size + 1 + 1 ≤ dx := by
    have q := M.dbig
    first
      | exact q
      | simpa only [Heap.size_push] using q
  exact fin h' tk' (hp.objs.size + 1) dx ⟨fun b o e => M.keep b o (Nat.ne_of_lt (Nat.lt_succ_of_lt (Heap.lt_size e))) (k b o e), Nat.le_succ _, ⟨_, _, M.obj, rfl, rfl, rfl, rfl⟩, Nat.le_trans (Nat.le_trans (Nat.le_succ _) (Nat.le_succ _)) z, M.dne, M.ns⟩
end
end PeB
end PySem

set_option pp.maxSteps 400
/-! values with their data, dicts of one int among them: repr, and in the text of an error -/
namespace Lv
open PySem PySem.Spec PyProof.Rows L2
/-- a value and its data -/
inductive Vd (K : PySem.W.Frag) (H : Hp) : V → PyData → Prop
  | flat {v : V} {d : PyData} : Dp K H v d → d.hasDict = false → Vd K H v d
  | emp {a : Addr} : H a = some (.dK []) → Vd K H (.ref a) (.dict [])
  | one {a : Addr} {k : Str} {i : Int} : H a = some (.dK [(.inr k, .int i)]) → Vd K H (.ref a) (.dict [(.str k, .int i)])
/-- data that is small enough to be shown -/
structure Sm (d : PyData) : Prop where
  sh : d.showable = true
  dp : d.depth ≤ 60
  ln : d.shown.length ≤ 90000
  tx : ∀ z, d = .str z → z.length ≤ 90000
def encK : Key → PyData
  | .inl i => .int i
  | .inr x => .str x
theorem encK_ok {P : Program} {w : World} {h : Heap} (k : Key) (key : Value) (e : (mixKind P w).is k key = true) : Reads h key (encK k) [] := by
  rcases keyIs_shape e with ⟨i, t, rfl, rfl⟩ | ⟨x, t, rfl, rfl⟩
  · exact .int i t
  · exact .str x t
section
variable {X : Cx} {pins : List (Addr × Obj)} {σ : L2.St} {H : Hp} {s : Shared}
theorem Vd.reads {v : V} {d : PyData} {u : Value} (I : L2.Inv X pins σ H s) (h : Vd X.K H v d) (r : RelV v u) : ∃ as, Reads s.heap u d as ∧ (d.hasDict = true → sysModules ∉ as) := by
  cases h with
  | flat hd hn =>
    obtain ⟨as, rd⟩ := Dp.reads I d v u hd r
    exact ⟨as, rd, PyData.noDict_hsm hn⟩
  | @emp a ha =>
    cases r
    obtain ⟨_, ns, vs, kv, hd⟩ := (show ObjOk X.prog X.w H s.heap a (.dK []) from I.hok a _ ha)
    cases kv
    refine ⟨_, PyProof.V.reads_dictOf (enc := encK) encK_ok hd .nil, fun _ m => ?_⟩
    rw [List.mem_singleton.mp m] at ns
    simp at ns
  | @one a k i ha =>
    cases r
    obtain ⟨_, ns, vs, kv, hd⟩ := (show ObjOk X.prog X.w H s.heap a (.dK _) from I.hok a _ ha)
    obtain _ | ⟨e, kv⟩ := kv
    cases kv
    rename_i q
    obtain ⟨k', v'⟩ := q
    obtain ⟨rfl, t, rfl⟩ := e
    refine ⟨_, PyProof.V.reads_dictOf (enc := encK) encK_ok hd (.cons (.int i t) .nil), fun _ m => ?_⟩
    have m' : sysModules = a := by simpa using m
    rw [m'] at ns
    simp at ns
/-- repr of a value by its data -/
def rRpV (K : PySem.W.Frag) : List V → Hp → VK → Prop := fun xs H Q => ∃ (v : V) (d : PyData), xs = [v] ∧ Vd K H v d ∧ Sm d ∧ Q (.str d.shown) H
theorem call_rpV (hgd : X.A.guards = some []) (hu : X.A.units + 64 < cLine) : CallR X (.builtin "repr") (rRpV X.K) := by
  intro pins s σ H xs us Q I r h
  obtain ⟨v, d, rfl, hv, sm, q⟩ := h
  obtain ⟨u, rfl, rx⟩ := vals1 r
  obtain ⟨as, rd, ns⟩ := hv.reads I rx
  have fin : ∀ (h' : Heap) (t tk : Tok), (∀ b o, s.heap.get? b = some o → h'.get? b = some o) → ∃ v' H', L2.Inv X pins σ H' { s with heap := h', toks := tk } ∧ RelV v' (.str d.shown t) ∧ Q v' H' := fun h' t tk k => ⟨.str d.shown, H, I.kept k, ⟨t, rfl⟩, q⟩
  have ln : d.shown.length ≤ sizeLine := sz100 (by have := sm.ln; omega)
  have dp := sm.dp
  have big : ∀ a, u = .ref a → wpAny (model X.prog X.w) X.A (call (.builtin "repr") [u]) (fun u s' => ∃ v H', L2.Inv X pins σ H' s' ∧ RelV v u ∧ Q v H') X.xe s := by
    rintro a rfl
    exact repr_of_reads' rd sm.sh ns hgd (by omega) (fun _ _ e => e) (fun h' t tk k => fin h' t tk k) ln
  cases rd with
  | none => exact PySem.P.repr_of_none (fin s.heap _ _ fun _ _ e => e)
  | bool b => exact PySem.P.repr_of_bool (fin s.heap _ _ fun _ _ e => e)
  | int i t => exact PySem.P.repr_of_int (of_decide_eq_true sm.sh) (fin s.heap _ _ fun _ _ e => e)
  | str x t => exact PySem.P.repr_of_str (fin s.heap _ _ fun _ _ e => e) ln
  | list => exact big _ rfl
  | tuple => exact big _ rfl
  | dict => exact big _ rfl
theorem fmts_of {v : V} {d : PyData} {u : Value} {A : Around} (I : L2.Inv X pins σ H s) (hv : Vd X.K H v d) (sm : Sm d) (r : RelV v u) (hgd : A.guards = some []) (hu : A.units + 70 < cLine) : PySem.PeB.Fmts X.prog X.w A s.heap u := by
  obtain ⟨as, rd, ns⟩ := hv.reads I r
  intro env s' Q E keep fin
  have dp := sm.dp
  have ln := sm.ln
  have big : ∀ a, u = .ref a → wpAny (model X.prog X.w) (A.deeper env) (formatField u Str.empty) Q E s' := by
    rintro a rfl
    exact formatField_of_reads rd sm.sh ns (show (A.deeper env).guards = some [] from hgd) (show A.units + 3 + (d.depth + 2) < cLine by omega) keep (fun h' t tk k => fin d.shown t tk h' (by omega) k) (sz100 (by omega))
  cases rd with
  | none => exact wpAny_formatField_none (fin _ _ _ s'.heap (by decide) fun _ _ e => e)
  | bool b => exact wpAny_formatField_bool (fin _ _ _ s'.heap (by cases b <;> decide) fun _ _ e => e)
  | int i t => exact wpAny_formatField_int (of_decide_eq_true sm.sh) (fin _ _ _ s'.heap (by have h : (Str.ofString (toString i)).length ≤ 90000 := ln; omega) fun _ _ e => e)
  | str x t =>
    have h := sm.tx x rfl
    exact wpAny_formatField_str (fin x t s'.toks s'.heap (by omega) fun _ _ e => e) (fin x _ _ s'.heap (by omega) fun _ _ e => e) (sz100 (by omega))
  | list => exact big _ rfl
  | tuple => exact big _ rfl
  | dict => exact big _ rfl
end
end Lv

/-! errors as values: made, asked for their fields and their classes -/
namespace PySem.W
open PySem PySem.Spec PySem.Calls PyProof.Rows
section
variable {prog : Program} {w : World} {A : Around} {E : Value → Shared → Prop} {s : Shared} {K : Frag} {x D : Addr} {ox : Obj} {od : Option Obj}
/-- e.__class__, e an error of the class D -/
theorem err_class {Q : Option Value → Shared → Prop} (T : L2.ExcC K D) (hf : findObj K D od "__class__" = some (.bind (.builtin "getset_descriptor.__get__") (.builtin "object.__class__"))) (X : K.In s.heap) (I : InstAt s.heap x ox D od)
    (fin : Q (some (.ref D)) { s with toks := s.toks + 1 }) : wpAny (model prog w) A (getAttr? (.ref x) "__class__") Q E s := by
  obtain ⟨hp, g, dr, tk, os⟩ := s
  have l0 := I.type (M := model prog w)
  have l1 := looks_findIn (M := model prog w) X T.hg
  have l2 := looks_findIn (M := model prog w) X T.hk
  have l3 := looks_find (M := model prog w) X I hf
  have up : Looks (model prog w) hp (isInstance (.ref x) (.type "BaseException")) true := l0.andThen (looks_subIn X T.hs)
  have z : (Value.builtin "BaseException.__getattribute__" == Value.builtin "object.__getattribute__") = false := by decide +kernel
  unfold getAttr? getAttrBy? getAttrBy
  refine wpAny_bind (wpAny_mkText (wpAny_bind (wpAny_attempt (wpAny_holding (wpAny_bind (l0.at (wpAny_bind (l1.at ?_))))))))
  change wpAny _ _ (ite ((onTheHeap (Value.ref D) && Value.builtin "BaseException.__getattribute__" == Value.builtin "object.__getattribute__") = true) _ _) _ _ _
  rw [show (onTheHeap (Value.ref D) && Value.builtin "BaseException.__getattribute__" == Value.builtin "object.__getattribute__") = false by rw [z]; rfl, if_neg Bool.false_ne_true]
  unfold getAttrByItsOwn hookBefore
  refine wpAny_bind ?_
  rw [if_pos (show onTheHeap (Value.ref D) = true from rfl)]
  refine l2.at (wpAny_bind (wpAny_attempt (wpAny_holding ?_)))
  unfold callGetattribute
  rw [show (false && onTheHeap (Value.builtin "BaseException.__getattribute__")) = false from rfl, if_neg Bool.false_ne_true]
  unfold boundAndCalled
  rw [PySem.F.excAttr_ValueError.ga.bind (.ref x)]
  refine wpAny_bind (wpAny_pure (show wpAny _ _ (call (.builtin "BaseException.__getattribute__") [.ref x, .str "__class__" tk]) _ _ _ from ?_))
  refine wpAny_call (codeAny_call_builtin PySem.F.excAttr_ValueError.ga.plain PySem.F.entry_bexc_ga ?_)
  refine @check_slot (model prog w) _ _ ⟨hp, g, dr, tk + 1, os⟩ "BaseException.__getattribute__" "BaseException" "__getattribute__" (.ref x) [.str "__class__" tk] [] _ (by decide +kernel) (by decide +kernel) up (PySem.F.args_bexc_ga _ _) ?_
  unfold Builtin.«object.__getattribute__»
  refine wpAny_bind (wpAny_of_eq (a := ((Value.ref x : Value), [Value.str "__class__" tk])) (by first | rfl | (simp only [slotArgs]; rfl)) (wpAny_bind (wpAny_pure (wpAny_bind (l0.at (wpAny_bind (l3.at ?_)))))))
  change wpAny _ _ (holding [Value.builtin "object.__class__"] (call (.builtin "getset_descriptor.__get__") [.builtin "object.__class__", .ref x, .ref D]) >>= ret) _ _ _
  refine wpAny_bind (wpAny_holding (wpAny_call (class_get (s := ⟨hp, g, dr, tk + 1, os⟩) (ox := ox) (od := od) X I T.hm (wpAny_pure ?_))))
  change wpAny _ _ (handedOut (.ref D)) _ _ _
  rw [handedOut_of (v := .ref D) rfl]
  first
    | exact wpAny_pure (wpAny_pure fin)
    | exact wpAny_pure fin
    | exact wpAny_pure (wpAny_bind (wpAny_pure (wpAny_pure fin)))
theorem err_kitx (T : L2.ExcC K D) (hf : findObj K D od "__class__" = some (.bind (.builtin "getset_descriptor.__get__") (.builtin "object.__class__"))) : KitX K (.ref x) (.ref D) (fun h => InstAt h x ox D od) where
  ty := fun _ _ _ I => I.type
  it := fun M h X _ => by
    have hd := T.hd
    unfold hasDictIn at hd
    obtain ⟨cd, hc, _⟩ := any_some hd
    unfold clsIn at hc
    split at hc
    · rename_i ho
      intro A' Q' E' s' k q
      unfold isType loadHead
      exact wpAny_bind (wpAny_loadPart (k _ _ (X _ _ ho)) (wpAny_pure q))
    · cases hc
  ne := fun h tp dd its n sl X htp => by
    have hd := T.hd
    unfold hasDictIn at hd
    obtain ⟨cd, hc, _⟩ := any_some hd
    refine Bool.eq_false_iff.mpr fun q => ?_
    obtain rfl : D = tp := Value.ref.inj (beq_iff_eq.mp q)
    unfold clsIn at hc
    split at hc
    · rename_i ho
      cases (X _ _ ho).symm.trans htp
    · cases hc
  ca := fun X I k => err_class T hf X I k
theorem err_find (T : L2.ExcC K D) : findObj K D od "__class__" = some (.bind (.builtin "getset_descriptor.__get__") (.builtin "object.__class__")) := by
  have hd := T.hd
  unfold hasDictIn at hd
  obtain ⟨cd, hc, _⟩ := any_some hd
  unfold findObj
  rw [hc, Option.bind_some, T.ha, Option.bind_some]
  simp [T.hn, T.ht]
end
end PySem.W
namespace Lv
open PySem PySem.Spec PyProof.Rows L2
/-- an error of the class C, its dict at d -/
def EvO (C d a : Addr) : HO := .ext fun h => ∃ (oe : Obj) (vs : Array Value), h.get? a = some oe ∧ Zc (.ref C) (some d) oe ∧ oe.data = .fields vs
theorem evO_ok {P : Program} {w : World} {H : Hp} {h : Heap} {a C d : Addr} {oe : Obj} {vs : Array Value} (e : h.get? a = some oe) (z : Zc (.ref C) (some d) oe) (dd : oe.data = .fields vs) : ObjOk P w H h a (EvO C d a) :=
  ⟨⟨oe, vs, e, z, dd⟩, ⟨oe, e⟩, fun _ _ ⟨o, v, q, r⟩ k => ⟨o, v, k o q, r⟩⟩
/-- an error, held: of the class C -/
def IsE (H : Hp) (a C : Addr) : Prop := H a = some (ExO (.ref C) a) ∨ ∃ (d : Addr) (fs : List (Str × V)), H a = some (EvO C d a) ∧ H d = some (.xd fs)
section
variable {X : Cx} {pins : List (Addr × Obj)} {σ : L2.St} {H : Hp} {s : Shared}
theorem IsE.inst {a C : Addr} (I : L2.Inv X pins σ H s) (h : IsE H a C) : ∃ ox od, PySem.W.InstAt s.heap a ox C od := by
  rcases h with h | ⟨d, fs, h, hd⟩
  · obtain ⟨⟨oe, vs, e, z, dt, _⟩, _, _⟩ := I.hok a _ h
    obtain ⟨o1, o2, o3, o4⟩ := oe
    obtain ⟨z1, z2⟩ := z
    dsimp only at z1 z2 dt
    subst z1 z2 dt
    exact ⟨_, none, e, rfl, rfl, trivial⟩
  · obtain ⟨⟨oe, vs, e, z, dt⟩, _, _⟩ := I.hok a _ h
    obtain ⟨mA, hns, _⟩ := (show ObjOk X.prog X.w H s.heap d (.xd fs) from I.hok d _ hd)
    obtain ⟨od, ho, _⟩ := lookIn_ns hns
    refine ⟨oe, some od, e, z.1, by unfold PySem.W.notCls; rw [dt] <;> rfl, ?_⟩
    rw [z.2]
    exact ho
/-- isinstance(e, c) -/
def rIsV (K : PySem.W.Frag) : List V → Hp → VK → Prop := fun xs H Q => ∃ (a D : Addr) (c : V) (cv : Value) (b : Bool), xs = [.ref a, c] ∧ IsE H a D ∧ ExcC K D ∧ (∀ u, RelV c u → u = cv) ∧ PySem.W.kitOne K (.ref D) cv = some b ∧ Q (.bl b) H
theorem call_isV : CallR X (.builtin "isinstance") (rIsV X.K) := by
  intro pins s σ H xs us Q I r h
  obtain ⟨a, D, c, cv, b, rfl, he, T, hcv, e, q⟩ := h
  obtain _ | ⟨rx, _ | ⟨rc, _ | _⟩⟩ := r
  cases rx
  obtain rfl := hcv _ rc
  obtain ⟨ox, od, J⟩ := he.inst I
  exact PySem.W.kia_one (PySem.W.err_kitx T (PySem.W.err_find T)) I.kIn J e (nofun) fun tk => ⟨.bl b, H, I.kept (t' := tk) fun _ _ z => z, rfl, q⟩
/-- what is asked of a class for its objects' field f to be read -/
structure Rdb (K : PySem.W.Frag) (C : Addr) (f : Str) : Prop where
  xf : XfC K C
  no : PySem.W.findIn K (.ref C) f = some none
/-- e.f -/
def tFl (K : PySem.W.Frag) (f : Str) (te : TE) : TE := fun σ H Q => te σ H fun x H1 => ∃ (a C d : Addr) (fs : List (Str × V)) (v : V), x = .ref a ∧ Rdb K C f ∧ H1 a = some (EvO C d a) ∧ H1 d = some (.xd fs) ∧ fs.lookup f = some v ∧ Q v H1
theorem pe_fl {e : Expr} {te : TE} {pos : Pos} {n : Str} (he : PE X e te) (hb : attributeBase e n X.env (eval e X.env) = eval e X.env := by rfl) : PE X (.Attribute e n pos) (tFl X.K n te) := by
  refine ⟨fun pins s σ H Q I h => attr_of hb (thn (he.run pins s σ H _ I h) ?_)⟩
  rintro u s1 ⟨x, H1, I1, rx, a, C, d, fs, v, rfl, R, ha, hd, l, q⟩
  obtain rfl : u = Value.ref a := rx
  obtain ⟨⟨oe, vs, ge, z, dt⟩, _, _⟩ := I1.hok a _ ha
  obtain ⟨mA, hns, hr⟩ := (show ObjOk X.prog X.w H1 s1.heap d (.xd fs) from I1.hok d _ hd)
  obtain ⟨od, ho, hl⟩ := lookIn_ns hns
  obtain ⟨u, hu, ru⟩ := RelO.some_of (v := v) (o := mA n) (by rw [← l]; exact hr n)
  have J : PySem.W.InstAt s1.heap a oe C (some od) := ⟨ge, z.1, by unfold PySem.W.notCls; rw [dt] <;> rfl, by rw [z.2]; exact ho⟩
  exact HandSPX.exc_get I1.kIn J R.xf.ga R.xf.gg R.xf.exC (PySem.W.findObj_own R.xf.hdC R.no rfl (by rw [hl, hu])) (handed_of ru) ⟨v, H1, I1.tok _, ru, q⟩
/-- a made error, its dict tracked, itself not -/
theorem laid_own {f : Str} {hp h' : Heap} {g : Array GenState} {dr : Drawn} {tk tk' : Nat} {os : OsState} {e C d : Addr} {v : V} {v' : Value} (I : L2.Inv X pins σ H ⟨hp, g, dr, tk, os⟩) (M : PySem.PeX.OwnMade f hp h' e C d v') (r : RelV v v') :
    ∃ G : Heap, L2.Inv X pins σ (upd H d (.xd [(f, v)])) ⟨G, g, dr, tk', os⟩ ∧ (∀ b o, G.get? b = some o → h'.get? b = some o) ∧ G.get? e = none ∧ H e = none ∧ H d = none := by
  obtain ⟨G, g1, g2⟩ := restrict h' fun b => decide (b ≠ e)
  have gk : ∀ b, b ≠ e → G.get? b = h'.get? b := fun b hb => g1 b (decide_eq_true hb)
  have ge : G.get? e = none := g2 e (by simp)
  have ob : ObjOk X.prog X.w (upd H d (.xd [(f, v)])) G d (.xd [(f, v)]) := ⟨_, M.ns.at (fun o q => (gk d M.dne).trans q), fun y => relO_one r y⟩
  refine ⟨G, I.laid (t' := tk') (fun b o q => (gk b (Nat.ne_of_lt (Nat.lt_of_lt_of_le (Heap.lt_size q) M.new))).trans (M.keep b o q)) M.dbig ob, fun b o q => ?_, ge, I.hok.fresh M.new, I.hok.fresh M.dbig⟩
  by_cases hb : b = e
  · rw [hb, ge] at q
    cases q
  · exact (gk b hb).symm.trans q
/-- C(x), as a value -/
def tKeep (K : PySem.W.Frag) (C : Addr) (f : Str) (ta : TA) : TE := fun σ H Q => ta σ H fun vs H1 => ∃ (v : V) (d : PyData), vs = [v] ∧ Vd K H1 v d ∧ Sm d ∧ ∀ a dd, H1 a = none → H1 dd = none → a ≠ dd → Q (.ref a) (upd (upd H1 dd (.xd [(f, v)])) a (EvO C dd a))
/-- C(x), to be raised -/
def tKeepX (K : PySem.W.Frag) (C : Addr) (f : Str) (ta : TA) : L2.St → Hp → XK → Prop := fun σ H Q => ta σ H fun vs H1 => ∃ (v : V) (d : PyData), vs = [v] ∧ Vd K H1 v d ∧ Sm d ∧ ∀ dd, H1 dd = none → Q (.ref C) (some dd) (upd H1 dd (.xd [(f, v)]))
theorem under_type {A : Around} {C : Addr} {us : List Value} : (A.under (.builtin "type.__call__" ⟨.ref C :: us, []⟩)).guards = A.guards ∧ (A.under (.builtin "type.__call__" ⟨.ref C :: us, []⟩)).units ≤ A.units + 4 := by
  constructor
  · first
      | rfl
      | simp [Around.under, Code.weight, Code.isCreation, Code.isGuard, Code.isCaller, Code.frames, Code.isFrame, guardIds]
  · show A.units + Code.cUnits (.builtin "type.__call__" ⟨.ref C :: us, []⟩) ≤ _
    have e : Code.cUnits (.builtin "type.__call__" ⟨.ref C :: us, []⟩) ≤ 4 := by
      first
        | exact (show 1 ≤ 4 by decide)
        | exact (show 2 ≤ 4 by decide)
        | exact (show 0 ≤ 4 by decide)
        | simp [Code.cUnits]
    omega
/-- a def by its body, where no guarded call runs and errors may leave -/
theorem okGX {P : Program} {w : World} {K : PySem.W.Frag} {mg : Str → Option Value} {base : Heap} {CX : CXT} {x qual : Str} {st : Stmt} {f : Addr} {fd : FuncData} {N ps : List Str} {k : Nat} {sp : Sp}
    (F : Fun K x qual st f fd) (S : FnScope N ps (defScope st)) (len : ∀ vs H Q E, sp vs H Q E → vs.length = ps.length)
    (hbody : ∀ (cdv : Value) (A : Around) (outer : List Env) (s : Shared) (H : Hp) (vs : List V) (Q : VK) (E : XK),
      (A.deeper (envOfC qual (defScope st) s.heap.objs.size f cdv)).guards = some [] → Room k (A.deeper (envOfC qual (defScope st) s.heap.objs.size f cdv)) → sp vs H Q E →
      ∃ t, PSs (cxOf CX P w K mg base N qual (defScope st) f cdv A outer s H E) (defBody st) t ∧ t { nx := fun _ H' => Q .non H', rt := Q } (L2.start N vs) H) :
    FnG P w K mg base CX (k + 1) f fd ps sp := by
  obtain ⟨oc, od, kV, doc, pm, an, cdv, ct, osl, rfl, lk, hcd⟩ := F.ex
  refine ⟨len, fun A hgd outer s H args us vs Q E hr e0 hb hv hsp => ?_⟩
  have kept := fun b o (z : base.get? b = some o) => (e0.bs b o z).1
  have hK : K.In s.heap := e0.mod.kin.keeps kept
  refine codeAny_call_function hr.depth (hK _ _ lk) rfl S.co S.gen rfl (PySem.W.codeRec_of hK hcd) (hb _ _ _ _ ?_)
  have kinds : ∀ y ∈ ps.zip us, (defScope st).names.lookup y.1 = some .local ∨ ((defScope st).names.lookup y.1 = some .cell ∧ ((cellsFrom (s.heap.objs.size + 1) (defScope st).names []).lookup y.1).isSome = true) := by
    rintro ⟨n, v⟩ hy
    rcases S.par n (List.of_mem_zip hy).1 with z | z
    · exact .inl z
    · exact .inr ⟨z, PySem.W.cellsFrom_some _ _ _ (.inl z)⟩
  refine wpAny_newFunctionEnv_cells S.kind kinds ?_
  rintro env rfl s1 x
  refine ⟨(e0.mod.nolimit.keeps kept).keeps x.toInCall.keep, codeAny_func ?_⟩
  obtain ⟨t, ht, hq⟩ := hbody cdv A outer s H vs Q E hgd (hr.deeper _) hsp
  refine wpAny_mono (ht.run [] s1 (L2.start N vs) H _ (inv_start S hr.hd e0 (len _ _ _ _ hsp) hv x) hq) ?_ (fun e s' z => z)
  rintro (_ | _ | _ | u) s' hs
  · obtain ⟨σ', H', J, q⟩ := hs
    exact ⟨V.non, H', J.os, J.bare, J.base, J.hok, (rfl : RelV V.non Value.none), q⟩
  · exact False.elim hs.choose_spec.choose_spec.2
  · exact False.elim hs.choose_spec.choose_spec.2
  · obtain ⟨v, σ', H', J, rv, q⟩ := hs
    exact ⟨v, H', J.os, J.bare, J.base, J.hok, rv, q⟩
section
variable {c f : Str} {C : Addr} {x : Expr} {ta : TA} {p pos : Pos} {k : Nat}
theorem run_keep {Q : Value → Shared → Prop} (T : PySem.PeB.Kp X.prog X.w X.K X.mg c C f) (hgd : X.A.guards = some []) (hr : Room k X.A) {v : V} {d : PyData} {u : Value} (I : L2.Inv X pins σ H s) (hv : Vd X.K H v d) (sm : Sm d) (r : RelV v u)
    (fin : ∀ h' tk e d, PySem.PeX.OwnMade f s.heap h' e C d u → Q (.ref e) { s with heap := h', toks := tk }) : wpAny (model X.prog X.w) X.A (call (.ref C) [u]) Q X.xe s := by
  obtain ⟨mb, hB0, hB1⟩ := I.mod.blt
  have un := hr.un
  have hu := (under_type (A := X.A) (C := C) (us := [u])).2
  refine wpAny_call (T.made _ _ s u mb I.kIn I.nolimit (I.mod.glob.keeps I.bk) (hB0.keeps I.bk) ((hB1 _ (by decide)).trans (by decide +kernel)) (by have := hr.dp; omega) (fmts_of I hv sm r (under_type.1.trans hgd) (by omega)) fin)
theorem pe_keep (T : PySem.PeB.Kp X.prog X.w X.K X.mg c C f) (hgd : X.A.guards = some []) (hr : Room k X.A) (ha : PA X [x] ta) (hg : Gl X c) (hdb : (c == ("__debug__" : Str)) = false)
    (he : starEach (x :: []) X.env = (false, eval x X.env) :: starEach [] X.env := by rfl) (hpl : (backTo pos (starEach [] X.env)).any (·.1) = false := by rfl) : PE X (.Call (.Name c p) [x] [] pos) (tKeep X.K C f ta) := by
  refine ⟨fun pins s σ H Q I h => wpAny_Call_Name_kw (ld_glob I hg T.gC ?_ hdb)⟩
  refine PySem.W.callWith_K (h₀ := X.base) I.ok.mod.kin T.kC (thn (ha.run pos pins s σ H _ I h) fun us s1 hh => ?_) he hpl
  obtain ⟨vs, H1, I1, r1, v, d, rfl, hv, sm, q⟩ := hh
  obtain _ | ⟨rv, _ | _⟩ := r1
  refine ⟨I1.kIn, run_keep T hgd hr I1 hv sm rv fun h' tk e dd M => ?_⟩
  obtain ⟨hp, g, dr, t0, os⟩ := s1
  obtain ⟨G, J, gk, ge, ne, nd⟩ := laid_own (tk' := tk) I1 M rv
  obtain ⟨oe, fv, hoe, hc, hd, hdat, h1⟩ := M.obj
  have ne' : upd H1 dd (.xd [(f, v)]) e = none := by rw [upd_ne (Ne.symm M.dne)]; exact ne
  exact ⟨.ref e, _, J.laidN (t' := tk) gk ge ne' (evO_ok hoe ⟨hc, hd⟩ hdat), rfl, q e dd ne nd (Ne.symm M.dne)⟩
theorem pmk_keep (T : PySem.PeB.Kp X.prog X.w X.K X.mg c C f) (hgd : X.A.guards = some []) (hr : Room k X.A) (ha : PA X [x] ta) (hg : Gl X c) (hdb : (c == ("__debug__" : Str)) = false)
    (he : starEach (x :: []) X.env = (false, eval x X.env) :: starEach [] X.env := by rfl) (hpl : (backTo pos (starEach [] X.env)).any (·.1) = false := by rfl) : PMk X (.Call (.Name c p) [x] [] pos) (tKeepX X.K C f ta) := by
  intro pins s σ H Q I h
  refine wpAny_Call_Name_kw (ld_glob I hg T.gC ?_ hdb)
  refine PySem.W.callWith_K (h₀ := X.base) I.ok.mod.kin T.kC (thn (ha.run pos pins s σ H _ I h) fun us s1 hh => ?_) he hpl
  obtain ⟨vs, H1, I1, r1, v, d, rfl, hv, sm, q⟩ := hh
  obtain _ | ⟨rv, _ | _⟩ := r1
  refine ⟨I1.kIn, run_keep T hgd hr I1 hv sm rv fun h' tk e dd M => ?_⟩
  obtain ⟨hp, g, dr, t0, os⟩ := s1
  obtain ⟨G, J, gk, ge, ne, nd⟩ := laid_own (tk' := tk) I1 M rv
  obtain ⟨oe, fv, hoe, hc, hd, hdat, h1⟩ := M.obj
  refine ⟨e, oe, fv, ⟨G, g, dr, tk, os⟩, _, .ref C, some dd, rfl, J, gk, ge, hoe, ⟨hc, hd⟩, hdat, h1, ?_, rfl, I1.bare, raises_own T.exC T.tyC, q dd nd⟩
  rw [upd_ne (Ne.symm M.dne)]
  exact ne
end
end
end Lv

/-! a caught error handed on as a value; clauses with one class or two -/
namespace Lv
open PySem PySem.Spec PyProof.Rows L2
/-- a def's promise wherever it is called, also while an error is handled -/
structure FnC (P : Program) (w : World) (K : PySem.W.Frag) (mg : Str → Option Value) (base : Heap) (CX : CXT) (k : Nat) (f : Addr) (fd : FuncData) (ps : List Str) (sp : Sp) : Prop where
  len : ∀ vs H Q E, sp vs H Q E → vs.length = ps.length
  run : ∀ (A : Around) (outer : List Env) (s : Shared) (H : Hp) (args : Args) (us : List Value) (vs : List V) (Q : VK) (E : XK), L2H.RoomH k A → Env0 P w K mg base A outer s H →
    BindsTo s fd args (ps.zip us) → Vals vs us → sp vs H Q E → codeAny (model P w) A (.call (.ref f) args) (CR CX outer P w H s Q E) s
section
variable {P : Program} {w : World} {K : PySem.W.Frag} {mg : Str → Option Value} {base : Heap} {CX : CXT}
theorem pin_ok {A : Around} {outer : List Env} {s : Shared} {H : Hp} (e : Env0 P w K mg base A outer s H) : ∃ p, L2H.PinOk outer H s p := by
  obtain ⟨o, es, ep, ho, hd, _⟩ := e.mod.glob
  obtain ⟨g, n⟩ := e.bs _ _ ho
  refine ⟨(mainGlobals, o), g, n, fun m => ?_, fun v z => ?_⟩
  · have := (e.funs.mem m).1
    rw [ho] at this
    cases this
  · have z' : o.data = .cell v := z
    rw [hd] at z'
    cases z'
theorem okC {x qual : Str} {st : Stmt} {f : Addr} {fd : FuncData} {N ps : List Str} {k : Nat} {sp : Sp} (F : Fun K x qual st f fd) (S : FnScope N ps (defScope st)) (len : ∀ vs H Q E, sp vs H Q E → vs.length = ps.length)
    (hbody : ∀ (cdv : Value) (A : Around) (outer : List Env) (s : Shared) (H : Hp) (vs : List V) (Q : VK) (E : XK) (p : Addr × Obj), L2H.RoomH k (A.deeper (envOfC qual (defScope st) s.heap.objs.size f cdv)) → sp vs H Q E →
      ∃ t, PSs (L2H.cxH CX P w K mg base N qual (defScope st) f cdv A outer s H E p) (defBody st) t ∧ t { nx := fun _ H' => Q .non H', rt := Q } (L2.start N vs) H) :
    FnC P w K mg base CX (k + 1) f fd ps sp := by
  obtain ⟨oc, od, kV, doc, pm, an, cdv, ct, osl, rfl, lk, hcd⟩ := F.ex
  refine ⟨len, fun A outer s H args us vs Q E hr e0 hb hv hsp => ?_⟩
  obtain ⟨p, hp⟩ := pin_ok e0
  have kept := fun b o (z : base.get? b = some o) => (e0.bs b o z).1
  have hK : K.In s.heap := e0.mod.kin.keeps kept
  refine codeAny_call_function hr.depth (hK _ _ lk) rfl S.co S.gen rfl (PySem.W.codeRec_of hK hcd) (hb _ _ _ _ ?_)
  have kinds : ∀ y ∈ ps.zip us, (defScope st).names.lookup y.1 = some .local ∨ ((defScope st).names.lookup y.1 = some .cell ∧ ((cellsFrom (s.heap.objs.size + 1) (defScope st).names []).lookup y.1).isSome = true) := by
    rintro ⟨n, v⟩ hy
    rcases S.par n (List.of_mem_zip hy).1 with z | z
    · exact .inl z
    · exact .inr ⟨z, PySem.W.cellsFrom_some _ _ _ (.inl z)⟩
  refine wpAny_newFunctionEnv_cells S.kind kinds ?_
  rintro env rfl s1 x
  refine ⟨(e0.mod.nolimit.keeps kept).keeps x.toInCall.keep, codeAny_func ?_⟩
  obtain ⟨t, ht, hq⟩ := hbody cdv A outer s H vs Q E p (hr.deeper _) hsp
  refine wpAny_mono (ht.run [] s1 (L2.start N vs) H _ (L2H.inv_startH S hp e0 (len _ _ _ _ hsp) hv x) hq) ?_ (fun e s' z => z)
  rintro (_ | _ | _ | u) s' hs
  · obtain ⟨σ', H', J, q⟩ := hs
    exact ⟨V.non, H', J.os, J.bare, J.base, J.hok, (rfl : RelV V.non Value.none), q⟩
  · exact False.elim hs.choose_spec.choose_spec.2
  · exact False.elim hs.choose_spec.choose_spec.2
  · obtain ⟨v, σ', H', J, rv, q⟩ := hs
    exact ⟨v, H', J.os, J.bare, J.base, J.hok, rv, q⟩
end
section
variable {X : Cx} {CX : CXT} {k : Nat} {f : Addr} {fd : FuncData} {ps : List Str} {sp : Sp} {dvs : List V} {ds : List Value} {E : XK} {x : Str} {p pos : Pos} {e : Expr} {es : List Expr} {t : TA}
theorem pe_callC (F : FnC X.prog X.w X.K X.mg X.base CX k f fd ps sp) (hr : L2H.RoomH k X.A) (hg : Gl X x) (hm : X.mg x = some (.ref f)) (hk : PySem.W.keepIn X.K (.ref f) = true) (hb : Binds X.K fd ps ds) (hd : Vals dvs ds)
    (hx : Passes CX X E) (ha : PA X (e :: es) t) (hdb : (x == ("__debug__" : Str)) = false := by decide) (he : starEach (e :: es) X.env = (false, eval e X.env) :: starEach es X.env := by rfl)
    (hpl : (backTo pos (starEach es X.env)).any (·.1) = false := by rfl) : PE X (.Call (.Name x p) (e :: es) [] pos) (tCall sp dvs E t) := by
  refine ⟨fun pins s σ H Q I h => wpAny_Call_Name_kw (ld_glob I hg hm ?_ hdb)⟩
  refine PySem.W.callWith_K (h₀ := X.base) I.ok.mod.kin hk (thn (ha.run pos pins s σ H _ I h) ?_) he hpl
  rintro us s1 ⟨vs, H1, I1, r, q⟩
  have r2 : Vals (vs ++ dvs) (us ++ ds) := r.append hd
  have hl : (us ++ ds).length = ps.length := r2.length.symm.trans (F.len _ _ _ _ q)
  refine ⟨I1.kIn, wpAny_call (codeAny_mono (F.run X.A X.stack s1 H1 ⟨us, []⟩ (us ++ ds) (vs ++ dvs) Q E hr I1.env0 (hb s1 us I1.kIn hl) r2 q) ?_)⟩
  rintro (er | (_ | _ | _ | u)) s' hq
  all_goals first
    | exact hx pins σ H1 s1 _ s' I1 hq
    | exact I1.after hq
    | exact False.elim hq
end
section
variable {X : Cx} {pins : List (Addr × Obj)} {σ : L2.St} {H : Hp} {a C d : Addr} {s : Shared}
/-- the error that was caught, as a value of the suite -/
theorem Got.held (g : Got X pins σ H a (.ref C) (some d) s) (hs : X.stack = X.env :: X.outer) (hf : X.env.frame = some X.env.locals) (hx : X.ex = []) : L2.Inv (X.suite a (X.pn ++ pins)) [] σ (upd H a (EvO C d a)) s := by
  obtain ⟨B, t, J, nb, up, fl, os, ag⟩ := id g.ex
  obtain ⟨oe, vs, ge, ze, de⟩ := fl.there
  have out : a ∉ (X.env :: X.outer).filterMap (·.frame) := by
    intro m
    obtain ⟨_, o2, e2, no⟩ := fl.2.2.1.mem m
    cases ge.symm.trans e2
    exact no vs de
  have nt : t.heap.get? a = none := by
    cases e : t.heap.get? a with
    | none => rfl
    | some o =>
      have z := nb a o e (by rw [hs]; exact out)
      rw [fl.2.1] at z
      cases z
  have I := g.inv
  have na := g.na
  have n0 : X.s_0.heap.get? a = none := by
    cases e : X.s_0.heap.get? a with
    | none => rfl
    | some o =>
      obtain ⟨o', z⟩ := J.base.there a o e (by rw [hx]; exact List.not_mem_nil)
      rw [nt] at z
      cases z
  have ne0 : ∀ b o, X.s_0.heap.get? b = some o → b ≠ a := by
    rintro b o e rfl
    rw [n0] at e
    cases e
  have neH : ∀ {b : Addr} {o : HO}, H b = some o → b ≠ a := fun e => ne_of_none e na
  refine ⟨I.ok.suite _ _, I.os, I.bare, ⟨I.base.keep, I.base.slot, fun b o e n hb => ?_, I.base.there, fun b xs e => ?_, fun b o u e => ?_, fun b ps e => ?_⟩, I.loc, I.cell, ?_, fun y c e => ?_, fun p hp => ?_, fun b u e => ?_, I.len⟩
  · rw [upd_ne (ne0 b o e)]
    exact I.base.free b o e n hb
  · have q := I.base.tups b xs e
    rw [upd_ne (neH q)]
    exact q
  · have q := I.base.frzs b o u e
    rw [upd_ne (neH q)]
    exact q
  · obtain ⟨m, q⟩ := I.base.tbls b ps e
    exact ⟨m, by rw [upd_ne (neH q)]; exact q⟩
  · rw [upd_ne]
    · exact I.free
    · intro z
      exact out (List.mem_filterMap.mpr ⟨X.env, .head _, by rw [hf]; exact congrArg some z⟩)
  · rw [upd_ne]
    · exact I.freeC y c e
    · rintro rfl
      obtain ⟨v, o, ho, hd⟩ := I.cell y c e
      rw [ge] at ho
      cases ho
      rw [de] at hd
      cases hd
  · have hp' : p ∈ X.pn ++ pins := by rw [List.append_nil] at hp; exact hp
    obtain ⟨e1, e2, e3, e4, e5⟩ := I.pin p hp'
    refine ⟨e1, ?_, e3, e4, e5⟩
    rw [upd_ne]
    · exact e2
    · intro z
      have q := (J.pin p hp').1
      rw [z, nt] at q
      cases q
  · by_cases hb : b = a
    · subst hb
      rw [upd_same] at e
      cases e
      exact evO_ok ge ze de
    · rw [upd_ne hb] at e
      exact (I.hok b u e).stay (fun c v _ q => q) (fun c q => by rw [upd_ne (neH q)]; exact q) fun c xs q => by rw [upd_ne (neH q)]; exact q
theorem unheld {pn : List (Addr × Obj)} (I : L2.Inv (X.suite a (X.pn ++ pins)) pn σ H s) (ok : X.Ok) : L2.Inv X pins σ H s :=
  ⟨ok, I.os, I.bare, I.base, I.loc, I.cell, I.free, I.freeC, fun p hp => I.pin p (List.mem_append_left _ hp), I.hok, I.len⟩
theorem sp_unheld {D : Ends} {f : Flow} {pn : List (Addr × Obj)} (h : SP (X.suite a (X.pn ++ pins)) pn D f s) (ok : X.Ok) : SP X pins D f s := by
  cases f with
  | ret u => obtain ⟨v, σ1, H1, J, r, q⟩ := h; exact ⟨v, σ1, H1, unheld J ok, r, q⟩
  | _ => obtain ⟨σ1, H1, J, q⟩ := h; exact ⟨σ1, H1, unheld J ok, q⟩
theorem Got.more {cls : Value} {d : Option Addr} {s' : Shared} (g : Got X pins σ H a cls d s) (k : ∀ b o, s.heap.get? b = some o → s'.heap.get? b = some o) (os : s'.os = s.os) (ag : AllBare s'.gens) : Got X pins σ H a cls d s' := by
  obtain ⟨B, t, J, nb, up, fl, os0, ag0⟩ := g.ex
  refine ⟨⟨B, t, J, nb, fun b o e hd => ?_, ⟨fun b o e => k _ _ (fl.1 b o e), fl.2.1, fl.2.2.1.of_keeps fun b o e _ => ⟨o, k _ _ e, rfl⟩, ?_⟩, os.trans os0, ag⟩, g.na⟩
  · obtain ⟨sl, q⟩ := up b o e hd
    exact ⟨sl, k _ _ q⟩
  · obtain ⟨oe, vs, T, oT, ts, e1, e2, e3, e4, e5, e6, e7, e8⟩ := fl.2.2.2
    exact ⟨oe, vs, T, oT, ts, k _ _ e1, e2, e3, e4, e5, e6, k _ _ e7, e8⟩
end
section
variable {X : Cx} {pins : List (Addr × Obj)} {σ : L2.St} {H : Hp} {a : Addr} {cls : Value} {d : Option Addr} {s : Shared}
theorem Got.name {x : Str} {c : Value} {np : Pos} {Q : Value → Shared → Prop} {E : Value → Shared → Prop} (g : Got X pins σ H a cls d s) (hf : X.env.frame = some X.env.locals) (hc : Names X x c) (h : Q c s) :
    wpAny (model X.prog X.w) (X.A.mark (some (.ref a))) (eval (.Name x np) X.env) Q E s := by
  obtain ⟨oe, ze, _, ge, S⟩ := g.suite hf
  rcases hc with ⟨hg, hd, hm | ⟨hm, hv, hn⟩⟩
  · exact ld_glob S hg hm h hd
  · exact ld_blt S hg hm hv h hn hd
theorem Got.test2 {x1 x2 : Str} {c1 c2 : Value} {b : Bool} {p1 p2 tp pos' : Pos} {R : Except Value Flow → Shared → Prop} {tk} (g : Got X pins σ H a cls d s) (hf : X.env.frame = some X.env.locals) (h1 : Names X x1 c1) (h2 : Names X x2 c2)
    (hb : PySem.W.exmAny X.K cls [c1, c2] = some b) (h : ∀ s', Got X pins σ H a cls d s' → R (.ok (if b then .brk else .next)) s') :
    codeAny (model X.prog X.w) (X.A.mark (some (.ref a))) (.handlers (.ref a) [.ExceptHandler (some (.Tuple [.Name x1 p1, .Name x2 p2] tk tp)) none [] pos'] X.env) R s := by
  refine codeAny_handlers_test (wpAny_Tuple_spliced ?_)
  refine Calls.spliced_cons (g.name hf h1 ?_)
  refine Calls.spliced_cons ?_
  show wpAny _ _ (eval (.Name x2 p2) X.env) _ _ _
  refine g.name hf h2 (Calls.spliced_nil ⟨show 2 ≤ sizeLine by decide, ?_⟩)
  have k : ∀ b o, s.heap.get? b = some o → (s.heap.push { cls := .type "tuple", data := .seq [c1, c2].toArray }).get? b = some o := fun b o e => Heap.get?_push_of_some _ e
  have g' := g.more (s' := { s with heap := s.heap.push { cls := .type "tuple", data := .seq [c1, c2].toArray } }) k rfl g.inv.bare
  obtain ⟨oe, ze, _, ge, _⟩ := g'.suite hf
  have look : PySem.W.Looks (model X.prog X.w) (s.heap.push { cls := .type "tuple", data := .seq [c1, c2].toArray }) (typeOf (.ref a)) cls := fun _ _ _ _ k q => wpAny_typeOf_ref (k _ _ ge) (ze.1.symm ▸ q)
  exact (PySem.W.exm_tup2 (M := model X.prog X.w) g'.inv.kIn look (Heap.get?_push_size s.heap rfl) hb).here (h _ g')
end
abbrev ClE := Ends → Addr → Addr → Addr → L2.St → Hp → Prop
/-- a clause 'except c as n' or 'except (c1, c2) as n', the error a value of its suite -/
inductive ClauseE (X : Cx) : ExceptHandler → List Value → ClE → Prop
  | one {x n : Str} {i : Nat} {c : Value} {np pos' : Pos} {b₀ : Stmt} {suite : List Stmt} {ts : Addr → TS} (hN : X.N.Nodup) (hi : X.N[i]? = some n) (hl : X.env.kindOf n = some .local) (hc : Names X x c)
      (hsu : ∀ (a : Addr) (pn : List (Addr × Obj)), PSs (X.suite a pn) (b₀ :: suite) (ts a)) :
      ClauseE X (.ExceptHandler (some (.Name x np)) (some n) (b₀ :: suite) pos') [c] (fun D a C d σ H => ts a (gone i D) (σ.set i (some (.ref a))) (upd H a (EvO C d a)))
  | two {x1 x2 n : Str} {i : Nat} {c1 c2 : Value} {p1 p2 tp pos' : Pos} {tk} {b₀ : Stmt} {suite : List Stmt} {ts : Addr → TS} (hN : X.N.Nodup) (hi : X.N[i]? = some n) (hl : X.env.kindOf n = some .local) (h1 : Names X x1 c1) (h2 : Names X x2 c2)
      (hsu : ∀ (a : Addr) (pn : List (Addr × Obj)), PSs (X.suite a pn) (b₀ :: suite) (ts a)) :
      ClauseE X (.ExceptHandler (some (.Tuple [.Name x1 p1, .Name x2 p2] tk tp)) (some n) (b₀ :: suite) pos') [c1, c2] (fun D a C d σ H => ts a (gone i D) (σ.set i (some (.ref a))) (upd H a (EvO C d a)))
inductive ClausesE (X : Cx) : List ExceptHandler → List (List Value × ClE) → Prop
  | nil : ClausesE X [] []
  | cons {h : ExceptHandler} {cs : List Value} {f : ClE} {hs : List ExceptHandler} {l : List (List Value × ClE)} : ClauseE X h cs f → ClausesE X hs l → ClausesE X (h :: hs) ((cs, f) :: l)
/-- what the clauses wish of an error -/
def wClE (K : PySem.W.Frag) (D : Ends) : List (List Value × ClE) → WX
  | [] => fun _ _ _ _ => False
  | (cs, f) :: r => fun cls d σ H => (PySem.W.exmAny K cls cs = some true ∧ ∃ C dd, cls = .ref C ∧ d = some dd ∧ ∀ a, H a = none → f D a C dd σ H) ∨ (PySem.W.exmAny K cls cs = some false ∧ wClE K D r cls d σ H)
section
variable {X : Cx} {pins : List (Addr × Obj)} {σ : L2.St} {H : Hp} {a : Addr} {s : Shared}
theorem exm1 {K : PySem.W.Frag} {cls c : Value} {b : Bool} (h : PySem.W.exmAny K cls [c] = some b) : PySem.W.exmOne K cls c = some b := by
  obtain ⟨b1, d1, e1, e2, e3⟩ := PySem.W.exmAny_cons h
  cases (show some false = some d1 from e2)
  rw [e3, Bool.or_false]
  exact e1
theorem clauseE_go {hd : ExceptHandler} {cs : List Value} {f : ClE} {D : Ends} {rest : List ExceptHandler} {cls : Value} {d : Option Addr} {b : Bool} (k : ClauseE X hd cs f) (hs : X.stack = X.env :: X.outer) (hf : X.env.frame = some X.env.locals) (hx : X.ex = [])
    (g : Got X pins σ H a cls d s) (hb : PySem.W.exmAny X.K cls cs = some b)
    (yes : b = true → ∃ C dd, cls = .ref C ∧ d = some dd ∧ f D a C dd σ H) (no : b = false → ∀ s', Got X pins σ H a cls d s' → wpAny (model X.prog X.w) X.A (handleBy (.ref a) X.env rest) (SP X pins D) X.xe s') :
    wpAny (model X.prog X.w) X.A (handleBy (.ref a) X.env (hd :: rest)) (SP X pins D) X.xe s := by
  have ok := g.inv.ok
  have suite : ∀ {n : Str} {i : Nat} {pos' : Pos} {b₀ : Stmt} {suite : List Stmt} {ts : Addr → TS} {C dd : Addr} {s1 : Shared}, X.N.Nodup → X.N[i]? = some n → X.env.kindOf n = some .local → (∀ (a : Addr) (pn : List (Addr × Obj)), PSs (X.suite a pn) (b₀ :: suite) (ts a)) →
      Got X pins σ H a (.ref C) (some dd) s1 → ts a (gone i D) (σ.set i (some (.ref a))) (upd H a (EvO C dd a)) →
      codeAny (model X.prog X.w) (X.A.mark (some (.ref a))) (.handlers (.ref a) [.ExceptHandler none (some n) (b₀ :: suite) pos'] X.env)
        (fun r s₂ => match r with
          | .ok f => (match (some n : Option Str) with
            | none => SP X pins D f s₂
            | some n => wpAny (model X.prog X.w) X.A (do bindName X.env n .none; unbindBehindTheSuite X.env n pos') (fun _ s₃ => SP X pins D f s₃) X.xe s₂)
          | .error x => cameBackBy (model X.prog X.w) X.A X.env X.xe x s₂) s1 := by
    intro n i pos' b₀ suite ts C dd s1 hN hi hl hsu g1 w
    refine codeAny_handlers_suite_as (g1.land fun s4 g4 => ?_)
    refine store_ok (X := X.suite a (X.pn ++ pins)) (v := .ref a) (g4.held hs hf hx) hN hi (.inl hl) rfl (fun s5 S5 => ?_) (.inr hl)
    exact wpAny_mono ((hsu a _).run [] _ _ _ (gone i D) S5 w) (fun fl s6 q => sp_gone hN hi hl (sp_unheld q ok)) fun _ _ z => z.elim
  cases k with
  | one hN hi hl hc hsu =>
    cases b with
    | true =>
      obtain ⟨C, dd, rfl, rfl, w⟩ := yes rfl
      exact wpAny_handleBy_cons (g.test hf hc (exm1 hb) (suite hN hi hl hsu g w)) (nofun)
    | false => exact wpAny_handleBy_cons (g.test hf hc (exm1 hb) (no rfl s g)) (nofun)
  | two hN hi hl h1 h2 hsu =>
    cases b with
    | true =>
      obtain ⟨C, dd, rfl, rfl, w⟩ := yes rfl
      exact wpAny_handleBy_cons (g.test2 hf h1 h2 hb fun s' g' => suite hN hi hl hsu g' w) (nofun)
    | false => exact wpAny_handleBy_cons (g.test2 hf h1 h2 hb fun s' g' => no rfl s' g') (nofun)
theorem clausesE_run {hds : List ExceptHandler} {l : List (List Value × ClE)} {D : Ends} {cls : Value} {d : Option Addr} (k : ClausesE X hds l) (hs : X.stack = X.env :: X.outer) (hf : X.env.frame = some X.env.locals) (hx : X.ex = []) :
    ∀ s, Got X pins σ H a cls d s → wClE X.K D l cls d σ H → wpAny (model X.prog X.w) X.A (handleBy (.ref a) X.env hds) (SP X pins D) X.xe s := by
  induction k with
  | nil => exact fun s g w => w.elim
  | cons c r ih =>
    rintro s g (⟨e, C, dd, e1, e2, w⟩ | ⟨e, w⟩)
    · exact clauseE_go c hs hf hx g e (fun _ => ⟨C, dd, e1, e2, w a g.na⟩) (fun z => nomatch z)
    · exact clauseE_go c hs hf hx g e (fun z => nomatch z) (fun _ s' g' => ih s' g' w)
end
/-- try: body, with such clauses -/
theorem ps_try_held {X : Cx} {body : List Stmt} {h₀ : ExceptHandler} {hds : List ExceptHandler} {l : List (List Value × ClE)} {pos : Pos} {tb : WX → TS} (hs : X.stack = X.env :: X.outer) (hf : X.env.frame = some X.env.locals) (hx : X.ex = [])
    (hb : ∀ (W : WX) (pn : List (Addr × Obj)) (xe : Value → Shared → Prop), Takes (X.tr pn xe) W → PassesOwn (model X.prog X.w) X.A X.env xe → PSs (X.tr pn xe) body (tb W))
    (k : ClausesE X (h₀ :: hds) l) : PS X (.Try body (h₀ :: hds) [] [] pos) (fun D σ H => tb (wClE X.K D l) D σ H) := by
  refine ⟨fun pins s σ H D I h => wpAny_Try_except ?_⟩
  have ok := I.ok
  have run := (hb (wClE X.K D l) (X.pn ++ pins) (caught X pins D (h₀ :: hds)) (fun u s' xx => ?_) PassesOwn.looking).run [] s σ H D (I.toTry _) h
  · refine wpAny_mono run (fun f s1 q => ?_) (fun e s1 he => he)
    have q' := sp_try q ok
    cases f with
    | next => exact wpAny_execs_nil q'
    | _ => exact q'
  · obtain ⟨a, B, t, _, σ1, H1, cls, d, rfl, J, nb, up, sky, na, os, ag, w⟩ := xx
    refine Sky.land Zc.steady (ok.frames.trans (congrArg some hs)) hf (hs ▸ sky) fun h3 f3 u3 => ?_
    exact clausesE_run k hs hf hx _ ⟨⟨B, t, J.ofTry ok, nb, up.trans u3, f3, os, ag⟩, na⟩ w
end Lv

/-! two lists of the same flat items -/
namespace Lv
open PySem PySem.Spec PyProof.Rows L2
/-- x != y, two lists with the same flat items -/
def rNeS (K : PySem.W.Frag) : R2 := fun x y H Q => ∃ (a b : Addr) (xs : List V), x = .ref a ∧ y = .ref b ∧ SqL K H a xs ∧ SqL K H b xs ∧ xs.all flatB = true ∧ Q (.bl false) H
theorem same_items {A : Around} {s : Shared} : ∀ {xs : List V} {us ws : List Value}, Vals xs us → Vals xs ws → xs.all flatB = true → ∀ j (h1 : j < us.length) (h2 : j < ws.length), SeqAt.EqAt A s us[j] ws[j] true
  | _, _, _, .nil, .nil, _, j, h1, _ => absurd h1 (Nat.not_lt_zero j)
  | _, _, _, .cons a r, .cons b t, f, j, h1, h2 => by
    rw [List.all_cons, Bool.and_eq_true] at f
    cases j with
    | zero => exact eqAt_same a b f.1
    | succ j => exact same_items r t f.2 j (Nat.lt_of_succ_lt_succ h1) (Nat.lt_of_succ_lt_succ h2)
theorem op_neS {X : Cx} (hu : X.A.units + 64 < cLine) : OpR X (compareOp .NotEq) (rNeS X.K) := by
  intro pins s σ H x y v u Q I rx ry h
  obtain ⟨a, b, xs, rfl, rfl, ha, hb, f, q⟩ := h
  cases (show v = Value.ref a from rx)
  cases (show u = Value.ref b from ry)
  obtain ⟨us, r1, p1, _⟩ := I.list ha
  obtain ⟨ws, r2, p2, _⟩ := I.list hb
  have hsz : us.toArray.size = ws.toArray.size := by rw [List.size_toArray, List.size_toArray, ← r1.length, ← r2.length]
  refine SeqAt.RcNeAt.lists (e := fun _ => true) p1.isList p2.isList hsz (by omega) (fun j h1 h2 => ?_) X.prog X.w _ _ ?_
  · have k := same_items (A := X.A.in1) (s := s) r1 r2 f j (by simpa using h1) (by simpa using h2)
    simpa using k
  · rw [show ((List.range us.toArray.size).all fun _ => true) = true from List.all_eq_true.mpr fun _ _ => rfl]
    exact ⟨.bl false, H, I, rfl, q⟩
end Lv

namespace K00
open PySem PySem.Spec PyProof.Rows L2 Lv
def P : Program := PySem.Challenge.pw_laterivals_k00_errors_and_what_they_keep
def topS (i : Nat) : Stmt := PySem.Challenge.pw_laterivals_k00_errors_and_what_they_keep.main.body.getD i (.Pass ⟨0, 0, 0, 0⟩)
abbrev s_law_dice : Stmt := topS 15
abbrev s_law_roll : Stmt := topS 16
abbrev s_law_pick : Stmt := topS 17
abbrev s_law_told : Stmt := topS 18
abbrev s_law_keeper : Stmt := topS 19
abbrev s_law_kept : Stmt := topS 20
abbrev s_law_kinds : Stmt := topS 21
abbrev s_law_python : Stmt := topS 22
abbrev s_law_truths : Stmt := topS 23
abbrev s_law_raise : Stmt := topS 24
abbrev s_law_caught : Stmt := topS 25
abbrev s_law_word : Stmt := topS 26
abbrev s_law_value : Stmt := topS 27
abbrev s_law_messages_right : Stmt := topS 28
abbrev s_law_keepers_right : Stmt := topS 29
abbrev s_law : Stmt := topS 30
theorem sc_law_dice : FnScope ["_law_script", "_law_spot", "_law_cell", "_law_whole"] ["_law_script", "_law_spot"] (defScope s_law_dice) :=
  ⟨rfl, rfl, rfl, by decide +kernel, rfl, by decide +kernel, by decide +kernel⟩
theorem sc_law_roll : FnScope ["_law_dice_here", "_law_upto", "_law_found", "_law_one", "_law_two"] ["_law_dice_here", "_law_upto"] (defScope s_law_roll) :=
  ⟨rfl, rfl, rfl, by decide +kernel, rfl, by decide +kernel, by decide +kernel⟩
theorem sc_law_pick : FnScope ["_law_dice_here", "_law_items"] ["_law_dice_here", "_law_items"] (defScope s_law_pick) :=
  ⟨rfl, rfl, rfl, by decide +kernel, rfl, by decide +kernel, by decide +kernel⟩
theorem sc_law_told : FnScope ["_law_at", "_law_text"] ["_law_at", "_law_text"] (defScope s_law_told) :=
  ⟨rfl, rfl, rfl, by decide +kernel, rfl, by decide +kernel, by decide +kernel⟩
theorem sc_law_keeper : FnScope ["_law_at", "_law_kept_here"] ["_law_at", "_law_kept_here"] (defScope s_law_keeper) :=
  ⟨rfl, rfl, rfl, by decide +kernel, rfl, by decide +kernel, by decide +kernel⟩
theorem sc_law_kept : FnScope ["_law_at", "_law_found"] ["_law_at", "_law_found"] (defScope s_law_kept) :=
  ⟨rfl, rfl, rfl, by decide +kernel, rfl, by decide +kernel, by decide +kernel⟩
theorem sc_law_kinds : FnScope ["_law_found", "_law_told_here"] ["_law_found"] (defScope s_law_kinds) :=
  ⟨rfl, rfl, rfl, by decide +kernel, rfl, by decide +kernel, by decide +kernel⟩
theorem sc_law_python : FnScope ["_law_found", "_law_told_here"] ["_law_found"] (defScope s_law_python) :=
  ⟨rfl, rfl, rfl, by decide +kernel, rfl, by decide +kernel, by decide +kernel⟩
theorem sc_law_truths : FnScope ["_law_places", "_law_length", "_law_at"] ["_law_places", "_law_length"] (defScope s_law_truths) :=
  ⟨rfl, rfl, rfl, by decide +kernel, rfl, by decide +kernel, by decide +kernel⟩
theorem sc_law_raise : FnScope ["_law_at", "_law_kept_here"] ["_law_at", "_law_kept_here"] (defScope s_law_raise) :=
  ⟨rfl, rfl, rfl, by decide +kernel, rfl, by decide +kernel, by decide +kernel⟩
theorem sc_law_caught : FnScope ["_law_at", "_law_kept_here", "e"] ["_law_at", "_law_kept_here"] (defScope s_law_caught) :=
  ⟨rfl, rfl, rfl, by decide +kernel, rfl, by decide +kernel, by decide +kernel⟩
theorem sc_law_word : FnScope ["_law_dice_here", "_law_signs", "_law_turn"] ["_law_dice_here"] (defScope s_law_word) :=
  ⟨rfl, rfl, rfl, by decide +kernel, rfl, by decide +kernel, by decide +kernel⟩
theorem sc_law_value : FnScope ["_law_dice_here", "_law_number", "_law_some"] ["_law_dice_here"] (defScope s_law_value) :=
  ⟨rfl, rfl, rfl, by decide +kernel, rfl, by decide +kernel, by decide +kernel⟩
theorem sc_law_messages_right : FnScope ["_law_dice_here", "_law_at", "_law_found"] ["_law_dice_here"] (defScope s_law_messages_right) :=
  ⟨rfl, rfl, rfl, by decide +kernel, rfl, by decide +kernel, by decide +kernel⟩
theorem sc_law_keepers_right : FnScope ["_law_dice_here", "_law_python_here", "_law_words", "_law_at", "_law_kept_here", "_law_later", "_law_found", "_law_other"] ["_law_dice_here"] (defScope s_law_keepers_right) :=
  ⟨rfl, rfl, rfl, by decide +kernel, rfl, by decide +kernel, by decide +kernel⟩
theorem sc_law : FnScope ["_law_script", "_law_spot", "_law_dice_here"] ["_law_script"] (defScope s_law) :=
  ⟨rfl, rfl, rfl, by decide +kernel, rfl, by decide +kernel, by decide +kernel⟩
/-- where the text's defs and constants stand; which names are still built-in -/
structure Tx (K : PySem.W.Frag) (mg : Str → Option Value) where
  f__law_dice : Addr
  d__law_dice : FuncData
  F__law_dice : Fun K "_law_dice" "_law_dice" s_law_dice f__law_dice d__law_dice
  b__law_dice : Binds K d__law_dice ["_law_script", "_law_spot"] []
  g__law_dice : mg "_law_dice" = some (.ref f__law_dice)
  f__law_roll : Addr
  d__law_roll : FuncData
  F__law_roll : Fun K "_law_roll" "_law_roll" s_law_roll f__law_roll d__law_roll
  b__law_roll : Binds K d__law_roll ["_law_dice_here", "_law_upto"] []
  g__law_roll : mg "_law_roll" = some (.ref f__law_roll)
  f__law_pick : Addr
  d__law_pick : FuncData
  F__law_pick : Fun K "_law_pick" "_law_pick" s_law_pick f__law_pick d__law_pick
  b__law_pick : Binds K d__law_pick ["_law_dice_here", "_law_items"] []
  g__law_pick : mg "_law_pick" = some (.ref f__law_pick)
  f__law_told : Addr
  d__law_told : FuncData
  F__law_told : Fun K "_law_told" "_law_told" s_law_told f__law_told d__law_told
  b__law_told : Binds K d__law_told ["_law_at", "_law_text"] []
  g__law_told : mg "_law_told" = some (.ref f__law_told)
  f__law_keeper : Addr
  d__law_keeper : FuncData
  F__law_keeper : Fun K "_law_keeper" "_law_keeper" s_law_keeper f__law_keeper d__law_keeper
  b__law_keeper : Binds K d__law_keeper ["_law_at", "_law_kept_here"] []
  g__law_keeper : mg "_law_keeper" = some (.ref f__law_keeper)
  f__law_kept : Addr
  d__law_kept : FuncData
  F__law_kept : Fun K "_law_kept" "_law_kept" s_law_kept f__law_kept d__law_kept
  b__law_kept : Binds K d__law_kept ["_law_at", "_law_found"] []
  g__law_kept : mg "_law_kept" = some (.ref f__law_kept)
  f__law_kinds : Addr
  d__law_kinds : FuncData
  F__law_kinds : Fun K "_law_kinds" "_law_kinds" s_law_kinds f__law_kinds d__law_kinds
  b__law_kinds : Binds K d__law_kinds ["_law_found"] []
  g__law_kinds : mg "_law_kinds" = some (.ref f__law_kinds)
  f__law_python : Addr
  d__law_python : FuncData
  F__law_python : Fun K "_law_python" "_law_python" s_law_python f__law_python d__law_python
  b__law_python : Binds K d__law_python ["_law_found"] []
  g__law_python : mg "_law_python" = some (.ref f__law_python)
  f__law_truths : Addr
  d__law_truths : FuncData
  F__law_truths : Fun K "_law_truths" "_law_truths" s_law_truths f__law_truths d__law_truths
  b__law_truths : Binds K d__law_truths ["_law_places", "_law_length"] []
  g__law_truths : mg "_law_truths" = some (.ref f__law_truths)
  f__law_raise : Addr
  d__law_raise : FuncData
  F__law_raise : Fun K "_law_raise" "_law_raise" s_law_raise f__law_raise d__law_raise
  b__law_raise : Binds K d__law_raise ["_law_at", "_law_kept_here"] []
  g__law_raise : mg "_law_raise" = some (.ref f__law_raise)
  f__law_caught : Addr
  d__law_caught : FuncData
  F__law_caught : Fun K "_law_caught" "_law_caught" s_law_caught f__law_caught d__law_caught
  b__law_caught : Binds K d__law_caught ["_law_at", "_law_kept_here"] []
  g__law_caught : mg "_law_caught" = some (.ref f__law_caught)
  f__law_word : Addr
  d__law_word : FuncData
  F__law_word : Fun K "_law_word" "_law_word" s_law_word f__law_word d__law_word
  b__law_word : Binds K d__law_word ["_law_dice_here"] []
  g__law_word : mg "_law_word" = some (.ref f__law_word)
  f__law_value : Addr
  d__law_value : FuncData
  F__law_value : Fun K "_law_value" "_law_value" s_law_value f__law_value d__law_value
  b__law_value : Binds K d__law_value ["_law_dice_here"] []
  g__law_value : mg "_law_value" = some (.ref f__law_value)
  f__law_messages_right : Addr
  d__law_messages_right : FuncData
  F__law_messages_right : Fun K "_law_messages_right" "_law_messages_right" s_law_messages_right f__law_messages_right d__law_messages_right
  b__law_messages_right : Binds K d__law_messages_right ["_law_dice_here"] []
  g__law_messages_right : mg "_law_messages_right" = some (.ref f__law_messages_right)
  f__law_keepers_right : Addr
  d__law_keepers_right : FuncData
  F__law_keepers_right : Fun K "_law_keepers_right" "_law_keepers_right" s_law_keepers_right f__law_keepers_right d__law_keepers_right
  b__law_keepers_right : Binds K d__law_keepers_right ["_law_dice_here"] []
  g__law_keepers_right : mg "_law_keepers_right" = some (.ref f__law_keepers_right)
  f_law : Addr
  d_law : FuncData
  F_law : Fun K "law" "law" s_law f_law d_law
  b_law : Binds K d_law ["_law_script"] []
  g_law : mg "law" = some (.ref f_law)
  n_ArithmeticError : mg "ArithmeticError" = none
  n_IndexError : mg "IndexError" = none
  n_KeyError : mg "KeyError" = none
  n_LookupError : mg "LookupError" = none
  n_OverflowError : mg "OverflowError" = none
  n_RuntimeError : mg "RuntimeError" = none
  n_ValueError : mg "ValueError" = none
  n_ZeroDivisionError : mg "ZeroDivisionError" = none
  n_abs : mg "abs" = none
  n_int : mg "int" = none
  n_isinstance : mg "isinstance" = none
  n_len : mg "len" = none
  n_max : mg "max" = none
  n_min : mg "min" = none
  n_range : mg "range" = none
  n_repr : mg "repr" = none
  C_InvalidWord : Addr
  m_InvalidWord : mg "InvalidWord" = some (.ref C_InvalidWord)
  C_InvalidLibrary : Addr
  m_InvalidLibrary : mg "InvalidLibrary" = some (.ref C_InvalidLibrary)
  C_InvalidCall : Addr
  m_InvalidCall : mg "InvalidCall" = some (.ref C_InvalidCall)
  C_InvalidProgram : Addr
  m_InvalidProgram : mg "InvalidProgram" = some (.ref C_InvalidProgram)
  C_InvalidOperation : Addr
  m_InvalidOperation : mg "InvalidOperation" = some (.ref C_InvalidOperation)
  C_ParseError : Addr
  m_ParseError : mg "ParseError" = some (.ref C_ParseError)
  C_UnknownName : Addr
  m_UnknownName : mg "UnknownName" = some (.ref C_UnknownName)
  C_UnknownPart : Addr
  m_UnknownPart : mg "UnknownPart" = some (.ref C_UnknownPart)
  C_NothingToUndo : Addr
  m_NothingToUndo : mg "NothingToUndo" = some (.ref C_NothingToUndo)
  C_TooMany : Addr
  m_TooMany : mg "TooMany" = some (.ref C_TooMany)
  C_Refused : Addr
  m_Refused : mg "Refused" = some (.ref C_Refused)
  C_InvalidNumber : Addr
  m_InvalidNumber : mg "InvalidNumber" = some (.ref C_InvalidNumber)
  C_RivalError : Addr
  m_RivalError : mg "RivalError" = some (.ref C_RivalError)
  x_InvalidWord : XCl K mg "InvalidWord" C_InvalidWord
  x_InvalidLibrary : XCl K mg "InvalidLibrary" C_InvalidLibrary
  x_InvalidCall : XCl K mg "InvalidCall" C_InvalidCall
  x_InvalidProgram : XCl K mg "InvalidProgram" C_InvalidProgram
  x_InvalidOperation : XCl K mg "InvalidOperation" C_InvalidOperation
  x_RivalError : XCl K mg "RivalError" C_RivalError
  fI_ParseError : Addr
  p_ParseError : PySem.PeB.TxB P K mg "ParseError" "ParseError.__init__" "line" "line " " cannot be read" C_ParseError fI_ParseError PySem.PeB.bVE PySem.PeX.iB
  ec_ParseError : ExcC K C_ParseError
  fI_UnknownName : Addr
  p_UnknownName : PySem.PeB.TxB P K mg "UnknownName" "UnknownName.__init__" "name" "" " is not the name of a candidate" C_UnknownName fI_UnknownName PySem.PeB.bKE PySem.PeB.iB1
  ec_UnknownName : ExcC K C_UnknownName
  fI_UnknownPart : Addr
  p_UnknownPart : PySem.PeB.TxB P K mg "UnknownPart" "UnknownPart.__init__" "name" "" " is not the name of a part" C_UnknownPart fI_UnknownPart PySem.PeB.bLE PySem.PeB.iB1
  ec_UnknownPart : ExcC K C_UnknownPart
  fI_NothingToUndo : Addr
  p_NothingToUndo : PySem.PeB.TxB P K mg "NothingToUndo" "NothingToUndo.__init__" "many" "there are not " " deeds to take back" C_NothingToUndo fI_NothingToUndo PySem.PeB.bIE PySem.PeX.iB
  ec_NothingToUndo : ExcC K C_NothingToUndo
  fI_TooMany : Addr
  p_TooMany : PySem.PeB.TxB P K mg "TooMany" "TooMany.__init__" "limit" "there are more than " "" C_TooMany fI_TooMany PySem.PeB.bOE PySem.PeB.iB2
  ec_TooMany : ExcC K C_TooMany
  fI_Refused : Addr
  p_Refused : PySem.PeB.TxB P K mg "Refused" "Refused.__init__" "call" "the call " " would be changed" C_Refused fI_Refused PySem.PeB.bAE PySem.PeX.iB
  ec_Refused : ExcC K C_Refused
  fI_InvalidNumber : Addr
  p_InvalidNumber : PySem.PeB.TxB P K mg "InvalidNumber" "InvalidNumber.__init__" "value" "" " is not a number in the range" C_InvalidNumber fI_InvalidNumber PySem.PeB.bRE PySem.PeB.iB1
  ec_InvalidNumber : ExcC K C_InvalidNumber
  kt_InvalidWord : List.map (PySem.W.kitOne K (.ref C_InvalidWord)) [.ref C_InvalidWord, .ref C_InvalidLibrary, .ref C_InvalidCall, .ref C_InvalidProgram, .ref C_InvalidOperation, .ref C_ParseError, .ref C_UnknownName, .ref C_UnknownPart, .ref C_NothingToUndo, .ref C_TooMany, .ref C_Refused, .ref C_InvalidNumber, .ref C_RivalError, .type "ValueError", .type "KeyError", .type "IndexError", .type "LookupError", .type "ZeroDivisionError", .type "OverflowError", .type "ArithmeticError", .type "RuntimeError"] = [some true, some false, some false, some false, some false, some false, some false, some false, some false, some false, some false, some false, some true, some true, some false, some false, some false, some false, some false, some false, some false]
  kt_InvalidLibrary : List.map (PySem.W.kitOne K (.ref C_InvalidLibrary)) [.ref C_InvalidWord, .ref C_InvalidLibrary, .ref C_InvalidCall, .ref C_InvalidProgram, .ref C_InvalidOperation, .ref C_ParseError, .ref C_UnknownName, .ref C_UnknownPart, .ref C_NothingToUndo, .ref C_TooMany, .ref C_Refused, .ref C_InvalidNumber, .ref C_RivalError, .type "ValueError", .type "KeyError", .type "IndexError", .type "LookupError", .type "ZeroDivisionError", .type "OverflowError", .type "ArithmeticError", .type "RuntimeError"] = [some false, some true, some false, some false, some false, some false, some false, some false, some false, some false, some false, some false, some true, some true, some false, some false, some false, some false, some false, some false, some false]
  kt_InvalidCall : List.map (PySem.W.kitOne K (.ref C_InvalidCall)) [.ref C_InvalidWord, .ref C_InvalidLibrary, .ref C_InvalidCall, .ref C_InvalidProgram, .ref C_InvalidOperation, .ref C_ParseError, .ref C_UnknownName, .ref C_UnknownPart, .ref C_NothingToUndo, .ref C_TooMany, .ref C_Refused, .ref C_InvalidNumber, .ref C_RivalError, .type "ValueError", .type "KeyError", .type "IndexError", .type "LookupError", .type "ZeroDivisionError", .type "OverflowError", .type "ArithmeticError", .type "RuntimeError"] = [some false, some false, some true, some false, some false, some false, some false, some false, some false, some false, some false, some false, some true, some true, some false, some false, some false, some false, some false, some false, some false]
  kt_InvalidProgram : List.map (PySem.W.kitOne K (.ref C_InvalidProgram)) [.ref C_InvalidWord, .ref C_InvalidLibrary, .ref C_InvalidCall, .ref C_InvalidProgram, .ref C_InvalidOperation, .ref C_ParseError, .ref C_UnknownName, .ref C_UnknownPart, .ref C_NothingToUndo, .ref C_TooMany, .ref C_Refused, .ref C_InvalidNumber, .ref C_RivalError, .type "ValueError", .type "KeyError", .type "IndexError", .type "LookupError", .type "ZeroDivisionError", .type "OverflowError", .type "ArithmeticError", .type "RuntimeError"] = [some false, some false, some false, some true, some false, some false, some false, some false, some false, some false, some false, some false, some true, some true, some false, some false, some false, some false, some false, some false, some false]
  kt_InvalidOperation : List.map (PySem.W.kitOne K (.ref C_InvalidOperation)) [.ref C_InvalidWord, .ref C_InvalidLibrary, .ref C_InvalidCall, .ref C_InvalidProgram, .ref C_InvalidOperation, .ref C_ParseError, .ref C_UnknownName, .ref C_UnknownPart, .ref C_NothingToUndo, .ref C_TooMany, .ref C_Refused, .ref C_InvalidNumber, .ref C_RivalError, .type "ValueError", .type "KeyError", .type "IndexError", .type "LookupError", .type "ZeroDivisionError", .type "OverflowError", .type "ArithmeticError", .type "RuntimeError"] = [some false, some false, some false, some false, some true, some false, some false, some false, some false, some false, some false, some false, some true, some true, some false, some false, some false, some false, some false, some false, some false]
  kt_ParseError : List.map (PySem.W.kitOne K (.ref C_ParseError)) [.ref C_InvalidWord, .ref C_InvalidLibrary, .ref C_InvalidCall, .ref C_InvalidProgram, .ref C_InvalidOperation, .ref C_ParseError, .ref C_UnknownName, .ref C_UnknownPart, .ref C_NothingToUndo, .ref C_TooMany, .ref C_Refused, .ref C_InvalidNumber, .ref C_RivalError, .type "ValueError", .type "KeyError", .type "IndexError", .type "LookupError", .type "ZeroDivisionError", .type "OverflowError", .type "ArithmeticError", .type "RuntimeError"] = [some false, some false, some false, some false, some false, some true, some false, some false, some false, some false, some false, some false, some true, some true, some false, some false, some false, some false, some false, some false, some false]
  kt_UnknownName : List.map (PySem.W.kitOne K (.ref C_UnknownName)) [.ref C_InvalidWord, .ref C_InvalidLibrary, .ref C_InvalidCall, .ref C_InvalidProgram, .ref C_InvalidOperation, .ref C_ParseError, .ref C_UnknownName, .ref C_UnknownPart, .ref C_NothingToUndo, .ref C_TooMany, .ref C_Refused, .ref C_InvalidNumber, .ref C_RivalError, .type "ValueError", .type "KeyError", .type "IndexError", .type "LookupError", .type "ZeroDivisionError", .type "OverflowError", .type "ArithmeticError", .type "RuntimeError"] = [some false, some false, some false, some false, some false, some false, some true, some false, some false, some false, some false, some false, some false, some false, some true, some false, some true, some false, some false, some false, some false]
  kt_UnknownPart : List.map (PySem.W.kitOne K (.ref C_UnknownPart)) [.ref C_InvalidWord, .ref C_InvalidLibrary, .ref C_InvalidCall, .ref C_InvalidProgram, .ref C_InvalidOperation, .ref C_ParseError, .ref C_UnknownName, .ref C_UnknownPart, .ref C_NothingToUndo, .ref C_TooMany, .ref C_Refused, .ref C_InvalidNumber, .ref C_RivalError, .type "ValueError", .type "KeyError", .type "IndexError", .type "LookupError", .type "ZeroDivisionError", .type "OverflowError", .type "ArithmeticError", .type "RuntimeError"] = [some false, some false, some false, some false, some false, some false, some false, some true, some false, some false, some false, some false, some false, some false, some false, some false, some true, some false, some false, some false, some false]
  kt_NothingToUndo : List.map (PySem.W.kitOne K (.ref C_NothingToUndo)) [.ref C_InvalidWord, .ref C_InvalidLibrary, .ref C_InvalidCall, .ref C_InvalidProgram, .ref C_InvalidOperation, .ref C_ParseError, .ref C_UnknownName, .ref C_UnknownPart, .ref C_NothingToUndo, .ref C_TooMany, .ref C_Refused, .ref C_InvalidNumber, .ref C_RivalError, .type "ValueError", .type "KeyError", .type "IndexError", .type "LookupError", .type "ZeroDivisionError", .type "OverflowError", .type "ArithmeticError", .type "RuntimeError"] = [some false, some false, some false, some false, some false, some false, some false, some false, some true, some false, some false, some false, some false, some false, some false, some true, some true, some false, some false, some false, some false]
  kt_TooMany : List.map (PySem.W.kitOne K (.ref C_TooMany)) [.ref C_InvalidWord, .ref C_InvalidLibrary, .ref C_InvalidCall, .ref C_InvalidProgram, .ref C_InvalidOperation, .ref C_ParseError, .ref C_UnknownName, .ref C_UnknownPart, .ref C_NothingToUndo, .ref C_TooMany, .ref C_Refused, .ref C_InvalidNumber, .ref C_RivalError, .type "ValueError", .type "KeyError", .type "IndexError", .type "LookupError", .type "ZeroDivisionError", .type "OverflowError", .type "ArithmeticError", .type "RuntimeError"] = [some false, some false, some false, some false, some false, some false, some false, some false, some false, some true, some false, some false, some false, some false, some false, some false, some false, some false, some true, some true, some false]
  kt_Refused : List.map (PySem.W.kitOne K (.ref C_Refused)) [.ref C_InvalidWord, .ref C_InvalidLibrary, .ref C_InvalidCall, .ref C_InvalidProgram, .ref C_InvalidOperation, .ref C_ParseError, .ref C_UnknownName, .ref C_UnknownPart, .ref C_NothingToUndo, .ref C_TooMany, .ref C_Refused, .ref C_InvalidNumber, .ref C_RivalError, .type "ValueError", .type "KeyError", .type "IndexError", .type "LookupError", .type "ZeroDivisionError", .type "OverflowError", .type "ArithmeticError", .type "RuntimeError"] = [some false, some false, some false, some false, some false, some false, some false, some false, some false, some false, some true, some false, some false, some false, some false, some false, some false, some false, some false, some true, some false]
  kt_InvalidNumber : List.map (PySem.W.kitOne K (.ref C_InvalidNumber)) [.ref C_InvalidWord, .ref C_InvalidLibrary, .ref C_InvalidCall, .ref C_InvalidProgram, .ref C_InvalidOperation, .ref C_ParseError, .ref C_UnknownName, .ref C_UnknownPart, .ref C_NothingToUndo, .ref C_TooMany, .ref C_Refused, .ref C_InvalidNumber, .ref C_RivalError, .type "ValueError", .type "KeyError", .type "IndexError", .type "LookupError", .type "ZeroDivisionError", .type "OverflowError", .type "ArithmeticError", .type "RuntimeError"] = [some false, some false, some false, some false, some false, some false, some false, some false, some false, some false, some false, some true, some false, some false, some false, some false, some false, some false, some false, some false, some true]
  kt_RivalError : List.map (PySem.W.kitOne K (.ref C_RivalError)) [.ref C_InvalidWord, .ref C_InvalidLibrary, .ref C_InvalidCall, .ref C_InvalidProgram, .ref C_InvalidOperation, .ref C_ParseError, .ref C_UnknownName, .ref C_UnknownPart, .ref C_NothingToUndo, .ref C_TooMany, .ref C_Refused, .ref C_InvalidNumber, .ref C_RivalError, .type "ValueError", .type "KeyError", .type "IndexError", .type "LookupError", .type "ZeroDivisionError", .type "OverflowError", .type "ArithmeticError", .type "RuntimeError"] = [some false, some false, some false, some false, some false, some false, some false, some false, some false, some false, some false, some false, some true, some true, some false, some false, some false, some false, some false, some false, some false]
  em_ParseError : List.map (PySem.W.exmOne K (.ref C_ParseError)) [.ref C_RivalError, .ref C_UnknownName, .ref C_TooMany, .ref C_Refused, .ref C_UnknownPart, .ref C_NothingToUndo, .ref C_InvalidNumber] = [some true, some false, some false, some false, some false, some false, some false]
  em_UnknownName : List.map (PySem.W.exmOne K (.ref C_UnknownName)) [.ref C_RivalError, .ref C_UnknownName, .ref C_TooMany, .ref C_Refused, .ref C_UnknownPart, .ref C_NothingToUndo, .ref C_InvalidNumber] = [some false, some true, some false, some false, some false, some false, some false]
  em_UnknownPart : List.map (PySem.W.exmOne K (.ref C_UnknownPart)) [.ref C_RivalError, .ref C_UnknownName, .ref C_TooMany, .ref C_Refused, .ref C_UnknownPart, .ref C_NothingToUndo, .ref C_InvalidNumber] = [some false, some false, some false, some false, some true, some false, some false]
  em_NothingToUndo : List.map (PySem.W.exmOne K (.ref C_NothingToUndo)) [.ref C_RivalError, .ref C_UnknownName, .ref C_TooMany, .ref C_Refused, .ref C_UnknownPart, .ref C_NothingToUndo, .ref C_InvalidNumber] = [some false, some false, some false, some false, some false, some true, some false]
  em_TooMany : List.map (PySem.W.exmOne K (.ref C_TooMany)) [.ref C_RivalError, .ref C_UnknownName, .ref C_TooMany, .ref C_Refused, .ref C_UnknownPart, .ref C_NothingToUndo, .ref C_InvalidNumber] = [some false, some false, some true, some false, some false, some false, some false]
  em_Refused : List.map (PySem.W.exmOne K (.ref C_Refused)) [.ref C_RivalError, .ref C_UnknownName, .ref C_TooMany, .ref C_Refused, .ref C_UnknownPart, .ref C_NothingToUndo, .ref C_InvalidNumber] = [some false, some false, some false, some true, some false, some false, some false]
  em_InvalidNumber : List.map (PySem.W.exmOne K (.ref C_InvalidNumber)) [.ref C_RivalError, .ref C_UnknownName, .ref C_TooMany, .ref C_Refused, .ref C_UnknownPart, .ref C_NothingToUndo, .ref C_InvalidNumber] = [some false, some false, some false, some false, some false, some false, some true]

set_option pp.maxSteps 600
open PySem PySem.Spec PyProof.Rows L2 Lv
local macro_rules | `(tactic| walk_at "rd") => `(tactic| simp only [cxOf, Cx.nox, Cx.wish, tSeq, tIfS, tOr, tAnd, tB, tTest, tCB, tCons, tVar, tC, tNil, tNot, tNotV, tRet, tOp, tUn, tNext, tDrop, tAsg, gName, gSub, gCons, gNil, gSub, gCons, gNil, tYes, wipe, tFor_eq, tLc_eq, iStr, iTup, iList, iRng1, tBM, tBM0, tM0, tM1, tSl, tPart, tNoPart, tDisp, tPairs, tDNewK, rU, and_assoc, tIf, tAndV, tOrV, tChain, tTup, tLst, tCall, tPar, rI0, rI, rEq, rNe, L2.start,
  List.map_cons, List.map_nil, List.length_cons, List.length_nil, Nat.reduceAdd, Nat.reduceSub, Nat.zero_add, Nat.sub_self, Nat.add_one_sub_one, List.replicate_zero, List.replicate_succ, List.append_nil, List.cons_append, List.nil_append, List.set_cons_zero, List.set_cons_succ,
  List.getElem?_cons_zero, List.getElem?_cons_succ, Option.some.injEq, exists_eq_left', exists_eq_left, exists_eq_right, exists_and_left, exists_and_right, V.bl.injEq, V.int.injEq, V.str.injEq, V.ref.injEq, List.cons.injEq, and_true, true_and, Bool.false_eq_true, Bool.true_eq_false, if_true, if_false, ite_true, ite_false, decide_true, decide_false, Bool.not_false, Bool.not_true, if_pos, reduceIte])
local macro_rules | `(tactic| walk_at "kn") => `(tactic| first | exact Kn.non | exact Kn.bl _ | exact Kn.int _ | exact Kn.str _ | exact Kn.lst (by assumption) | exact Kn.tup (by assumption) | exact Kn.dK (by assumption))
local macro_rules | `(tactic| walk_at "isi") => `(tactic| first | refine isi_kn (b := true) (by walk_at "kn") (by decide +kernel) ?_ | refine isi_kn (b := false) (by walk_at "kn") (by decide +kernel) ?_)

section
variable {w : World} {K : PySem.W.Frag} {mg : Str → Option Value} {base : Heap}
theorem ok_law_dice (T : Tx K mg) : FnOk P w K mg base CX0 1 T.f__law_dice T.d__law_dice ["_law_script", "_law_spot"] (sp_law_dice K) := by
  refine T.F__law_dice.ok sc_law_dice (fun vs H Q E h => ?_) (fun cdv A outer s H vs Q E hr h => ?_)
  · obtain ⟨a, ns, k, rfl, _⟩ := h
    rfl
  · obtain ⟨a, ns, k, rfl, hS, hk, q⟩ := h
    refine ⟨_, (pss_cons (ps_set (i := 2) sc_law_dice.nd rfl (Or.inl rfl) (pe_ifExp (pt_cmpR op_lt (pv 1) (pe_callB call_lenQ (by rfl) T.n_len (by decide +kernel) (pa_cons (pv 0) pa_nil)) (nomark _)) (pe_ix ix_list (pv 0) (pv 1) (fun _ _ => rfl)) (pe_op op_add (pe_op op_mul pe_int (pv 1)) pe_int)))
      (pss_cons (ps_set (i := 3) sc_law_dice.nd rfl (Or.inl rfl) (pe_op op_mod (pe_callTy call_intI (by rfl) T.n_int (by decide +kernel) (pa_cons (pe_callB call_abs (by rfl) T.n_abs (by decide +kernel) (pa_cons (pv 2) pa_nil)) pa_nil)) (pe_op op_powW (pe_op op_pow pe_int pe_int) pe_int)))
      (pss_one (ps_ret (pe_lst (pa_cons (pe_ifExp (pt_cmpR op_ge (pv 3) (pe_op op_pow pe_int pe_int) (nomark _)) (pv 3) pe_int) (pa_cons (pe_op op_add (pe_op op_add (pe_op op_add (pe_op op_mul pe_int (pv 3)) (pe_callTy call_intB (by rfl) T.n_int (by decide +kernel) (pa_cons (pe_cmpR op_lt (pv 2) pe_int (nomark _)) pa_nil))) (pe_op op_mul pe_int (pv 1))) pe_int) (pa_cons pe_int pa_nil)))))))), ?_⟩
    walk_at "rd"
    have big : ((10 : Int) ^ Int.toNat 57).natAbs < 2 ^ 192 := by decide +kernel
    have pw : CPowW ((10 : Int) ^ Int.toNat 57) 11 := ⟨by decide, by
      have := bits_le big (by decide)
      omega⟩
    have pos : (0 : Int) < ((10 : Int) ^ Int.toNat 57) ^ Int.toNat 11 := by decide +kernel
    have all : ∀ i : Int, CPow 10 57 ∧ CPowW (10 ^ Int.toNat 57) 11 ∧ 0 < ((10 : Int) ^ Int.toNat 57) ^ Int.toNat 11 ∧ CPow 10 18 := fun i =>
      ⟨⟨by decide, by decide, by decide⟩, pw, pos, ⟨by decide, by decide, by decide⟩⟩
    have m1 : ∀ j : Int, CMul 2 j := fun j => .inl ⟨by decide, by decide⟩
    have m2 : ∀ j : Int, CMul 131071 j := fun j => .inl ⟨by decide, by decide⟩
    refine lenL hS ?_
    walk_at "rd"
    refine ite2 (fun h1 => ?_) (fun h1 => ?_)
    · have h2 : k < ns.length := by
        have := of_decide_eq_true h1
        rw [List.length_map] at this
        omega
      refine ixl_nat hS (by rw [List.getElem?_map, List.getElem?_eq_getElem h2]; rfl) ?_
      walk_at "rd"
      exact ⟨(all 0).1, pw, pos, (all 0).2.2.2, ite2 (fun _ => ⟨m1 _, m2 _, by decide, fun p hp => q p _ _ _ hp⟩) (fun _ => ⟨m1 _, m2 _, by decide, fun p hp => q p _ _ _ hp⟩)⟩
    · exact ⟨.inl ⟨by decide, by decide⟩, (all 0).1, pw, pos, (all 0).2.2.2, ite2 (fun _ => ⟨m1 _, m2 _, by decide, fun p hp => q p _ _ _ hp⟩) (fun _ => ⟨m1 _, m2 _, by decide, fun p hp => q p _ _ _ hp⟩)⟩
theorem ok_law_roll (T : Tx K mg) : FnOk P w K mg base CX0 1 T.f__law_roll T.d__law_roll ["_law_dice_here", "_law_upto"] sp_law_roll := by
  refine T.F__law_roll.ok sc_law_roll (fun vs H Q E h => ?_) (fun cdv A outer s H vs Q E hr h => ?_)
  · obtain ⟨d, n, rfl, _⟩ := h
    rfl
  · obtain ⟨d, n, rfl, h0, h1, ⟨x, y, z, hd⟩, q⟩ := h
    refine ⟨_, (pss_cons (ps_if (pt_cmpR op_gt (pe_ix ix_list (pv 0) pe_int (fun _ _ => rfl)) pe_int (nomark _)) (pss_cons (ps_set (i := 2) sc_law_roll.nd rfl (Or.inl rfl) (pe_op op_mod (pe_callTy call_intI (by rfl) T.n_int (by decide +kernel) (pa_cons (pe_ix ix_list (pv 0) pe_int (fun _ _ => rfl)) pa_nil)) (pv 1)))
      (pss_cons (ps_asg (pe_op op_fdiv (pe_ix ix_list (pv 0) pe_int (fun _ _ => rfl)) (pv 1)) (pg_sub (pv 0) pe_int set_list))
      (pss_one (ps_ret (pv 2))))) pss_nil)
      (pss_cons (ps_asg (pe_op op_add (pe_ix ix_list (pv 0) pe_int (fun _ _ => rfl)) pe_int) (pg_sub (pv 0) pe_int set_list))
      (pss_cons (ps_set (i := 3) sc_law_roll.nd rfl (Or.inl rfl) (pe_op op_mod (pe_callTy call_intI (by rfl) T.n_int (by decide +kernel) (pa_cons (pe_op op_add (pe_op op_mul (pe_ix ix_list (pv 0) pe_int (fun _ _ => rfl)) pe_int) (pe_op op_mul (pe_ix ix_list (pv 0) pe_int (fun _ _ => rfl)) pe_int)) pa_nil)) pe_int))
      (pss_cons (ps_set (i := 4) sc_law_roll.nd rfl (Or.inl rfl) (pe_op op_mod (pe_callTy call_intI (by rfl) T.n_int (by decide +kernel) (pa_cons (pe_op op_add (pe_op op_mul (pv 3) (pv 3)) (pe_op op_mul (pe_ix ix_list (pv 0) pe_int (fun _ _ => rfl)) pe_int)) pa_nil)) pe_int))
      (pss_one (ps_ret (pe_op op_mod (pe_callTy call_intI (by rfl) T.n_int (by decide +kernel) (pa_cons (pe_op op_fdiv (pe_op op_mod (pe_callTy call_intI (by rfl) T.n_int (by decide +kernel) (pa_cons (pe_op op_add (pe_op op_mul (pv 4) (pv 4)) (pv 3)) pa_nil)) pe_int) pe_int) pa_nil)) (pv 1)))))))), ?_⟩
    walk_at "rd"
    have b1 := Int.emod_nonneg
    refine ixl (.inl (.inl hd)) rfl ?_
    walk_at "rd"
    refine ite2 (fun hx => ?_) (fun hx => ?_)
    · refine ixl (.inl (.inl hd)) rfl ?_
      walk_at "rd"
      refine ⟨h0, ixl (.inl (.inl hd)) rfl ?_⟩
      walk_at "rd"
      refine ⟨⟨h0, h1⟩, setl hd rfl ?_⟩
      exact q _ _ _ _ (Int.emod_nonneg _ (by omega)) (Int.emod_lt_of_pos _ h0)
    · refine ixl (.inl (.inl hd)) rfl ?_
      walk_at "rd"
      refine setl hd rfl ?_
      refine ixl (.inl (.inl upd_same)) rfl ?_
      walk_at "rd"
      refine ⟨.inr ⟨by decide, by decide⟩, ixl (.inl (.inl upd_same)) rfl ?_⟩
      walk_at "rd"
      refine ⟨.inr ⟨by decide, by decide⟩, by decide, ?_⟩
      generalize hone : (y * 25214903917 + (z + 1) * 40692) % 2305843009213693951 = one
      have o1 : 0 ≤ one := hone ▸ Int.emod_nonneg _ (by decide)
      have o2 : one < 2305843009213693951 := hone ▸ Int.emod_lt_of_pos _ (by decide)
      refine ⟨.inl ⟨by omega, by omega⟩, ixl (.inl (.inl upd_same)) rfl ?_⟩
      walk_at "rd"
      refine ⟨.inr ⟨by decide, by decide⟩, by decide, ?_⟩
      generalize htwo : (one * one + (z + 1) * 69621) % 1152921504606846883 = two
      have t1 : 0 ≤ two := htwo ▸ Int.emod_nonneg _ (by decide)
      have t2 : two < 1152921504606846883 := htwo ▸ Int.emod_lt_of_pos _ (by decide)
      refine ⟨.inl ⟨by omega, by omega⟩, by decide, ⟨by decide, by decide⟩, h0, ?_⟩
      exact q _ _ _ _ (Int.emod_nonneg _ (by omega)) (Int.emod_lt_of_pos _ h0)
theorem ok_law_pick (T : Tx K mg) : FnOk P w K mg base CX0 2 T.f__law_pick T.d__law_pick ["_law_dice_here", "_law_items"] (sp_law_pick K) := by
  refine T.F__law_pick.ok sc_law_pick (fun vs H Q E h => ?_) (fun cdv A outer s H vs Q E hr h => ?_)
  · obtain ⟨d, v, rfl, _⟩ := h
    rfl
  · obtain ⟨d, v, rfl, hd, h⟩ := h
    refine ⟨_, (pss_one (ps_ret (pe_ix ix_seq (pv 1) (pe_call (ok_law_roll T) (hr.mono (by decide)) (by rfl) T.g__law_roll T.F__law_roll.kp T.b__law_roll .nil pass0 (pa_cons (pv 0) (pa_cons (pe_callB call_len (by rfl) T.n_len (by decide +kernel) (pa_cons (pv 1) pa_nil)) pa_nil))) (fun _ _ => rfl)))), ?_⟩
    walk_at "rd"
    rcases h with ⟨p, xs, rfl, ne, hS, hne, hlen, q⟩ | ⟨z, rfl, hz, h0, h1, q⟩
    · have hpos : 0 < xs.length := List.length_pos_iff.mpr hne
      refine ⟨xs.length, .inl ⟨xs, hS, rfl⟩, d, _, rfl, by omega, by omega, hd, fun r x y z r0 r1 => ?_⟩
      obtain ⟨j, rfl⟩ := Int.eq_ofNat_of_zero_le r0
      have hj : j < xs.length := by omega
      have g : Gr d H _ := Gr.roll (x := x) (y := y) (z := z) hd
      exact .inl ⟨p, xs, _, xs[j], rfl, rfl, g.sql ne hS, atI_nat (List.getElem?_eq_getElem hj), q _ _ (List.getElem_mem hj) g⟩
    · refine ⟨z.length, ⟨hz, rfl⟩, d, _, rfl, by omega, by omega, hd, fun r x y z' r0 r1 => ?_⟩
      obtain ⟨j, rfl⟩ := Int.eq_ofNat_of_zero_le r0
      have hj : j < z.cps.toList.length := by
        have : (j : Int) < (z.cps.size : Nat) := r1
        rw [Array.length_toList]
        omega
      have g : Gr d H _ := Gr.roll (x := x) (y := y) (z := z') hd
      exact .inr (.inr ⟨z, _, z.cps.toList[j], rfl, rfl, hz, atI_nat (List.getElem?_eq_getElem hj), q _ _ (List.getElem_mem hj) g⟩)
theorem kp_ParseError (T : Tx K mg) : PySem.PeB.Kp P w K mg "ParseError" T.C_ParseError "line" := .of_line PySem.PeB.okVE T.p_ParseError (by decide) (by decide)
theorem kp_UnknownName (T : Tx K mg) : PySem.PeB.Kp P w K mg "UnknownName" T.C_UnknownName "name" := .of_name PySem.PeB.okKE T.p_UnknownName (by decide) (by decide)
theorem kp_UnknownPart (T : Tx K mg) : PySem.PeB.Kp P w K mg "UnknownPart" T.C_UnknownPart "name" := .of_name PySem.PeB.okLE T.p_UnknownPart (by decide) (by decide)
theorem kp_NothingToUndo (T : Tx K mg) : PySem.PeB.Kp P w K mg "NothingToUndo" T.C_NothingToUndo "many" := .of_many PySem.PeB.okIE T.p_NothingToUndo (by decide) (by decide)
theorem kp_TooMany (T : Tx K mg) : PySem.PeB.Kp P w K mg "TooMany" T.C_TooMany "limit" := .of_limit PySem.PeB.okOE T.p_TooMany (by decide) (by decide)
theorem kp_Refused (T : Tx K mg) : PySem.PeB.Kp P w K mg "Refused" T.C_Refused "call" := .of_call PySem.PeB.okAE T.p_Refused (by decide) (by decide)
theorem kp_InvalidNumber (T : Tx K mg) : PySem.PeB.Kp P w K mg "InvalidNumber" T.C_InvalidNumber "value" := .of_value PySem.PeB.okRE T.p_InvalidNumber (by decide) (by decide)
/-- the classes, as _law_kinds asks for them -/
def cl (T : Tx K mg) : Nat → Addr
  | 0 => T.C_InvalidWord | 1 => T.C_InvalidLibrary | 2 => T.C_InvalidCall | 3 => T.C_InvalidProgram | 4 => T.C_InvalidOperation | 5 => T.C_ParseError | 6 => T.C_UnknownName | 7 => T.C_UnknownPart
  | 8 => T.C_NothingToUndo | 9 => T.C_TooMany | 10 => T.C_Refused | 11 => T.C_InvalidNumber | _ => T.C_RivalError
/-- .. and Python's -/
def cv (T : Tx K mg) : Nat → Value
  | 13 => .type "ValueError" | 14 => .type "KeyError" | 15 => .type "IndexError" | 16 => .type "LookupError" | 17 => .type "ZeroDivisionError" | 18 => .type "OverflowError" | 19 => .type "ArithmeticError" | 20 => .type "RuntimeError" | k => .ref (cl T k)
/-- whether an error of the class k is one of the class j -/
def rowB (k j : Nat) : Bool := j == k || (j == 12 && Nat.ble k 5) || (j == 13 && (Nat.ble k 5 || k == 12)) || (j == 14 && k == 6) || (j == 15 && k == 8) || (j == 16 && (k == 6 || k == 7 || k == 8)) || (j == 18 && k == 9) || (j == 19 && (k == 9 || k == 10)) || (j == 20 && k == 11)
theorem kit_row {f : Value → Option Bool} {c : Nat → Value} {b : Nat → Bool} {n : Nat} (h : (List.range n).map (fun j => f (c j)) = (List.range n).map fun j => some (b j)) : ∀ j, j < n → f (c j) = some (b j) := by
  intro j hj
  have := congrArg (fun l => l[j]?) h
  simpa [hj] using this
theorem kits (T : Tx K mg) : ∀ k, k < 13 → ∀ j, j < 21 → PySem.W.kitOne K (.ref (cl T k)) (cv T j) = some (rowB k j)
  | 0, _ => kit_row T.kt_InvalidWord
  | 1, _ => kit_row T.kt_InvalidLibrary
  | 2, _ => kit_row T.kt_InvalidCall
  | 3, _ => kit_row T.kt_InvalidProgram
  | 4, _ => kit_row T.kt_InvalidOperation
  | 5, _ => kit_row T.kt_ParseError
  | 6, _ => kit_row T.kt_UnknownName
  | 7, _ => kit_row T.kt_UnknownPart
  | 8, _ => kit_row T.kt_NothingToUndo
  | 9, _ => kit_row T.kt_TooMany
  | 10, _ => kit_row T.kt_Refused
  | 11, _ => kit_row T.kt_InvalidNumber
  | 12, _ => kit_row T.kt_RivalError
  | k + 13, h => absurd h (by omega)
theorem ecl (T : Tx K mg) : ∀ k, k < 13 → ExcC K (cl T k)
  | 0, _ => T.x_InvalidWord.ec | 1, _ => T.x_InvalidLibrary.ec | 2, _ => T.x_InvalidCall.ec | 3, _ => T.x_InvalidProgram.ec | 4, _ => T.x_InvalidOperation.ec | 5, _ => T.ec_ParseError | 6, _ => T.ec_UnknownName | 7, _ => T.ec_UnknownPart
  | 8, _ => T.ec_NothingToUndo | 9, _ => T.ec_TooMany | 10, _ => T.ec_Refused | 11, _ => T.ec_InvalidNumber | 12, _ => T.x_RivalError.ec
  | k + 13, h => absurd h (by omega)
/-- the class that _law_told takes -/
def tl (k : Nat) : Nat := if k < 5 then k else 12
def sp_told (T : Tx K mg) : Sp := fun vs H Q _ => ∃ (k : Nat) (z : Str), vs = [.int k, .str z] ∧ k < 6 ∧ ∀ a H', Same H H' → IsE H' a (cl T (tl k)) → Q (.ref a) H'
theorem ok_law_told (T : Tx K mg) : FnOk P w K mg base CX0 1 T.f__law_told T.d__law_told ["_law_at", "_law_text"] (sp_told T) := by
  refine T.F__law_told.ok sc_law_told (fun vs H Q E h => ?_) (fun cdv A outer s H vs Q E hr h => ?_)
  · obtain ⟨k, z, rfl, _⟩ := h
    rfl
  · obtain ⟨k, z, rfl, hk, q⟩ := h
    refine ⟨_, (pss_cons (ps_if (pt_cmpR op_eq (pv 0) pe_int (nomark _)) (pss_one (ps_ret (pe_exc1 PySem.F.excBase_ValueError T.x_InvalidWord.ex T.x_InvalidWord.g T.x_InvalidWord.kp (by rfl) (pv 1)))) pss_nil)
      (pss_cons (ps_if (pt_cmpR op_eq (pv 0) pe_int (nomark _)) (pss_one (ps_ret (pe_exc1 PySem.F.excBase_ValueError T.x_InvalidLibrary.ex T.x_InvalidLibrary.g T.x_InvalidLibrary.kp (by rfl) (pv 1)))) pss_nil)
      (pss_cons (ps_if (pt_cmpR op_eq (pv 0) pe_int (nomark _)) (pss_one (ps_ret (pe_exc1 PySem.F.excBase_ValueError T.x_InvalidCall.ex T.x_InvalidCall.g T.x_InvalidCall.kp (by rfl) (pv 1)))) pss_nil)
      (pss_cons (ps_if (pt_cmpR op_eq (pv 0) pe_int (nomark _)) (pss_one (ps_ret (pe_exc1 PySem.F.excBase_ValueError T.x_InvalidProgram.ex T.x_InvalidProgram.g T.x_InvalidProgram.kp (by rfl) (pv 1)))) pss_nil)
      (pss_one (ps_ret (pe_ifExp (pt_cmpR op_eq (pv 0) pe_int (nomark _)) (pe_exc1 PySem.F.excBase_ValueError T.x_InvalidOperation.ex T.x_InvalidOperation.g T.x_InvalidOperation.kp (by rfl) (pv 1)) (pe_exc1 PySem.F.excBase_ValueError T.x_RivalError.ex T.x_RivalError.g T.x_RivalError.kp (by rfl) (pv 1))))))))), ?_⟩
    walk_at "rd"
    have fin : ∀ a, H a = none → Q (.ref a) (upd H a (ExO (.ref (cl T (tl k))) a)) := fun a ha => q a _ (same_new ha) (.inl upd_same)
    clear q
    match k, hk, fin with
    | 0, _, fin => exact ⟨rfl, iteT fin⟩
    | 1, _, fin => exact ⟨rfl, iteF ⟨rfl, iteT fin⟩⟩
    | 2, _, fin => exact ⟨rfl, iteF ⟨rfl, iteF ⟨rfl, iteT fin⟩⟩⟩
    | 3, _, fin => exact ⟨rfl, iteF ⟨rfl, iteF ⟨rfl, iteF ⟨rfl, iteT fin⟩⟩⟩⟩
    | 4, _, fin => exact ⟨rfl, iteF ⟨rfl, iteF ⟨rfl, iteF ⟨rfl, iteF ⟨rfl, iteT fin⟩⟩⟩⟩⟩
    | 5, _, fin => exact ⟨rfl, iteF ⟨rfl, iteF ⟨rfl, iteF ⟨rfl, iteF ⟨rfl, iteF fin⟩⟩⟩⟩⟩
/-- the field that the k-th keeper has -/
def fld : Nat → Str
  | 0 => "line" | 1 => "name" | 2 => "name" | 3 => "many" | 4 => "limit" | 5 => "call" | _ => "value"
def sp_keeper (T : Tx K mg) : Sp := fun vs H Q _ => ∃ (k : Nat) (v : V) (d : PyData), vs = [.int k, v] ∧ k < 7 ∧ Vd K H v d ∧ Sm d ∧ ∀ a dd H', Same H H' → H' a = some (EvO (cl T (5 + k)) dd a) → H' dd = some (.xd [(fld k, v)]) → Q (.ref a) H'
theorem same_two {H : Hp} {a dd : Addr} {o u : HO} (ha : H a = none) (hd : H dd = none) (ne : a ≠ dd) : Same H (upd (upd H dd u) a o) := (same_new hd).trans (same_new (by rw [upd_ne ne]; exact ha))
theorem ok_law_keeper (T : Tx K mg) : FnG P w K mg base CX0 2 T.f__law_keeper T.d__law_keeper ["_law_at", "_law_kept_here"] (sp_keeper T) := by
  refine okG T.F__law_keeper sc_law_keeper (fun vs H Q E h => ?_) (fun cdv A outer s H vs Q E hgd hr h => ?_)
  · obtain ⟨k, v, d, rfl, _⟩ := h
    rfl
  · obtain ⟨k, v, d, rfl, hk, hv, sm, q⟩ := h
    refine ⟨_, (pss_cons (ps_if (pt_cmpR op_eq (pv 0) pe_int (nomark _)) (pss_one (ps_ret (pe_keep (kp_ParseError T) hgd hr (pa_cons (pv 1) pa_nil) (by rfl) (by decide)))) pss_nil)
      (pss_cons (ps_if (pt_cmpR op_eq (pv 0) pe_int (nomark _)) (pss_one (ps_ret (pe_keep (kp_UnknownName T) hgd hr (pa_cons (pv 1) pa_nil) (by rfl) (by decide)))) pss_nil)
      (pss_cons (ps_if (pt_cmpR op_eq (pv 0) pe_int (nomark _)) (pss_one (ps_ret (pe_keep (kp_UnknownPart T) hgd hr (pa_cons (pv 1) pa_nil) (by rfl) (by decide)))) pss_nil)
      (pss_cons (ps_if (pt_cmpR op_eq (pv 0) pe_int (nomark _)) (pss_one (ps_ret (pe_keep (kp_NothingToUndo T) hgd hr (pa_cons (pv 1) pa_nil) (by rfl) (by decide)))) pss_nil)
      (pss_cons (ps_if (pt_cmpR op_eq (pv 0) pe_int (nomark _)) (pss_one (ps_ret (pe_keep (kp_TooMany T) hgd hr (pa_cons (pv 1) pa_nil) (by rfl) (by decide)))) pss_nil)
      (pss_one (ps_ret (pe_ifExp (pt_cmpR op_eq (pv 0) pe_int (nomark _)) (pe_keep (kp_Refused T) hgd hr (pa_cons (pv 1) pa_nil) (by rfl) (by decide)) (pe_keep (kp_InvalidNumber T) hgd hr (pa_cons (pv 1) pa_nil) (by rfl) (by decide)))))))))), ?_⟩
    walk_at "rd"
    have fin : tKeep K (cl T (5 + k)) (fld k) (tCons (tVar 1) tNil) [some (.int k), some v] H Q := ⟨v, rfl, v, d, rfl, hv, sm, fun a dd ha hd ne => q a dd _ (same_two ha hd ne) upd_same (by rw [upd_ne (Ne.symm ne), upd_same])⟩
    clear q
    match k, hk, fin with
    | 0, _, fin => exact ⟨rfl, iteT fin⟩
    | 1, _, fin => exact ⟨rfl, iteF ⟨rfl, iteT fin⟩⟩
    | 2, _, fin => exact ⟨rfl, iteF ⟨rfl, iteF ⟨rfl, iteT fin⟩⟩⟩
    | 3, _, fin => exact ⟨rfl, iteF ⟨rfl, iteF ⟨rfl, iteF ⟨rfl, iteT fin⟩⟩⟩⟩
    | 4, _, fin => exact ⟨rfl, iteF ⟨rfl, iteF ⟨rfl, iteF ⟨rfl, iteF ⟨rfl, iteT fin⟩⟩⟩⟩⟩
    | 5, _, fin => exact ⟨rfl, iteF ⟨rfl, iteF ⟨rfl, iteF ⟨rfl, iteF ⟨rfl, iteF ⟨rfl, iteT fin⟩⟩⟩⟩⟩⟩
    | 6, _, fin => exact ⟨rfl, iteF ⟨rfl, iteF ⟨rfl, iteF ⟨rfl, iteF ⟨rfl, iteF ⟨rfl, iteF fin⟩⟩⟩⟩⟩⟩
/-- the k-th keeper at a keeps v -/
def Kpt (T : Tx K mg) (H : Hp) (k : Nat) (a : Addr) (v : V) : Prop := ∃ dd, H a = some (EvO (cl T (5 + k)) dd a) ∧ H dd = some (.xd [(fld k, v)])
theorem rdb (T : Tx K mg) : ∀ k, k < 7 → Rdb K (cl T (5 + k)) (fld k)
  | 0, _ => ⟨⟨T.p_ParseError.ga, T.p_ParseError.gg, T.p_ParseError.exC, T.p_ParseError.hdC⟩, T.p_ParseError.noN⟩
  | 1, _ => ⟨⟨T.p_UnknownName.ga, T.p_UnknownName.gg, T.p_UnknownName.exC, T.p_UnknownName.hdC⟩, T.p_UnknownName.noN⟩
  | 2, _ => ⟨⟨T.p_UnknownPart.ga, T.p_UnknownPart.gg, T.p_UnknownPart.exC, T.p_UnknownPart.hdC⟩, T.p_UnknownPart.noN⟩
  | 3, _ => ⟨⟨T.p_NothingToUndo.ga, T.p_NothingToUndo.gg, T.p_NothingToUndo.exC, T.p_NothingToUndo.hdC⟩, T.p_NothingToUndo.noN⟩
  | 4, _ => ⟨⟨T.p_TooMany.ga, T.p_TooMany.gg, T.p_TooMany.exC, T.p_TooMany.hdC⟩, T.p_TooMany.noN⟩
  | 5, _ => ⟨⟨T.p_Refused.ga, T.p_Refused.gg, T.p_Refused.exC, T.p_Refused.hdC⟩, T.p_Refused.noN⟩
  | 6, _ => ⟨⟨T.p_InvalidNumber.ga, T.p_InvalidNumber.gg, T.p_InvalidNumber.exC, T.p_InvalidNumber.hdC⟩, T.p_InvalidNumber.noN⟩
  | k + 7, h => absurd h (by omega)
def sp_kept (T : Tx K mg) : Sp := fun vs H Q _ => ∃ (k : Nat) (a : Addr) (v : V), vs = [.int k, .ref a] ∧ k < 7 ∧ Kpt T H k a v ∧ Q v H
theorem ok_law_kept (T : Tx K mg) : FnC P w K mg base CX0 1 T.f__law_kept T.d__law_kept ["_law_at", "_law_found"] (sp_kept T) := by
  refine okC T.F__law_kept sc_law_kept (fun vs H Q E h => ?_) (fun cdv A outer s H vs Q E p hr h => ?_)
  · obtain ⟨k, a, v, rfl, _⟩ := h
    rfl
  · obtain ⟨k, a, v, rfl, hk, ⟨dd, ha, hd⟩, q⟩ := h
    refine ⟨_, (pss_cons (ps_if (pt_cmpR op_eq (pv 0) pe_int (nomark _)) (pss_one (ps_ret (pe_fl (pv 1)))) pss_nil)
      (pss_cons (ps_if (pt_cmpR op_lt (pv 0) pe_int (nomark _)) (pss_one (ps_ret (pe_fl (pv 1)))) pss_nil)
      (pss_cons (ps_if (pt_cmpR op_eq (pv 0) pe_int (nomark _)) (pss_one (ps_ret (pe_fl (pv 1)))) pss_nil)
      (pss_cons (ps_if (pt_cmpR op_eq (pv 0) pe_int (nomark _)) (pss_one (ps_ret (pe_fl (pv 1)))) pss_nil)
      (pss_one (ps_ret (pe_ifExp (pt_cmpR op_eq (pv 0) pe_int (nomark _)) (pe_fl (pv 1)) (pe_fl (pv 1))))))))), ?_⟩
    simp only [L2H.cxH]
    walk_at "rd"
    have fin : tFl K (fld k) (tVar 1) [some (.int k), some (.ref a)] H Q := ⟨_, rfl, a, _, dd, _, v, rfl, rdb T k hk, ha, hd, by simp [List.lookup], q⟩
    clear q ha hd
    match k, hk, fin with
    | 0, _, fin => exact ⟨rfl, iteT fin⟩
    | 1, _, fin => exact ⟨rfl, iteF (iteT fin)⟩
    | 2, _, fin => exact ⟨rfl, iteF (iteT fin)⟩
    | 3, _, fin => exact ⟨rfl, iteF (iteF ⟨rfl, iteT fin⟩)⟩
    | 4, _, fin => exact ⟨rfl, iteF (iteF ⟨rfl, iteF ⟨rfl, iteT fin⟩⟩)⟩
    | 5, _, fin => exact ⟨rfl, iteF (iteF ⟨rfl, iteF ⟨rfl, iteF ⟨rfl, iteT fin⟩⟩⟩)⟩
    | 6, _, fin => exact ⟨rfl, iteF (iteF ⟨rfl, iteF ⟨rfl, iteF ⟨rfl, iteF fin⟩⟩⟩)⟩
end

section
variable {w : World} {K : PySem.W.Frag} {mg : Str → Option Value} {base : Heap}
/-- what is told of the classes lo .. hi - 1 -/
def rowL (k lo n : Nat) : List V := (List.range n).map fun j => V.bl (rowB k (lo + j))
def sp_kinds (T : Tx K mg) (lo n : Nat) : Sp := fun vs H Q _ => ∃ (k : Nat) (a : Addr), vs = [.ref a] ∧ k < 13 ∧ IsE H a (cl T k) ∧ ∀ p H', Same H H' → H' p = some (.lst (rowL k lo n)) → Q (.ref p) H'
theorem IsE.same {H H' : Hp} {a C : Addr} (h : IsE H a C) (s : Same H H') : IsE H' a C := by
  rcases h with h | ⟨d, fs, h, hd⟩
  · exact .inl (s _ _ h)
  · exact .inr ⟨d, fs, s _ _ h, s _ _ hd⟩
theorem isV {T : Tx K mg} {H : Hp} {a : Addr} {k : Nat} {Q : VK} {c : V} (j : Nat) (h : IsE H a (cl T k)) (hk : k < 13) (hj : j < 21) (hc : ∀ u, RelV c u → u = cv T j) (q : Q (.bl (rowB k j)) H) : rIsV K [.ref a, c] H Q :=
  ⟨a, _, c, _, _, rfl, h, ecl T k hk, hc, kits T k hk j hj, q⟩
theorem ok_law_kinds (T : Tx K mg) : FnOk P w K mg base CX0 1 T.f__law_kinds T.d__law_kinds ["_law_found"] (sp_kinds T 0 13) := by
  refine T.F__law_kinds.ok sc_law_kinds (fun vs H Q E h => ?_) (fun cdv A outer s H vs Q E hr h => ?_)
  · obtain ⟨k, a, rfl, _⟩ := h
    rfl
  · obtain ⟨k, a, rfl, hk, he, q⟩ := h
    refine ⟨_, (pss_cons (ps_set (i := 1) sc_law_kinds.nd rfl (Or.inl rfl) (pe_lst (pa_cons (pe_callB call_isV (by rfl) T.n_isinstance (by decide +kernel) (pa_cons (pv 0) (pa_cons (pe_glob (v := .ref T.C_InvalidWord) (by rfl) T.m_InvalidWord rfl) pa_nil))) (pa_cons (pe_callB call_isV (by rfl) T.n_isinstance (by decide +kernel) (pa_cons (pv 0) (pa_cons (pe_glob (v := .ref T.C_InvalidLibrary) (by rfl) T.m_InvalidLibrary rfl) pa_nil))) (pa_cons (pe_callB call_isV (by rfl) T.n_isinstance (by decide +kernel) (pa_cons (pv 0) (pa_cons (pe_glob (v := .ref T.C_InvalidCall) (by rfl) T.m_InvalidCall rfl) pa_nil))) pa_nil)))))
      (pss_cons (ps_set (i := 1) sc_law_kinds.nd rfl (Or.inl rfl) (pe_op op_cat (pv 1) (pe_lst (pa_cons (pe_callB call_isV (by rfl) T.n_isinstance (by decide +kernel) (pa_cons (pv 0) (pa_cons (pe_glob (v := .ref T.C_InvalidProgram) (by rfl) T.m_InvalidProgram rfl) pa_nil))) (pa_cons (pe_callB call_isV (by rfl) T.n_isinstance (by decide +kernel) (pa_cons (pv 0) (pa_cons (pe_glob (v := .ref T.C_InvalidOperation) (by rfl) T.m_InvalidOperation rfl) pa_nil))) pa_nil)))))
      (pss_cons (ps_set (i := 1) sc_law_kinds.nd rfl (Or.inl rfl) (pe_op op_cat (pv 1) (pe_lst (pa_cons (pe_callB call_isV (by rfl) T.n_isinstance (by decide +kernel) (pa_cons (pv 0) (pa_cons (pe_glob (v := .ref T.C_ParseError) (by rfl) T.m_ParseError rfl) pa_nil))) (pa_cons (pe_callB call_isV (by rfl) T.n_isinstance (by decide +kernel) (pa_cons (pv 0) (pa_cons (pe_glob (v := .ref T.C_UnknownName) (by rfl) T.m_UnknownName rfl) pa_nil))) (pa_cons (pe_callB call_isV (by rfl) T.n_isinstance (by decide +kernel) (pa_cons (pv 0) (pa_cons (pe_glob (v := .ref T.C_UnknownPart) (by rfl) T.m_UnknownPart rfl) pa_nil))) pa_nil))))))
      (pss_cons (ps_set (i := 1) sc_law_kinds.nd rfl (Or.inl rfl) (pe_op op_cat (pv 1) (pe_lst (pa_cons (pe_callB call_isV (by rfl) T.n_isinstance (by decide +kernel) (pa_cons (pv 0) (pa_cons (pe_glob (v := .ref T.C_NothingToUndo) (by rfl) T.m_NothingToUndo rfl) pa_nil))) (pa_cons (pe_callB call_isV (by rfl) T.n_isinstance (by decide +kernel) (pa_cons (pv 0) (pa_cons (pe_glob (v := .ref T.C_TooMany) (by rfl) T.m_TooMany rfl) pa_nil))) (pa_cons (pe_callB call_isV (by rfl) T.n_isinstance (by decide +kernel) (pa_cons (pv 0) (pa_cons (pe_glob (v := .ref T.C_Refused) (by rfl) T.m_Refused rfl) pa_nil))) pa_nil))))))
      (pss_one (ps_ret (pe_op op_cat (pv 1) (pe_lst (pa_cons (pe_callB call_isV (by rfl) T.n_isinstance (by decide +kernel) (pa_cons (pv 0) (pa_cons (pe_glob (v := .ref T.C_InvalidNumber) (by rfl) T.m_InvalidNumber rfl) pa_nil))) (pa_cons (pe_callB call_isV (by rfl) T.n_isinstance (by decide +kernel) (pa_cons (pv 0) (pa_cons (pe_glob (v := .ref T.C_RivalError) (by rfl) T.m_RivalError rfl) pa_nil))) pa_nil)))))))))), ?_⟩
    walk_at "rd"
    refine isV (T := T) 0 he hk (by decide) (fun u e => e) (isV (T := T) 1 he hk (by decide) (fun u e => e) (isV (T := T) 2 he hk (by decide) (fun u e => e) ⟨by decide, fun p1 hp1 => ?_⟩))
    have s1 := same_new (o := .lst [.bl (rowB k 0), .bl (rowB k 1), .bl (rowB k 2)]) hp1
    have f1 : upd H p1 (.lst [.bl (rowB k 0), .bl (rowB k 1), .bl (rowB k 2)]) p1 = some (.lst [.bl (rowB k 0), .bl (rowB k 1), .bl (rowB k 2)]) := upd_same
    generalize upd H p1 (.lst [.bl (rowB k 0), .bl (rowB k 1), .bl (rowB k 2)]) = H1 at *
    have e1 := IsE.same he s1
    refine (isV (T := T) 3 e1 hk (by decide) (fun u e => e) (isV (T := T) 4 e1 hk (by decide) (fun u e => e) ⟨by decide, fun p2 hp2 => ?_⟩))
    have s2 := same_new (o := .lst [.bl (rowB k 3), .bl (rowB k 4)]) hp2
    have f2 : upd H1 p2 (.lst [.bl (rowB k 3), .bl (rowB k 4)]) p2 = some (.lst [.bl (rowB k 3), .bl (rowB k 4)]) := upd_same
    generalize upd H1 p2 (.lst [.bl (rowB k 3), .bl (rowB k 4)]) = H2 at *
    refine catL (s2 _ _ f1) f2 (by show 5 ≤ sizeLine; decide) fun p3 hp3 => ?_
    have s3 := same_new (o := .lst ([.bl (rowB k 0), .bl (rowB k 1), .bl (rowB k 2)] ++ [.bl (rowB k 3), .bl (rowB k 4)])) hp3
    have f3 : upd H2 p3 (.lst ([.bl (rowB k 0), .bl (rowB k 1), .bl (rowB k 2)] ++ [.bl (rowB k 3), .bl (rowB k 4)])) p3 = some (.lst ([.bl (rowB k 0), .bl (rowB k 1), .bl (rowB k 2)] ++ [.bl (rowB k 3), .bl (rowB k 4)])) := upd_same
    generalize upd H2 p3 (.lst ([.bl (rowB k 0), .bl (rowB k 1), .bl (rowB k 2)] ++ [.bl (rowB k 3), .bl (rowB k 4)])) = H3 at *
    have e3 := IsE.same (IsE.same e1 s2) s3
    refine (isV (T := T) 5 e3 hk (by decide) (fun u e => e) (isV (T := T) 6 e3 hk (by decide) (fun u e => e) (isV (T := T) 7 e3 hk (by decide) (fun u e => e) ⟨by decide, fun p4 hp4 => ?_⟩)))
    have s4 := same_new (o := .lst [.bl (rowB k 5), .bl (rowB k 6), .bl (rowB k 7)]) hp4
    have f4 : upd H3 p4 (.lst [.bl (rowB k 5), .bl (rowB k 6), .bl (rowB k 7)]) p4 = some (.lst [.bl (rowB k 5), .bl (rowB k 6), .bl (rowB k 7)]) := upd_same
    generalize upd H3 p4 (.lst [.bl (rowB k 5), .bl (rowB k 6), .bl (rowB k 7)]) = H4 at *
    refine catL (s4 _ _ f3) f4 (by show 8 ≤ sizeLine; decide) fun p5 hp5 => ?_
    have s5 := same_new (o := .lst (([.bl (rowB k 0), .bl (rowB k 1), .bl (rowB k 2)] ++ [.bl (rowB k 3), .bl (rowB k 4)]) ++ [.bl (rowB k 5), .bl (rowB k 6), .bl (rowB k 7)])) hp5
    have f5 : upd H4 p5 (.lst (([.bl (rowB k 0), .bl (rowB k 1), .bl (rowB k 2)] ++ [.bl (rowB k 3), .bl (rowB k 4)]) ++ [.bl (rowB k 5), .bl (rowB k 6), .bl (rowB k 7)])) p5 = some (.lst (([.bl (rowB k 0), .bl (rowB k 1), .bl (rowB k 2)] ++ [.bl (rowB k 3), .bl (rowB k 4)]) ++ [.bl (rowB k 5), .bl (rowB k 6), .bl (rowB k 7)])) := upd_same
    generalize upd H4 p5 (.lst (([.bl (rowB k 0), .bl (rowB k 1), .bl (rowB k 2)] ++ [.bl (rowB k 3), .bl (rowB k 4)]) ++ [.bl (rowB k 5), .bl (rowB k 6), .bl (rowB k 7)])) = H5 at *
    have e5 := IsE.same (IsE.same e3 s4) s5
    refine (isV (T := T) 8 e5 hk (by decide) (fun u e => e) (isV (T := T) 9 e5 hk (by decide) (fun u e => e) (isV (T := T) 10 e5 hk (by decide) (fun u e => e) ⟨by decide, fun p6 hp6 => ?_⟩)))
    have s6 := same_new (o := .lst [.bl (rowB k 8), .bl (rowB k 9), .bl (rowB k 10)]) hp6
    have f6 : upd H5 p6 (.lst [.bl (rowB k 8), .bl (rowB k 9), .bl (rowB k 10)]) p6 = some (.lst [.bl (rowB k 8), .bl (rowB k 9), .bl (rowB k 10)]) := upd_same
    generalize upd H5 p6 (.lst [.bl (rowB k 8), .bl (rowB k 9), .bl (rowB k 10)]) = H6 at *
    refine catL (s6 _ _ f5) f6 (by show 11 ≤ sizeLine; decide) fun p7 hp7 => ?_
    have s7 := same_new (o := .lst ((([.bl (rowB k 0), .bl (rowB k 1), .bl (rowB k 2)] ++ [.bl (rowB k 3), .bl (rowB k 4)]) ++ [.bl (rowB k 5), .bl (rowB k 6), .bl (rowB k 7)]) ++ [.bl (rowB k 8), .bl (rowB k 9), .bl (rowB k 10)])) hp7
    have f7 : upd H6 p7 (.lst ((([.bl (rowB k 0), .bl (rowB k 1), .bl (rowB k 2)] ++ [.bl (rowB k 3), .bl (rowB k 4)]) ++ [.bl (rowB k 5), .bl (rowB k 6), .bl (rowB k 7)]) ++ [.bl (rowB k 8), .bl (rowB k 9), .bl (rowB k 10)])) p7 = some (.lst ((([.bl (rowB k 0), .bl (rowB k 1), .bl (rowB k 2)] ++ [.bl (rowB k 3), .bl (rowB k 4)]) ++ [.bl (rowB k 5), .bl (rowB k 6), .bl (rowB k 7)]) ++ [.bl (rowB k 8), .bl (rowB k 9), .bl (rowB k 10)])) := upd_same
    generalize upd H6 p7 (.lst ((([.bl (rowB k 0), .bl (rowB k 1), .bl (rowB k 2)] ++ [.bl (rowB k 3), .bl (rowB k 4)]) ++ [.bl (rowB k 5), .bl (rowB k 6), .bl (rowB k 7)]) ++ [.bl (rowB k 8), .bl (rowB k 9), .bl (rowB k 10)])) = H7 at *
    have e7 := IsE.same (IsE.same e5 s6) s7
    refine (isV (T := T) 11 e7 hk (by decide) (fun u e => e) (isV (T := T) 12 e7 hk (by decide) (fun u e => e) ⟨by decide, fun p8 hp8 => ?_⟩))
    have s8 := same_new (o := .lst [.bl (rowB k 11), .bl (rowB k 12)]) hp8
    have f8 : upd H7 p8 (.lst [.bl (rowB k 11), .bl (rowB k 12)]) p8 = some (.lst [.bl (rowB k 11), .bl (rowB k 12)]) := upd_same
    generalize upd H7 p8 (.lst [.bl (rowB k 11), .bl (rowB k 12)]) = H8 at *
    refine catL (s8 _ _ f7) f8 (by show 13 ≤ sizeLine; decide) fun p9 hp9 => ?_
    have s9 := same_new (o := .lst (((([.bl (rowB k 0), .bl (rowB k 1), .bl (rowB k 2)] ++ [.bl (rowB k 3), .bl (rowB k 4)]) ++ [.bl (rowB k 5), .bl (rowB k 6), .bl (rowB k 7)]) ++ [.bl (rowB k 8), .bl (rowB k 9), .bl (rowB k 10)]) ++ [.bl (rowB k 11), .bl (rowB k 12)])) hp9
    have f9 : upd H8 p9 (.lst (((([.bl (rowB k 0), .bl (rowB k 1), .bl (rowB k 2)] ++ [.bl (rowB k 3), .bl (rowB k 4)]) ++ [.bl (rowB k 5), .bl (rowB k 6), .bl (rowB k 7)]) ++ [.bl (rowB k 8), .bl (rowB k 9), .bl (rowB k 10)]) ++ [.bl (rowB k 11), .bl (rowB k 12)])) p9 = some (.lst (((([.bl (rowB k 0), .bl (rowB k 1), .bl (rowB k 2)] ++ [.bl (rowB k 3), .bl (rowB k 4)]) ++ [.bl (rowB k 5), .bl (rowB k 6), .bl (rowB k 7)]) ++ [.bl (rowB k 8), .bl (rowB k 9), .bl (rowB k 10)]) ++ [.bl (rowB k 11), .bl (rowB k 12)])) := upd_same
    generalize upd H8 p9 (.lst (((([.bl (rowB k 0), .bl (rowB k 1), .bl (rowB k 2)] ++ [.bl (rowB k 3), .bl (rowB k 4)]) ++ [.bl (rowB k 5), .bl (rowB k 6), .bl (rowB k 7)]) ++ [.bl (rowB k 8), .bl (rowB k 9), .bl (rowB k 10)]) ++ [.bl (rowB k 11), .bl (rowB k 12)])) = H9 at *
    exact q _ _ ((((((((s1.trans s2).trans s3).trans s4).trans s5).trans s6).trans s7).trans s8).trans s9) f9
theorem ok_law_python (T : Tx K mg) : FnOk P w K mg base CX0 1 T.f__law_python T.d__law_python ["_law_found"] (sp_kinds T 13 8) := by
  refine T.F__law_python.ok sc_law_python (fun vs H Q E h => ?_) (fun cdv A outer s H vs Q E hr h => ?_)
  · obtain ⟨k, a, rfl, _⟩ := h
    rfl
  · obtain ⟨k, a, rfl, hk, he, q⟩ := h
    refine ⟨_, (pss_cons (ps_set (i := 1) sc_law_python.nd rfl (Or.inl rfl) (pe_lst (pa_cons (pe_callB call_isV (by rfl) T.n_isinstance (by decide +kernel) (pa_cons (pv 0) (pa_cons (pe_bltn (v := .ty "ValueError") (by rfl) T.n_ValueError (by decide +kernel) rfl) pa_nil))) (pa_cons (pe_callB call_isV (by rfl) T.n_isinstance (by decide +kernel) (pa_cons (pv 0) (pa_cons (pe_bltn (v := .ty "KeyError") (by rfl) T.n_KeyError (by decide +kernel) rfl) pa_nil))) (pa_cons (pe_callB call_isV (by rfl) T.n_isinstance (by decide +kernel) (pa_cons (pv 0) (pa_cons (pe_bltn (v := .ty "IndexError") (by rfl) T.n_IndexError (by decide +kernel) rfl) pa_nil))) pa_nil)))))
      (pss_cons (ps_set (i := 1) sc_law_python.nd rfl (Or.inl rfl) (pe_op op_cat (pv 1) (pe_lst (pa_cons (pe_callB call_isV (by rfl) T.n_isinstance (by decide +kernel) (pa_cons (pv 0) (pa_cons (pe_bltn (v := .ty "LookupError") (by rfl) T.n_LookupError (by decide +kernel) rfl) pa_nil))) (pa_cons (pe_callB call_isV (by rfl) T.n_isinstance (by decide +kernel) (pa_cons (pv 0) (pa_cons (pe_bltn (v := .ty "ZeroDivisionError") (by rfl) T.n_ZeroDivisionError (by decide +kernel) rfl) pa_nil))) pa_nil)))))
      (pss_cons (ps_set (i := 1) sc_law_python.nd rfl (Or.inl rfl) (pe_op op_cat (pv 1) (pe_lst (pa_cons (pe_callB call_isV (by rfl) T.n_isinstance (by decide +kernel) (pa_cons (pv 0) (pa_cons (pe_bltn (v := .ty "OverflowError") (by rfl) T.n_OverflowError (by decide +kernel) rfl) pa_nil))) (pa_cons (pe_callB call_isV (by rfl) T.n_isinstance (by decide +kernel) (pa_cons (pv 0) (pa_cons (pe_bltn (v := .ty "ArithmeticError") (by rfl) T.n_ArithmeticError (by decide +kernel) rfl) pa_nil))) pa_nil)))))
      (pss_one (ps_ret (pe_op op_cat (pv 1) (pe_lst (pa_cons (pe_callB call_isV (by rfl) T.n_isinstance (by decide +kernel) (pa_cons (pv 0) (pa_cons (pe_bltn (v := .ty "RuntimeError") (by rfl) T.n_RuntimeError (by decide +kernel) rfl) pa_nil))) pa_nil)))))))), ?_⟩
    walk_at "rd"
    refine isV (T := T) 13 he hk (by decide) (fun u e => e) (isV (T := T) 14 he hk (by decide) (fun u e => e) (isV (T := T) 15 he hk (by decide) (fun u e => e) ⟨by decide, fun p1 hp1 => ?_⟩))
    have s1 := same_new (o := .lst [.bl (rowB k 13), .bl (rowB k 14), .bl (rowB k 15)]) hp1
    have f1 : upd H p1 (.lst [.bl (rowB k 13), .bl (rowB k 14), .bl (rowB k 15)]) p1 = some (.lst [.bl (rowB k 13), .bl (rowB k 14), .bl (rowB k 15)]) := upd_same
    generalize upd H p1 (.lst [.bl (rowB k 13), .bl (rowB k 14), .bl (rowB k 15)]) = H1 at *
    have e1 := IsE.same he s1
    refine (isV (T := T) 16 e1 hk (by decide) (fun u e => e) (isV (T := T) 17 e1 hk (by decide) (fun u e => e) ⟨by decide, fun p2 hp2 => ?_⟩))
    have s2 := same_new (o := .lst [.bl (rowB k 16), .bl (rowB k 17)]) hp2
    have f2 : upd H1 p2 (.lst [.bl (rowB k 16), .bl (rowB k 17)]) p2 = some (.lst [.bl (rowB k 16), .bl (rowB k 17)]) := upd_same
    generalize upd H1 p2 (.lst [.bl (rowB k 16), .bl (rowB k 17)]) = H2 at *
    refine catL (s2 _ _ f1) f2 (by show 5 ≤ sizeLine; decide) fun p3 hp3 => ?_
    have s3 := same_new (o := .lst ([.bl (rowB k 13), .bl (rowB k 14), .bl (rowB k 15)] ++ [.bl (rowB k 16), .bl (rowB k 17)])) hp3
    have f3 : upd H2 p3 (.lst ([.bl (rowB k 13), .bl (rowB k 14), .bl (rowB k 15)] ++ [.bl (rowB k 16), .bl (rowB k 17)])) p3 = some (.lst ([.bl (rowB k 13), .bl (rowB k 14), .bl (rowB k 15)] ++ [.bl (rowB k 16), .bl (rowB k 17)])) := upd_same
    generalize upd H2 p3 (.lst ([.bl (rowB k 13), .bl (rowB k 14), .bl (rowB k 15)] ++ [.bl (rowB k 16), .bl (rowB k 17)])) = H3 at *
    have e3 := IsE.same (IsE.same e1 s2) s3
    refine (isV (T := T) 18 e3 hk (by decide) (fun u e => e) (isV (T := T) 19 e3 hk (by decide) (fun u e => e) ⟨by decide, fun p4 hp4 => ?_⟩))
    have s4 := same_new (o := .lst [.bl (rowB k 18), .bl (rowB k 19)]) hp4
    have f4 : upd H3 p4 (.lst [.bl (rowB k 18), .bl (rowB k 19)]) p4 = some (.lst [.bl (rowB k 18), .bl (rowB k 19)]) := upd_same
    generalize upd H3 p4 (.lst [.bl (rowB k 18), .bl (rowB k 19)]) = H4 at *
    refine catL (s4 _ _ f3) f4 (by show 7 ≤ sizeLine; decide) fun p5 hp5 => ?_
    have s5 := same_new (o := .lst (([.bl (rowB k 13), .bl (rowB k 14), .bl (rowB k 15)] ++ [.bl (rowB k 16), .bl (rowB k 17)]) ++ [.bl (rowB k 18), .bl (rowB k 19)])) hp5
    have f5 : upd H4 p5 (.lst (([.bl (rowB k 13), .bl (rowB k 14), .bl (rowB k 15)] ++ [.bl (rowB k 16), .bl (rowB k 17)]) ++ [.bl (rowB k 18), .bl (rowB k 19)])) p5 = some (.lst (([.bl (rowB k 13), .bl (rowB k 14), .bl (rowB k 15)] ++ [.bl (rowB k 16), .bl (rowB k 17)]) ++ [.bl (rowB k 18), .bl (rowB k 19)])) := upd_same
    generalize upd H4 p5 (.lst (([.bl (rowB k 13), .bl (rowB k 14), .bl (rowB k 15)] ++ [.bl (rowB k 16), .bl (rowB k 17)]) ++ [.bl (rowB k 18), .bl (rowB k 19)])) = H5 at *
    have e5 := IsE.same (IsE.same e3 s4) s5
    refine (isV (T := T) 20 e5 hk (by decide) (fun u e => e) ⟨by decide, fun p6 hp6 => ?_⟩)
    have s6 := same_new (o := .lst [.bl (rowB k 20)]) hp6
    have f6 : upd H5 p6 (.lst [.bl (rowB k 20)]) p6 = some (.lst [.bl (rowB k 20)]) := upd_same
    generalize upd H5 p6 (.lst [.bl (rowB k 20)]) = H6 at *
    refine catL (s6 _ _ f5) f6 (by show 8 ≤ sizeLine; decide) fun p7 hp7 => ?_
    have s7 := same_new (o := .lst ((([.bl (rowB k 13), .bl (rowB k 14), .bl (rowB k 15)] ++ [.bl (rowB k 16), .bl (rowB k 17)]) ++ [.bl (rowB k 18), .bl (rowB k 19)]) ++ [.bl (rowB k 20)])) hp7
    have f7 : upd H6 p7 (.lst ((([.bl (rowB k 13), .bl (rowB k 14), .bl (rowB k 15)] ++ [.bl (rowB k 16), .bl (rowB k 17)]) ++ [.bl (rowB k 18), .bl (rowB k 19)]) ++ [.bl (rowB k 20)])) p7 = some (.lst ((([.bl (rowB k 13), .bl (rowB k 14), .bl (rowB k 15)] ++ [.bl (rowB k 16), .bl (rowB k 17)]) ++ [.bl (rowB k 18), .bl (rowB k 19)]) ++ [.bl (rowB k 20)])) := upd_same
    generalize upd H6 p7 (.lst ((([.bl (rowB k 13), .bl (rowB k 14), .bl (rowB k 15)] ++ [.bl (rowB k 16), .bl (rowB k 17)]) ++ [.bl (rowB k 18), .bl (rowB k 19)]) ++ [.bl (rowB k 20)])) = H7 at *
    exact q _ _ ((((((s1.trans s2).trans s3).trans s4).trans s5).trans s6).trans s7) f7
theorem in_ints (i : Int) (ps : List Int) : inV (.int i) (ps.map V.int) = decide (i ∈ ps) := by
  unfold inV
  induction ps with
  | nil => rfl
  | cons p ps ih =>
    rw [List.map_cons, List.any_cons, ih]
    show (p == i || decide (i ∈ ps)) = decide (i ∈ p :: ps)
    have e : (p == i) = decide (i = p) := by
      by_cases h : p = i
      · subst h
        simp
      · rw [decide_eq_false (fun z => h z.symm)]
        simpa using h
    rw [e]
    simp [List.mem_cons]
def sp_truths (K : PySem.W.Frag) : Sp := fun vs H Q _ => ∃ (a : Addr) (ps : List Int) (n : Nat), vs = [.ref a, .int n] ∧ n ≤ 100 ∧ H a = some (.tup (ps.map V.int)) ∧ ∀ p H', Same H H' → H p = none → H' p = some (.lst ((List.range n).map fun j : Nat => V.bl (decide ((j : Int) ∈ ps)))) → Q (.ref p) H'
theorem ok_law_truths (T : Tx K mg) : FnOk P w K mg base CX0 1 T.f__law_truths T.d__law_truths ["_law_places", "_law_length"] (sp_truths K) := by
  refine T.F__law_truths.ok sc_law_truths (fun vs H Q E h => ?_) (fun cdv A outer s H vs Q E hr h => ?_)
  · obtain ⟨a, ps, n, rfl, _⟩ := h
    rfl
  · obtain ⟨a, ps, n, rfl, hn, ha, q⟩ := h
    refine ⟨_, (pss_one (ps_ret (pe_lc (own := [("_law_at", 2)]) (g := gName 2) (by rfl) sc_law_truths.nd (pi_range1 (by rfl) T.n_range (pa_cons (pv 1) pa_nil)) (blkOk_by (own := [("_law_at", 2)]) (N := ["_law_places", "_law_length", "_law_at"]) (sc := defScope s_law_truths) (by decide +kernel)) (fun _ _ _ _ _ => (pg_name (i := 2) sc_law_truths.nd rfl (Or.inl rfl))) (fun _ _ _ _ _ => pts_nil) (fun _ _ _ _ _ => (pe_cmpR (op_in_seq : OpR _ _ (rIn K false)) (pv 2) (pv 0) (by rfl)))))), ?_⟩
    walk_at "rd"
    refine ⟨by omega, by omega, lc_same walk_range (fun j : Nat => V.bl (decide ((j : Int) ∈ ps))) (sz100 (by omega)) (fun _ _ => trivial) ?_ mono_name mono_yes ?_⟩
    · rintro i x H1 H2 hi hS ⟨rfl, rfl⟩ R hR
      walk_at "rd"
      refine ⟨a, _, rfl, .inr (sqt_of (hS _ _ ha)), rfl, ?_, ?_⟩
      · rw [List.all_map, List.all_eq_true]
        exact fun _ _ => rfl
      · rw [in_ints, Int.zero_add]
        exact hR _ (Same.refl _)
    · intro H2 D hS hD hL
      exact q D H2 hS hD (by simpa using hL)
end

section
variable {w : World} {K : PySem.W.Frag} {mg : Str → Option Value} {base : Heap}
/-- what a roll of the dice leaves -/
def small : HO → Prop
  | .tup _ => True
  | .lst xs => xs.length ≤ 1
  | .dK _ => True
  | _ => False
def Kps (H H' : Hp) : Prop := ∀ a o, H a = some o → small o → H' a = some o
theorem Kps.same {H H' : Hp} (s : Same H H') : Kps H H' := fun a o e _ => s a o e
theorem Kps.gr {d : Addr} {H H' : Hp} (hd : Dc H d) (g : Gr d H H') : Kps H H' := by
  intro a o e z
  refine g.keep a o ?_ e
  rintro rfl
  obtain ⟨x, y, z', q⟩ := hd
  rw [q] at e
  cases e
  exact absurd (show 3 ≤ 1 from z) (by decide)
theorem Kps.trans {H H1 H2 : Hp} (a : Kps H H1) (b : Kps H1 H2) : Kps H H2 := fun x o e z => b x o (a x o e z) z
mutual
/-- v has the data d -/
def VkD (H : Hp) : PyData → V → Prop
  | .none, v => v = .non
  | .bool b, v => v = .bl b
  | .int i, v => v = .int i
  | .str z, v => v = .str z
  | .tuple ds, v => ∃ a xs, v = .ref a ∧ H a = some (.tup xs) ∧ VkL H ds xs
  | .list ds, v => ∃ a xs, v = .ref a ∧ H a = some (.lst xs) ∧ xs.length ≤ 1 ∧ VkL H ds xs
  | .dict kvs, v => ∃ a, v = .ref a ∧ ((kvs = [] ∧ H a = some (.dK [])) ∨ ∃ k i, kvs = [(.str k, .int i)] ∧ H a = some (.dK [(.inr k, .int i)]))
def VkL (H : Hp) : List PyData → List V → Prop
  | [], xs => xs = []
  | d :: ds, xs => ∃ x r, xs = x :: r ∧ VkD H d x ∧ VkL H ds r
end
mutual
theorem VkD.kps {H H' : Hp} (k : Kps H H') : ∀ (d : PyData) (v : V), VkD H d v → VkD H' d v
  | .none, v, h => by unfold VkD at h ⊢; exact h
  | .bool b, v, h => by unfold VkD at h ⊢; exact h
  | .int i, v, h => by unfold VkD at h ⊢; exact h
  | .str z, v, h => by unfold VkD at h ⊢; exact h
  | .tuple ds, v, h => by
    unfold VkD at h ⊢
    obtain ⟨a, xs, e, ha, hl⟩ := h
    exact ⟨a, xs, e, k _ _ ha trivial, VkL.kps k ds xs hl⟩
  | .list ds, v, h => by
    unfold VkD at h ⊢
    obtain ⟨a, xs, e, ha, hn, hl⟩ := h
    exact ⟨a, xs, e, k _ _ ha hn, hn, VkL.kps k ds xs hl⟩
  | .dict kvs, v, h => by
    unfold VkD at h ⊢
    obtain ⟨a, e, ⟨e1, ha⟩ | ⟨q, i, e1, ha⟩⟩ := h
    · exact ⟨a, e, .inl ⟨e1, k _ _ ha trivial⟩⟩
    · exact ⟨a, e, .inr ⟨q, i, e1, k _ _ ha trivial⟩⟩
theorem VkL.kps {H H' : Hp} (k : Kps H H') : ∀ (ds : List PyData) (xs : List V), VkL H ds xs → VkL H' ds xs
  | [], xs, h => by unfold VkL at h ⊢; exact h
  | d :: ds, xs, h => by
    unfold VkL at h ⊢
    obtain ⟨x, r, e, h1, h2⟩ := h
    exact ⟨x, r, e, VkD.kps k d x h1, VkL.kps k ds r h2⟩
end
mutual
theorem VkD.dp {H : Hp} : ∀ (d : PyData) (v : V), VkD H d v → d.hasDict = false → Dp K H v d
  | .none, v, h, _ => by unfold VkD at h; subst h; exact .non
  | .bool b, v, h, _ => by unfold VkD at h; subst h; exact .bl b
  | .int i, v, h, _ => by unfold VkD at h; subst h; exact .int i
  | .str z, v, h, _ => by unfold VkD at h; subst h; exact .str z
  | .tuple ds, v, h, n => by
    unfold VkD at h
    obtain ⟨a, xs, rfl, ha, hl⟩ := h
    exact .tup (sqt_of ha) (VkL.dp ds xs hl (by simpa [PyData.hasDict] using n))
  | .list ds, v, h, n => by
    unfold VkD at h
    obtain ⟨a, xs, rfl, ha, _, hl⟩ := h
    exact .lst (sql_of ha) (VkL.dp ds xs hl (by simpa [PyData.hasDict] using n))
  | .dict kvs, v, h, n => by simp [PyData.hasDict] at n
theorem VkL.dp {H : Hp} : ∀ (ds : List PyData) (xs : List V), VkL H ds xs → PyData.hasDictAll ds = false → DpAll K H xs ds
  | [], xs, h, _ => by unfold VkL at h; subst h; exact .nil
  | d :: ds, xs, h, n => by
    unfold VkL at h
    obtain ⟨x, r, rfl, h1, h2⟩ := h
    rw [PyData.hasDictAll, Bool.or_eq_false_iff] at n
    exact .cons (VkD.dp d x h1 n.1) (VkL.dp ds r h2 n.2)
end
/-- v has the data d, which can be shown -/
structure Val (H : Hp) (v : V) (d : PyData) : Prop where
  at_ : VkD H d v
  sm : Sm d
  nd : d.hasDict = false ∨ ∃ kvs, d = .dict kvs
theorem Val.kps {H H' : Hp} {v : V} {d : PyData} (h : Val H v d) (k : Kps H H') : Val H' v d := ⟨VkD.kps k d v h.at_, h.sm, h.nd⟩
theorem Val.vd {H : Hp} {v : V} {d : PyData} (h : Val H v d) : Vd K H v d := by
  rcases h.nd with n | ⟨kvs, rfl⟩
  · exact .flat (VkD.dp d v h.at_ n) n
  · have h1 := h.at_
    unfold VkD at h1
    obtain ⟨a, rfl, ⟨rfl, ha⟩ | ⟨q, i, rfl, ha⟩⟩ := h1
    · exact .emp ha
    · exact .one ha
theorem pe_callGS {X : Cx} {CX : CXT} {k : Nat} {f : Addr} {fd : FuncData} {ps : List Str} {sp : Sp} {E : L2.St → XK} {x : Str} {p pos : Pos} {e : Expr} {es : List Expr} {t : TA} (F : FnG X.prog X.w X.K X.mg X.base CX k f fd ps sp) (hgd : X.A.guards = some []) (hr : Room k X.A) (hg : Gl X x)
    (hm : X.mg x = some (.ref f)) (hk : PySem.W.keepIn X.K (.ref f) = true) (hb : Binds X.K fd ps []) (hx : ∀ σ, PassesAt CX X σ (E σ)) (ha : PA X (e :: es) t) (hdb : (x == ("__debug__" : Str)) = false := by decide)
    (he : starEach (e :: es) X.env = (false, eval e X.env) :: starEach es X.env := by rfl) (hpl : (backTo pos (starEach es X.env)).any (·.1) = false := by rfl) : PE X (.Call (.Name x p) (e :: es) [] pos) (tCallS sp E t) := by
  refine ⟨fun pins s σ H Q I h => wpAny_Call_Name_kw (ld_glob I hg hm ?_ hdb)⟩
  refine PySem.W.callWith_K (h₀ := X.base) I.ok.mod.kin hk (thn (ha.run pos pins s σ H _ I h) ?_) he hpl
  rintro us s1 ⟨vs, H1, I1, r, q⟩
  have hl : us.length = ps.length := r.length.symm.trans (F.len _ _ _ _ q)
  have b := hb s1 us I1.kIn (by rw [List.append_nil]; exact hl)
  rw [List.append_nil] at b
  refine ⟨I1.kIn, wpAny_call (codeAny_mono (F.run X.A hgd X.stack s1 H1 ⟨us, []⟩ us vs Q (E σ) hr I1.env0 b r q) ?_)⟩
  rintro (er | (_ | _ | _ | u)) s' hq
  all_goals first
    | exact hx σ pins H1 s1 _ s' I1 hq
    | exact I1.after hq
    | exact False.elim hq
def spx_raise (T : Tx K mg) : Sp := fun vs H Q E => ∃ (k : Nat) (v : V) (d : PyData), vs = [.int k, v] ∧ k < 7 ∧ Val H v d ∧ ∀ dd H', Same H H' → H' dd = some (.xd [(fld k, v)]) → E (.ref (cl T (5 + k))) (some dd) H'
theorem ok_law_raise (T : Tx K mg) : FnG P w K mg base (L2.CX P w) 2 T.f__law_raise T.d__law_raise ["_law_at", "_law_kept_here"] (spx_raise T) := by
  refine okGX T.F__law_raise sc_law_raise (fun vs H Q E h => ?_) (fun cdv A outer s H vs Q E hgd hr h => ?_)
  · obtain ⟨k, v, d, rfl, _⟩ := h
    rfl
  · obtain ⟨k, v, d, rfl, hk, hv, q⟩ := h
    refine ⟨_, (pss_cons (ps_if (pt_cmpR op_eq (pv 0) pe_int (nomark _)) (pss_one (ps_raise rfl (takes_of rfl rfl rfl rfl) (pmk_keep (kp_ParseError T) hgd hr (pa_cons (pv 1) pa_nil) (by rfl) (by decide)))) pss_nil)
      (pss_cons (ps_if (pt_cmpR op_eq (pv 0) pe_int (nomark _)) (pss_one (ps_raise rfl (takes_of rfl rfl rfl rfl) (pmk_keep (kp_UnknownName T) hgd hr (pa_cons (pv 1) pa_nil) (by rfl) (by decide)))) pss_nil)
      (pss_cons (ps_if (pt_cmpR op_eq (pv 0) pe_int (nomark _)) (pss_one (ps_raise rfl (takes_of rfl rfl rfl rfl) (pmk_keep (kp_UnknownPart T) hgd hr (pa_cons (pv 1) pa_nil) (by rfl) (by decide)))) pss_nil)
      (pss_cons (ps_if (pt_cmpR op_eq (pv 0) pe_int (nomark _)) (pss_one (ps_raise rfl (takes_of rfl rfl rfl rfl) (pmk_keep (kp_NothingToUndo T) hgd hr (pa_cons (pv 1) pa_nil) (by rfl) (by decide)))) pss_nil)
      (pss_cons (ps_if (pt_cmpR op_eq (pv 0) pe_int (nomark _)) (pss_one (ps_raise rfl (takes_of rfl rfl rfl rfl) (pmk_keep (kp_TooMany T) hgd hr (pa_cons (pv 1) pa_nil) (by rfl) (by decide)))) pss_nil)
      (pss_cons (ps_if (pt_cmpR op_eq (pv 0) pe_int (nomark _)) (pss_one (ps_raise rfl (takes_of rfl rfl rfl rfl) (pmk_keep (kp_Refused T) hgd hr (pa_cons (pv 1) pa_nil) (by rfl) (by decide)))) pss_nil)
      (pss_one (ps_raise rfl (takes_of rfl rfl rfl rfl) (pmk_keep (kp_InvalidNumber T) hgd hr (pa_cons (pv 1) pa_nil) (by rfl) (by decide)))))))))), ?_⟩
    walk_at "rd"
    have fin : tKeepX K (cl T (5 + k)) (fld k) (tCons (tVar 1) tNil) [some (.int k), some v] H fun cls d H' => E cls d H' := ⟨v, rfl, v, d, rfl, hv.vd, hv.sm, fun dd hd => q dd _ (same_new hd) upd_same⟩
    clear q
    match k, hk, fin with
    | 0, _, fin => exact ⟨rfl, iteT fin⟩
    | 1, _, fin => exact ⟨rfl, iteF ⟨rfl, iteT fin⟩⟩
    | 2, _, fin => exact ⟨rfl, iteF ⟨rfl, iteF ⟨rfl, iteT fin⟩⟩⟩
    | 3, _, fin => exact ⟨rfl, iteF ⟨rfl, iteF ⟨rfl, iteF ⟨rfl, iteT fin⟩⟩⟩⟩
    | 4, _, fin => exact ⟨rfl, iteF ⟨rfl, iteF ⟨rfl, iteF ⟨rfl, iteF ⟨rfl, iteT fin⟩⟩⟩⟩⟩
    | 5, _, fin => exact ⟨rfl, iteF ⟨rfl, iteF ⟨rfl, iteF ⟨rfl, iteF ⟨rfl, iteF ⟨rfl, iteT fin⟩⟩⟩⟩⟩⟩
    | 6, _, fin => exact ⟨rfl, iteF ⟨rfl, iteF ⟨rfl, iteF ⟨rfl, iteF ⟨rfl, iteF ⟨rfl, iteF fin⟩⟩⟩⟩⟩⟩
end

set_option pp.maxSteps 900

section
variable {w : World} {K : PySem.W.Frag} {mg : Str → Option Value} {base : Heap}
theorem rmC {k j : Nat} {A : Around} {e : Option Value} (r : Room k A) (h : j ≤ k := by decide) : L2H.RoomH j (A.mark e) := ⟨((L2H.roomH_of r).mono h).dp, ((L2H.roomH_of r).mono h).un⟩
/-- the classes that _law_caught names -/
def cc (T : Tx K mg) : Nat → Value
  | 0 => .ref T.C_RivalError | 1 => .ref T.C_UnknownName | 2 => .ref T.C_TooMany | 3 => .ref T.C_Refused | 4 => .ref T.C_UnknownPart | 5 => .ref T.C_NothingToUndo | _ => .ref T.C_InvalidNumber
def emB (k j : Nat) : Bool := (j == 0 && k == 0) || (j == 1 && k == 1) || (j == 2 && k == 4) || (j == 3 && k == 5) || (j == 4 && k == 2) || (j == 5 && k == 3) || (j == 6 && k == 6)
theorem ems (T : Tx K mg) : ∀ k, k < 7 → ∀ j, j < 7 → PySem.W.exmOne K (.ref (cl T (5 + k))) (cc T j) = some (emB k j)
  | 0, _ => kit_row T.em_ParseError
  | 1, _ => kit_row T.em_UnknownName
  | 2, _ => kit_row T.em_UnknownPart
  | 3, _ => kit_row T.em_NothingToUndo
  | 4, _ => kit_row T.em_TooMany
  | 5, _ => kit_row T.em_Refused
  | 6, _ => kit_row T.em_InvalidNumber
  | k + 7, h => absurd h (by omega)
theorem em1 (T : Tx K mg) {k : Nat} (hk : k < 7) (j : Nat) (hj : j < 7) : PySem.W.exmAny K (.ref (cl T (5 + k))) [cc T j] = some (emB k j) := by
  unfold PySem.W.exmAny
  rw [ems T k hk j hj]
  simp [PySem.W.exmAny]
theorem em2 (T : Tx K mg) {k : Nat} (hk : k < 7) (i j : Nat) (hi : i < 7) (hj : j < 7) : PySem.W.exmAny K (.ref (cl T (5 + k))) [cc T i, cc T j] = some (emB k i || emB k j) := by
  unfold PySem.W.exmAny
  rw [ems T k hk i hi, em1 T hk j hj]
def wd : Nat → Str
  | 0 => "rival" | 1 => "key" | 2 => "part" | 3 => "other" | 4 => "far" | 5 => "far" | _ => "other"
def sp_caught (T : Tx K mg) : Sp := fun vs H Q _ => ∃ (k : Nat) (v : V) (d : PyData), vs = [.int k, v] ∧ k < 7 ∧ Val H v d ∧ ∀ p H', Same H H' → H' p = some (.lst [.str (wd k), .str d.shown]) → Q (.ref p) H'
theorem ok_law_caught (T : Tx K mg) : FnG P w K mg base CX0 3 T.f__law_caught T.d__law_caught ["_law_at", "_law_kept_here"] (sp_caught T) := by
  refine okG T.F__law_caught sc_law_caught (fun vs H Q E h => ?_) (fun cdv A outer s H vs Q E hgd hr h => ?_)
  · obtain ⟨k, v, d, rfl, _⟩ := h
    rfl
  · obtain ⟨k, v, d, rfl, hk, hv, q⟩ := h
    refine ⟨_, (pss_cons (ps_try_held rfl rfl rfl (fun W pn xe tk _ => pss_one (ps_expr (pe_callGS (ok_law_raise T) hgd (hr.mono (by decide)) (by rfl) T.g__law_raise T.F__law_raise.kp T.b__law_raise (fun σ => passAt tk σ) (pa_cons (pv 0) (pa_cons (pv 1) pa_nil)))))
      (.cons (.one (i := 2) sc_law_caught.nd rfl rfl ⟨rfl, by decide, .inl T.m_RivalError⟩ (fun a pn => (pss_one (ps_ret (pe_lst (pa_cons pe_str (pa_cons (pe_callB (call_rpV hgd hr.units : CallR _ (.builtin "repr") (rRpV K)) (by rfl) T.n_repr (by decide +kernel) (pa_cons (pe_callC (ok_law_kept T) (rmC hr) (by rfl) T.g__law_kept T.F__law_kept.kp T.b__law_kept .nil pass0 (pa_cons (pv 0) (pa_cons (pv 2) pa_nil))) pa_nil)) pa_nil)))))))
      (.cons (.one (i := 2) sc_law_caught.nd rfl rfl ⟨rfl, by decide, .inl T.m_UnknownName⟩ (fun a pn => (pss_one (ps_ret (pe_lst (pa_cons pe_str (pa_cons (pe_callB (call_rpV hgd hr.units : CallR _ (.builtin "repr") (rRpV K)) (by rfl) T.n_repr (by decide +kernel) (pa_cons (pe_callC (ok_law_kept T) (rmC hr) (by rfl) T.g__law_kept T.F__law_kept.kp T.b__law_kept .nil pass0 (pa_cons (pv 0) (pa_cons (pv 2) pa_nil))) pa_nil)) pa_nil)))))))
      (.cons (.two (i := 2) sc_law_caught.nd rfl rfl ⟨rfl, by decide, .inl T.m_TooMany⟩ ⟨rfl, by decide, .inl T.m_Refused⟩ (fun a pn => (pss_one (ps_ret (pe_lst (pa_cons pe_str (pa_cons (pe_callB (call_rpV hgd hr.units : CallR _ (.builtin "repr") (rRpV K)) (by rfl) T.n_repr (by decide +kernel) (pa_cons (pe_callC (ok_law_kept T) (rmC hr) (by rfl) T.g__law_kept T.F__law_kept.kp T.b__law_kept .nil pass0 (pa_cons (pv 0) (pa_cons (pv 2) pa_nil))) pa_nil)) pa_nil)))))))
      (.cons (.one (i := 2) sc_law_caught.nd rfl rfl ⟨rfl, by decide, .inl T.m_UnknownPart⟩ (fun a pn => (pss_one (ps_ret (pe_lst (pa_cons pe_str (pa_cons (pe_callB (call_rpV hgd hr.units : CallR _ (.builtin "repr") (rRpV K)) (by rfl) T.n_repr (by decide +kernel) (pa_cons (pe_callC (ok_law_kept T) (rmC hr) (by rfl) T.g__law_kept T.F__law_kept.kp T.b__law_kept .nil pass0 (pa_cons (pv 0) (pa_cons (pv 2) pa_nil))) pa_nil)) pa_nil)))))))
      (.cons (.two (i := 2) sc_law_caught.nd rfl rfl ⟨rfl, by decide, .inl T.m_NothingToUndo⟩ ⟨rfl, by decide, .inl T.m_InvalidNumber⟩ (fun a pn => (pss_one (ps_ret (pe_lst (pa_cons pe_str (pa_cons (pe_callB (call_rpV hgd hr.units : CallR _ (.builtin "repr") (rRpV K)) (by rfl) T.n_repr (by decide +kernel) (pa_cons (pe_callC (ok_law_kept T) (rmC hr) (by rfl) T.g__law_kept T.F__law_kept.kp T.b__law_kept .nil pass0 (pa_cons (pv 0) (pa_cons (pv 2) pa_nil))) pa_nil)) pa_nil))))))) .nil))))))
      (pss_one (ps_ret (pe_lst pa_nil)))), ?_⟩
    walk_at "rd"
    have fin : ∀ dd H1, Same H H1 → H1 dd = some (.xd [(fld k, v)]) → ∀ a, H1 a = none → ∃ v0, (List.set [some (V.int k), some v, none] 2 (some (V.ref a)))[0]? = some (some v0) ∧ ∃ v1, (List.set [some (V.int k), some v, none] 2 (some (V.ref a)))[2]? = some (some v1) ∧
        sp_kept T [v0, v1] (upd H1 a (EvO (cl T (5 + k)) dd a)) (fun x H1 => rRpV K [x] H1 fun x H1 => 2 ≤ sizeLine ∧ ∀ p, H1 p = none → Q (.ref p) (upd H1 p (.lst [.str (wd k), x]))) E0 := by
      intro dd H1 s1 f1 a ha
      have ne : dd ≠ a := ne_of_none f1 ha
      have s2 := s1.trans (same_new (o := EvO (cl T (5 + k)) dd a) ha)
      exact ⟨_, rfl, _, rfl, k, a, v, rfl, hk, ⟨dd, upd_same, by rw [upd_ne ne]; exact f1⟩, v, d, rfl, (hv.kps (.same s2)).vd, hv.sm, by decide, fun p hp => q p _ (s2.trans (same_new hp)) upd_same⟩
    refine ⟨_, rfl, _, rfl, k, v, d, rfl, hk, hv, fun dd H1 s1 f1 => ?_⟩
    clear q hv
    match k, hk, f1, fin with
    | 0, hk, f1, fin => exact .inl ⟨em1 T hk 0 (by decide), _, dd, rfl, rfl, fin dd H1 s1 f1⟩
    | 1, hk, f1, fin => exact .inr ⟨em1 T hk 0 (by decide), .inl ⟨em1 T hk 1 (by decide), _, dd, rfl, rfl, fin dd H1 s1 f1⟩⟩
    | 2, hk, f1, fin => exact .inr ⟨em1 T hk 0 (by decide), .inr ⟨em1 T hk 1 (by decide), .inr ⟨em2 T hk 2 3 (by decide) (by decide), .inl ⟨em1 T hk 4 (by decide), _, dd, rfl, rfl, fin dd H1 s1 f1⟩⟩⟩⟩
    | 3, hk, f1, fin => exact .inr ⟨em1 T hk 0 (by decide), .inr ⟨em1 T hk 1 (by decide), .inr ⟨em2 T hk 2 3 (by decide) (by decide), .inr ⟨em1 T hk 4 (by decide), .inl ⟨em2 T hk 5 6 (by decide) (by decide), _, dd, rfl, rfl, fin dd H1 s1 f1⟩⟩⟩⟩⟩
    | 4, hk, f1, fin => exact .inr ⟨em1 T hk 0 (by decide), .inr ⟨em1 T hk 1 (by decide), .inl ⟨em2 T hk 2 3 (by decide) (by decide), _, dd, rfl, rfl, fin dd H1 s1 f1⟩⟩⟩
    | 5, hk, f1, fin => exact .inr ⟨em1 T hk 0 (by decide), .inr ⟨em1 T hk 1 (by decide), .inl ⟨em2 T hk 2 3 (by decide) (by decide), _, dd, rfl, rfl, fin dd H1 s1 f1⟩⟩⟩
    | 6, hk, f1, fin => exact .inr ⟨em1 T hk 0 (by decide), .inr ⟨em1 T hk 1 (by decide), .inr ⟨em2 T hk 2 3 (by decide) (by decide), .inr ⟨em1 T hk 4 (by decide), .inl ⟨em2 T hk 5 6 (by decide) (by decide), _, dd, rfl, rfl, fin dd H1 s1 f1⟩⟩⟩⟩⟩
end

set_option pp.maxSteps 1500

section
variable {w : World} {K : PySem.W.Frag} {mg : Str → Option Value} {base : Heap}
/-- data that can be shown, with at most m signs -/
structure SmN (d : PyData) (m k : Nat) : Prop where
  sh : d.showable = true
  dp : d.depth ≤ k
  ln : d.shown.length ≤ m
theorem SmN.sm {d : PyData} {m k : Nat} (h : SmN d m k) (hm : m ≤ 90000) (hk : k ≤ 60) (tx : ∀ z, d = .str z → z.length ≤ 90000) : Sm d := ⟨h.sh, Nat.le_trans h.dp hk, Nat.le_trans h.ln hm, tx⟩
theorem sm_int {i : Int} (h : i.natAbs.log2 < 1920) : SmN (.int i) 1921 0 := ⟨by simpa [PyData.showable] using h, by simp [PyData.depth], int_text_len_1921 h⟩
theorem sm_str {z : Str} (h : Pl z) (l : z.length ≤ 12) : SmN (.str z) 122 0 := ⟨rfl, by simp [PyData.depth], by have := rlen h; show (reprText z).length ≤ _; omega⟩
theorem sm_t0 : SmN (.tuple []) 5 1 := ⟨rfl, by decide, by decide⟩
theorem sm_l0 : SmN (.list []) 5 1 := ⟨rfl, by decide, by decide⟩
theorem sm_d0 : SmN (.dict []) 5 1 := ⟨rfl, by decide, by decide⟩
theorem sm_t1 {a : PyData} {m k : Nat} (h : SmN a m k) : SmN (.tuple [a]) (m + 5) (k + 1) := by
  have h1 := h.ln
  have h2 := h.dp
  refine ⟨by simp [PyData.showable, PyData.showableAll, h.sh], by simp [PyData.depth, PyData.depthAll]; omega, ?_⟩
  have e := tupleText_len_le (PyData.shownAll [a])
  simp only [PyData.shown]
  simp [PyData.shownAll] at e ⊢
  omega
theorem sm_t2 {a b : PyData} {m n k j : Nat} (h : SmN a m k) (g : SmN b n j) : SmN (.tuple [a, b]) (m + n + 7) (k + j + 1) := by
  have h1 := h.ln
  have h2 := h.dp
  have g1 := g.ln
  have g2 := g.dp
  refine ⟨by simp [PyData.showable, PyData.showableAll, h.sh, g.sh], by simp [PyData.depth, PyData.depthAll]; omega, ?_⟩
  have e := tupleText_len_le (PyData.shownAll [a, b])
  simp only [PyData.shown]
  simp [PyData.shownAll] at e ⊢
  omega
theorem sm_l1 {a : PyData} {m k : Nat} (h : SmN a m k) : SmN (.list [a]) (m + 5) (k + 1) := by
  have h1 := h.ln
  have h2 := h.dp
  refine ⟨by simp [PyData.showable, PyData.showableAll, h.sh], by simp [PyData.depth, PyData.depthAll]; omega, ?_⟩
  have e := listText_len_le (PyData.shownAll [a])
  simp only [PyData.shown]
  simp [PyData.shownAll] at e ⊢
  omega
theorem sm_d1 {i : Int} (h : i.natAbs.log2 < 1920) : SmN (.dict [(.str (Str.ofString "a"), .int i)]) 1940 1 := by
  have h0 := sm_int h
  have h1 : (PyData.shown (.int i)).length ≤ 1921 := h0.ln
  refine ⟨by simp [PyData.showable, PyData.showableKv]; exact h, by simp [PyData.depth, PyData.depthKv], ?_⟩
  have e := dictText_len_le (PyData.shownKv [(.str (Str.ofString "a"), .int i)])
  have e2 : (PyData.shown (.str (Str.ofString "a"))).length = 3 := by decide +kernel
  simp only [PyData.shown]
  simp only [PyData.shownKv, List.map_cons, List.map_nil, List.sum_cons, List.sum_nil, List.length_cons, List.length_nil, strLen_append, e2] at e ⊢
  have e3 : (Str.ofString ": ").length = 2 := rfl
  omega
def signs : Str := Str.ofString "abcdefghijklmnopqrstuvwxyzABCDEFGHIJKLMNOPQRSTUVWXYZ 0123456789.,:;-_()[]*>="
theorem signs_low : ∀ c ∈ signs.cps.toList, c < 256 := by decide +kernel
def sp_word : Sp := fun vs H Q _ => ∃ (d : Addr), vs = [.ref d] ∧ Dc H d ∧ ∀ z H', Gr d H H' → Pl z → z.length ≤ 12 → Q (.str z) H'
theorem ok_law_word (T : Tx K mg) : FnOk P w K mg base CX0 3 T.f__law_word T.d__law_word ["_law_dice_here"] sp_word := by
  refine T.F__law_word.ok sc_law_word (fun vs H Q E h => ?_) (fun cdv A outer s H vs Q E hr h => ?_)
  · obtain ⟨d, rfl, _⟩ := h
    rfl
  · obtain ⟨d, rfl, hd, q⟩ := h
    refine ⟨_, (pss_cons (ps_set (i := 1) sc_law_word.nd rfl (Or.inr rfl) pe_str)
      (pss_one (ps_ret (pe_joinN pe_str (pe_lc (own := [("_law_turn", 2)]) (g := gName 2) (by rfl) sc_law_word.nd (pi_range1 (by rfl) T.n_range (pa_cons (pe_call (ok_law_roll T) (hr.mono (by decide)) (by rfl) T.g__law_roll T.F__law_roll.kp T.b__law_roll .nil pass0 (pa_cons (pv 0) (pa_cons pe_int pa_nil))) pa_nil)) (blkOk_by (own := [("_law_turn", 2)]) (N := ["_law_dice_here", "_law_signs", "_law_turn"]) (sc := defScope s_law_word) (by decide +kernel)) (fun _ _ _ _ _ => (pg_name (i := 2) sc_law_word.nd rfl (Or.inl rfl))) (fun _ _ _ _ _ => pts_nil) (fun _ _ _ _ _ => (pe_call (ok_law_pick T) (hr.mono (by decide)) (by rfl) T.g__law_pick T.F__law_pick.kp T.b__law_pick .nil pass0 (pa_cons (pv 0) (pa_cons (pv 1) pa_nil))))))))), ?_⟩
    walk_at "rd"
    refine ⟨⟨_, rfl⟩, roll_new hd (by decide) (by decide) fun r H1 r0 r1 g1 => ?_⟩
    walk_at "rd"
    obtain ⟨n, rfl⟩ : ∃ n : Nat, r = (n : Int) := ⟨r.toNat, by omega⟩
    refine ⟨by omega, by omega, lc_gr walk_range (fun _ y => ∃ c, y = V.str (sg c) ∧ c ∈ signs.cps.toList) (sz100 (by omega)) g1.dice (fun _ _ => trivial) ?_ mono_name mono_yes ?_⟩
    · rintro i2 x2 H5 H6 hi2 g6 ⟨rfl, rfl⟩ R hR
      walk_at "rd"
      exact ⟨d, _, rfl, g6.dice, .inr ⟨signs, rfl, by decide +kernel, by decide +kernel, by decide +kernel, fun c H7 hc g7 => hR _ _ ⟨c, rfl, hc⟩ g7⟩⟩
    · intro H5 D zs g6 hD nD hzl hzs hL
      obtain ⟨cs, rfl, hcl, hcs⟩ := ex_cs (P := fun c => c ∈ signs.cps.toList) fun i y hy => hzs i y hy
      have tl := tl_joinSg cs
      refine joinL' (sql_of hL) ?_ (q _ _ (g1.trans g6) ?_ ?_)
      · rw [sum_ones, show (Str.ofString "").length = 0 from rfl]
        exact sz100 (by omega)
      · intro c hc
        have hc' : c ∈ TL.tl (Txt.join (Str.ofString "") (cs.map sg)) := hc
        rw [tl] at hc'
        exact signs_low c (hcs c hc')
      · rw [len_tl, tl]
        omega
theorem vl1 {H : Hp} {d : PyData} {x : V} (h : VkD H d x) : VkL H [d] [x] := by
  unfold VkL
  exact ⟨x, [], rfl, h, by unfold VkL; rfl⟩
theorem vl2 {H : Hp} {d e : PyData} {x y : V} (h : VkD H d x) (g : VkD H e y) : VkL H [d, e] [x, y] := by
  unfold VkL
  exact ⟨x, [y], rfl, h, vl1 g⟩
def sp_value : Sp := fun vs H Q _ => ∃ (d : Addr), vs = [.ref d] ∧ Dc H d ∧ ∀ v dt H', Gr d H H' → Val H' v dt → Q v H'
theorem ok_law_value (T : Tx K mg) : FnOk P w K mg base CX0 4 T.f__law_value T.d__law_value ["_law_dice_here"] sp_value := by
  refine T.F__law_value.ok sc_law_value (fun vs H Q E h => ?_) (fun cdv A outer s H vs Q E hr h => ?_)
  · obtain ⟨d, rfl, _⟩ := h
    rfl
  · obtain ⟨d, rfl, hd, q⟩ := h
    refine ⟨_, (pss_cons (ps_set (i := 1) sc_law_value.nd rfl (Or.inl rfl) (pe_op op_add (pe_call (ok_law_pick T) (hr.mono (by decide)) (by rfl) T.g__law_pick T.F__law_pick.kp T.b__law_pick .nil pass0 (pa_cons (pv 0) (pa_cons (pe_lst (pa_cons pe_int (pa_cons pe_int (pa_cons pe_int (pa_cons pe_int (pa_cons (pe_un un_neg pe_int) (pa_cons (pe_op op_pow pe_int pe_int) pa_nil))))))) pa_nil))) (pe_call (ok_law_roll T) (hr.mono (by decide)) (by rfl) T.g__law_roll T.F__law_roll.kp T.b__law_roll .nil pass0 (pa_cons (pv 0) (pa_cons pe_int pa_nil)))))
      (pss_cons (ps_set (i := 2) sc_law_value.nd rfl (Or.inl rfl) (pe_lst (pa_cons pe_non (pa_cons (pv 1) (pa_cons (pe_call (ok_law_word T) (hr.mono (by decide)) (by rfl) T.g__law_word T.F__law_word.kp T.b__law_word .nil pass0 (pa_cons (pv 0) pa_nil)) (pa_cons (pe_tup (pa_cons (pv 1) pa_nil)) (pa_cons (pe_tup (pa_cons pe_str (pa_cons (pe_tup (pa_cons (pe_tup (pa_cons pe_str (pa_cons (pe_call (ok_law_word T) (hr.mono (by decide)) (by rfl) T.g__law_word T.F__law_word.kp T.b__law_word .nil pass0 (pa_cons (pv 0) pa_nil)) pa_nil))) (pa_cons (pe_tup (pa_cons pe_str pa_nil)) pa_nil))) pa_nil))) (pa_cons pe_str (pa_cons pe_dnewK (pa_cons (pe_lst pa_nil) pa_nil))))))))))
      (pss_one (ps_ret (pe_call (ok_law_pick T) (hr.mono (by decide)) (by rfl) T.g__law_pick T.F__law_pick.kp T.b__law_pick .nil pass0 (pa_cons (pv 0) (pa_cons (pe_op op_cat (pv 2) (pe_lst (pa_cons pe_bl (pa_cons pe_bl (pa_cons (pe_tup pa_nil) (pa_cons (pe_tup (pa_cons pe_int (pa_cons (pv 1) pa_nil))) (pa_cons (pe_lst (pa_cons (pv 1) pa_nil)) (pa_cons (pe_disp (pps_cons pe_str (pv 1) pps_nil) (by rfl) (by rfl) (fun z => by cases z) (by decide)) pa_nil)))))))) pa_nil))))))), ?_⟩
    walk_at "rd"
    refine ⟨⟨by decide, by decide +kernel⟩, by decide, fun p hp => pick_new hd hp (by simp) (by simp) fun y H1 hy g1 => roll_new g1.dice (by decide) (by decide) fun r H2 r0 r1 g2 => ?_⟩
    obtain ⟨i, rfl, i0, i1⟩ : ∃ i : Int, y = .int i ∧ -1 ≤ i ∧ i ≤ 10 ^ Int.toNat 59 := by
      simp only [List.mem_cons, List.not_mem_nil, or_false] at hy
      rcases hy with rfl | rfl | rfl | rfl | rfl | rfl
      · exact ⟨0, rfl, by decide +kernel, by decide +kernel⟩
      · exact ⟨1, rfl, by decide +kernel, by decide +kernel⟩
      · exact ⟨100, rfl, by decide +kernel, by decide +kernel⟩
      · exact ⟨2000, rfl, by decide +kernel, by decide +kernel⟩
      · exact ⟨-1, rfl, by decide +kernel, by decide +kernel⟩
      · exact ⟨_, rfl, by decide +kernel, Int.le_refl _⟩
    have nb : (i + r).natAbs.log2 < 1920 := by
      have big : (10 : Int) ^ Int.toNat 59 + 5 < 2 ^ 200 := by decide +kernel
      have small : (i + r).natAbs < 2 ^ 200 := by
        have e : ((2 ^ 200 : Nat) : Int) = 2 ^ 200 := by norm_cast
        omega
      by_cases z : (i + r).natAbs = 0
      · rw [z]
        decide
      · exact Nat.lt_trans ((Nat.log2_lt z).2 small) (by decide)
    refine ⟨i, rfl, r, rfl, ?_⟩
    generalize i + r = n at *
    refine ⟨d, rfl, g2.dice, fun z1 H3 g3 pz1 lz1 => ⟨by decide, fun p1 hp1 => ?_⟩⟩
    have G3 := (g1.trans g2).trans g3
    have s4 := same_new (o := .tup [.int n]) hp1
    have f1 : upd H3 p1 (.tup [.int n]) p1 = some (.tup [.int n]) := upd_same
    generalize upd H3 p1 (.tup [.int n]) = H4 at *
    have G4 := G3.trans (Gr.same G3.dice s4)
    refine ⟨d, rfl, G4.dice, fun z2 H5 g5 pz2 lz2 => ⟨by decide, fun p2 hp2 => ?_⟩⟩
    have G5 := G4.trans g5
    have f1' : H5 p1 = some (.tup [.int n]) := (Kps.gr G4.dice g5) _ _ f1 trivial
    have s6 := same_new (o := .tup [.str (Str.ofString "box"), .str z2]) hp2
    have f2 : upd H5 p2 (.tup [.str (Str.ofString "box"), .str z2]) p2 = some (.tup [.str (Str.ofString "box"), .str z2]) := upd_same
    generalize upd H5 p2 (.tup [.str (Str.ofString "box"), .str z2]) = H6 at *
    refine ⟨by decide, fun p3 hp3 => ?_⟩
    have s7 := same_new (o := .tup [.str (Str.ofString "int")]) hp3
    have f3 : upd H6 p3 (.tup [.str (Str.ofString "int")]) p3 = some (.tup [.str (Str.ofString "int")]) := upd_same
    generalize upd H6 p3 (.tup [.str (Str.ofString "int")]) = H7 at *
    refine ⟨by decide, fun p4 hp4 => ?_⟩
    have s8 := same_new (o := .tup [.ref p2, .ref p3]) hp4
    have f4 : upd H7 p4 (.tup [.ref p2, .ref p3]) p4 = some (.tup [.ref p2, .ref p3]) := upd_same
    generalize upd H7 p4 (.tup [.ref p2, .ref p3]) = H8 at *
    refine ⟨by decide, fun p5 hp5 => ?_⟩
    have s9 := same_new (o := .tup [.str (Str.ofString "f"), .ref p4]) hp5
    have f5 : upd H8 p5 (.tup [.str (Str.ofString "f"), .ref p4]) p5 = some (.tup [.str (Str.ofString "f"), .ref p4]) := upd_same
    generalize upd H8 p5 (.tup [.str (Str.ofString "f"), .ref p4]) = H9 at *
    refine fun p6 hp6 => ?_
    have sa := same_new (o := .dK []) hp6
    have f6 : upd H9 p6 (.dK []) p6 = some (.dK []) := upd_same
    generalize upd H9 p6 (.dK []) = Ha at *
    refine ⟨by decide, fun p7 hp7 => ?_⟩
    have sb := same_new (o := .lst []) hp7
    have f7 : upd Ha p7 (.lst []) p7 = some (.lst []) := upd_same
    generalize upd Ha p7 (.lst []) = Hb at *
    refine ⟨by decide, fun p8 hp8 => ?_⟩
    have sc := same_new (o := .lst [.non, .int n, .str z1, .ref p1, .ref p5, .str (Str.ofString "f"), .ref p6, .ref p7]) hp8
    have f8 : upd Hb p8 (.lst [.non, .int n, .str z1, .ref p1, .ref p5, .str (Str.ofString "f"), .ref p6, .ref p7]) p8 = some (.lst [.non, .int n, .str z1, .ref p1, .ref p5, .str (Str.ofString "f"), .ref p6, .ref p7]) := upd_same
    generalize upd Hb p8 (.lst [.non, .int n, .str z1, .ref p1, .ref p5, .str (Str.ofString "f"), .ref p6, .ref p7]) = Hc at *
    refine ⟨by decide, fun p9 hp9 => ?_⟩
    have sd := same_new (o := .tup []) hp9
    have f9 : upd Hc p9 (.tup []) p9 = some (.tup []) := upd_same
    generalize upd Hc p9 (.tup []) = Hd at *
    refine ⟨by decide, fun pa hpa => ?_⟩
    have se := same_new (o := .tup [.int 1, .int n]) hpa
    have fa : upd Hd pa (.tup [.int 1, .int n]) pa = some (.tup [.int 1, .int n]) := upd_same
    generalize upd Hd pa (.tup [.int 1, .int n]) = He at *
    refine ⟨by decide, fun pb hpb => ?_⟩
    have sf := same_new (o := .lst [.int n]) hpb
    have fb : upd He pb (.lst [.int n]) pb = some (.lst [.int n]) := upd_same
    generalize upd He pb (.lst [.int n]) = Hf at *
    refine fun pc hpc => ⟨upd_same, [(.inr (Str.ofString "a"), .int n)], rfl, by simp, ?_⟩
    have sg' : Same Hf (upd (upd Hf pc (.dK [])) pc (.dK (mergeK [] [(.inr (Str.ofString "a"), .int n)]))) := same_mut (same_new hpc) hpc
    have fc : upd (upd Hf pc (.dK [])) pc (.dK (mergeK [] [(.inr (Str.ofString "a"), .int n)])) pc = some (.dK (mergeK [] [(.inr (Str.ofString "a"), .int n)])) := upd_same
    generalize upd (upd Hf pc (.dK [])) pc (.dK (mergeK [] [(.inr (Str.ofString "a"), .int n)])) = Hg at *
    refine ⟨by decide, fun pd hpd => ?_⟩
    have sh := same_new (o := .lst [.bl true, .bl false, .ref p9, .ref pa, .ref pb, .ref pc]) hpd
    have fd : upd Hg pd (.lst [.bl true, .bl false, .ref p9, .ref pa, .ref pb, .ref pc]) pd = some (.lst [.bl true, .bl false, .ref p9, .ref pa, .ref pb, .ref pc]) := upd_same
    generalize upd Hg pd (.lst [.bl true, .bl false, .ref p9, .ref pa, .ref pb, .ref pc]) = Hh at *
    have t8 := (((sd.trans se).trans sf).trans sg').trans sh
    refine catL (t8 _ _ f8) fd (show 14 ≤ sizeLine by decide) fun pe hpe => ?_
    have t5 := ((((((s6.trans s7).trans s8).trans s9).trans sa).trans sb).trans sc).trans t8
    have Gh := G5.trans (Gr.same G5.dice t5)
    refine pick_new Gh.dice hpe (by simp) (by simp) fun v H' hv g' => ?_
    have fin : ∀ dt, Val Hh v dt → Q v H' := fun dt hv => q v dt H' (Gh.trans g') (hv.kps (.gr Gh.dice g'))
    have tz : ∀ {d : PyData}, (∀ z, d ≠ .str z) → ∀ z, d = .str z → z.length ≤ 90000 := fun h z e => absurd e (h z)
    have u2 := (((((s7.trans s8).trans s9).trans sa).trans sb).trans sc).trans t8
    have u3 := ((((s8.trans s9).trans sa).trans sb).trans sc).trans t8
    have u4 := (((s9.trans sa).trans sb).trans sc).trans t8
    have u5 := ((sa.trans sb).trans sc).trans t8
    have u6 := (sb.trans sc).trans t8
    have u7 := sc.trans t8
    have u9 := ((se.trans sf).trans sg').trans sh
    have ua := (sf.trans sg').trans sh
    have ub := sg'.trans sh
    have ni := sm_int nb
    have vi : VkD Hh (.int n) (.int n) := by unfold VkD; rfl
    simp only [List.mem_append, List.mem_cons, List.not_mem_nil, or_false] at hv
    rcases hv with (rfl | rfl | rfl | rfl | rfl | rfl | rfl | rfl) | (rfl | rfl | rfl | rfl | rfl | rfl)
    · exact fin .none ⟨by unfold VkD; rfl, ⟨rfl, by decide, by decide, fun z e => nomatch e⟩, .inl rfl⟩
    · exact fin (.int n) ⟨vi, ni.sm (by decide) (by decide) fun z e => (nomatch e), .inl rfl⟩
    · exact fin (.str z1) ⟨by unfold VkD; rfl, (sm_str pz1 lz1).sm (by decide) (by decide) (fun z e => by cases e; omega), .inl rfl⟩
    · exact fin (.tuple [.int n]) ⟨by unfold VkD; exact ⟨p1, _, rfl, t5 _ _ f1', vl1 vi⟩, (sm_t1 ni).sm (by decide) (by decide) fun z e => (nomatch e), .inl rfl⟩
    · refine fin (.tuple [.str (Str.ofString "f"), .tuple [.tuple [.str (Str.ofString "box"), .str z2], .tuple [.str (Str.ofString "int")]]]) ⟨?_, (sm_t2 (sm_str (by unfold Pl; decide) (by decide)) (sm_t2 (sm_t2 (sm_str (by unfold Pl; decide) (by decide)) (sm_str pz2 lz2)) (sm_t1 (sm_str (by unfold Pl; decide) (by decide))))).sm (by decide) (by decide) fun z e => (nomatch e), .inl rfl⟩
      have b1 : VkD Hh (.tuple [.str (Str.ofString "box"), .str z2]) (.ref p2) := by unfold VkD; exact ⟨p2, _, rfl, u2 _ _ f2, vl2 (by unfold VkD; rfl) (by unfold VkD; rfl)⟩
      have b2 : VkD Hh (.tuple [.str (Str.ofString "int")]) (.ref p3) := by unfold VkD; exact ⟨p3, _, rfl, u3 _ _ f3, vl1 (by unfold VkD; rfl)⟩
      have b3 : VkD Hh (.tuple [.tuple [.str (Str.ofString "box"), .str z2], .tuple [.str (Str.ofString "int")]]) (.ref p4) := by unfold VkD; exact ⟨p4, _, rfl, u4 _ _ f4, vl2 b1 b2⟩
      unfold VkD
      exact ⟨p5, _, rfl, u5 _ _ f5, vl2 (by unfold VkD; rfl) b3⟩
    · exact fin (.str (Str.ofString "f")) ⟨by unfold VkD; rfl, (sm_str (by unfold Pl; decide) (by decide)).sm (by decide) (by decide) (fun z e => by cases e; decide), .inl rfl⟩
    · exact fin (.dict []) ⟨by unfold VkD; exact ⟨p6, rfl, .inl ⟨rfl, u6 _ _ f6⟩⟩, sm_d0.sm (by decide) (by decide) fun z e => (nomatch e), .inr ⟨_, rfl⟩⟩
    · exact fin (.list []) ⟨by unfold VkD; exact ⟨p7, _, rfl, u7 _ _ f7, by decide, by unfold VkL; rfl⟩, sm_l0.sm (by decide) (by decide) fun z e => (nomatch e), .inl rfl⟩
    · exact fin (.bool true) ⟨by unfold VkD; rfl, ⟨rfl, by decide, by decide, fun z e => nomatch e⟩, .inl rfl⟩
    · exact fin (.bool false) ⟨by unfold VkD; rfl, ⟨rfl, by decide, by decide, fun z e => nomatch e⟩, .inl rfl⟩
    · exact fin (.tuple []) ⟨by unfold VkD; exact ⟨p9, _, rfl, u9 _ _ f9, by unfold VkL; rfl⟩, sm_t0.sm (by decide) (by decide) fun z e => (nomatch e), .inl rfl⟩
    · exact fin (.tuple [.int 1, .int n]) ⟨by unfold VkD; exact ⟨pa, _, rfl, ua _ _ fa, vl2 (by unfold VkD; rfl) vi⟩, (sm_t2 (sm_int (by decide)) ni).sm (by decide) (by decide) fun z e => (nomatch e), .inl rfl⟩
    · exact fin (.list [.int n]) ⟨by unfold VkD; exact ⟨pb, _, rfl, ub _ _ fb, by simp, vl1 vi⟩, (sm_l1 ni).sm (by decide) (by decide) fun z e => (nomatch e), .inl rfl⟩
    · exact fin (.dict [(.str (Str.ofString "a"), .int n)]) ⟨by unfold VkD; exact ⟨pc, rfl, .inr ⟨_, _, rfl, sh _ _ fc⟩⟩, (sm_d1 nb).sm (by decide) (by decide) fun z e => (nomatch e), .inr ⟨_, rfl⟩⟩
end

set_option maxHeartbeats 4000000

section
variable {w : World} {K : PySem.W.Frag} {mg : Str → Option Value} {base : Heap}
theorem rmN {k j : Nat} {A : Around} (r : Room k A) (h : j ≤ k := by decide) : L2H.RoomH j A := (L2H.roomH_of r).mono h
theorem tl_lt (k : Nat) : tl k < 13 := by
  unfold tl
  split <;> omega
/-- what _law_truths makes -/
def truL (ps : List Int) (n : Nat) : List V := (List.range n).map fun j : Nat => V.bl (decide ((j : Int) ∈ ps))
theorem neRow {H : Hp} {a b : Addr} {k lo n : Nat} {ps : List Int} {Q : VK} (h1 : H a = some (.lst (rowL k lo n))) (h2 : H b = some (.lst (truL ps n))) (e : rowL k lo n = truL ps n) (q : Q (.bl false) H) : rNeS K (.ref a) (.ref b) H Q := by
  refine ⟨a, b, rowL k lo n, rfl, rfl, sql_of h1, by rw [e]; exact sql_of h2, ?_, q⟩
  unfold rowL
  rw [List.all_map, List.all_eq_true]
  exact fun _ _ => rfl
theorem row_m : ∀ k, k < 5 → rowL (tl k) 0 13 = truL [(k : Int), 12] 13 := by decide +kernel
theorem row_m5 : rowL (tl 5) 0 13 = truL [12] 13 := by decide +kernel
theorem row_p : ∀ k, k < 6 → rowL (tl k) 13 8 = truL [0] 8 := by decide +kernel
def pyH : Nat → List Int
  | 0 => [0] | 1 => [1, 3] | 2 => [3] | 3 => [2, 3] | 4 => [5, 6] | 5 => [6] | _ => [7]
theorem row_k : ∀ k, k < 7 → k ≠ 0 → rowL (5 + k) 0 13 = truL [5 + (k : Int)] 13 := by decide +kernel
theorem row_k0 : rowL 5 0 13 = truL [5, 12] 13 := by decide +kernel
theorem row_y : ∀ k, k < 7 → rowL (5 + k) 13 8 = truL (pyH k) 8 := by decide +kernel
def inv_m (d : Addr) (Hk : Hp) : Nat → L2.St → Hp → Prop := fun _ σ H' => ∃ (x1 x2 : Option V), σ = [some (.ref d), x1, x2] ∧ Gr d Hk H'
theorem ok_law_messages_right (T : Tx K mg) : FnOk P w K mg base CX0 5 T.f__law_messages_right T.d__law_messages_right ["_law_dice_here"] sp_right := by
  refine T.F__law_messages_right.ok sc_law_messages_right (fun vs H Q E h => ?_) (fun cdv A outer s H vs Q E hr h => ?_)
  · obtain ⟨d, rfl, _⟩ := h
    rfl
  · obtain ⟨d, rfl, hd, q⟩ := h
    refine ⟨_, (pss_cons (ps_for PassesOwn.never rfl (pi_range1 (by rfl) T.n_range (pa_cons pe_int pa_nil)) (pg_name (i := 1) sc_law_messages_right.nd rfl (Or.inl rfl)) (pss_cons (ps_set (i := 2) sc_law_messages_right.nd rfl (Or.inl rfl) (pe_call (ok_law_told T) (hr.mono (by decide)) (by rfl) T.g__law_told T.F__law_told.kp T.b__law_told .nil pass0 (pa_cons (pv 1) (pa_cons (pe_call (ok_law_word T) (hr.mono (by decide)) (by rfl) T.g__law_word T.F__law_word.kp T.b__law_word .nil pass0 (pa_cons (pv 0) pa_nil)) pa_nil))))
      (pss_cons (ps_if (pt_cmpR (op_neS hr.units) (pe_call (ok_law_kinds T) (hr.mono (by decide)) (by rfl) T.g__law_kinds T.F__law_kinds.kp T.b__law_kinds .nil pass0 (pa_cons (pv 2) pa_nil)) (pe_call (ok_law_truths T) (hr.mono (by decide)) (by rfl) T.g__law_truths T.F__law_truths.kp T.b__law_truths .nil pass0 (pa_cons (pe_ifExp (pt_cmpR op_lt (pv 1) pe_int (nomark _)) (pe_tup (pa_cons (pv 1) (pa_cons pe_int pa_nil))) (pe_tup (pa_cons pe_int pa_nil))) (pa_cons pe_int pa_nil))) (nomark _)) (pss_one (ps_ret pe_bl)) pss_nil)
      (pss_one (ps_if (pt_cmpR (op_neS hr.units) (pe_call (ok_law_python T) (hr.mono (by decide)) (by rfl) T.g__law_python T.F__law_python.kp T.b__law_python .nil pass0 (pa_cons (pv 2) pa_nil)) (pe_call (ok_law_truths T) (hr.mono (by decide)) (by rfl) T.g__law_truths T.F__law_truths.kp T.b__law_truths .nil pass0 (pa_cons (pe_tup (pa_cons pe_int pa_nil)) (pa_cons pe_int pa_nil))) (nomark _)) (pss_one (ps_ret pe_bl)) pss_nil)))))
      (pss_one (ps_ret pe_bl))), ?_⟩
    walk_at "rd"
    refine ⟨by decide, by decide, forB walk_range (inv_m d H) ⟨_, _, rfl, Gr.refl hd⟩ (fun _ _ _ _ _ => trivial) ?_ ?_⟩
    · rintro k x' σ K1 K2 hk ⟨x1, x2, rfl, g⟩ ⟨rfl, rfl⟩
      walk_at "rd"
      refine ⟨d, rfl, g.dice, fun z H1 g1 pz lz => ?_⟩
      rw [Int.zero_add]
      refine ⟨k, z, rfl, hk, fun a H2 s2 e2 => ⟨tl k, a, rfl, tl_lt k, e2, fun p1 H3 s3 f3 => ite2 (fun h5 => ⟨by decide, fun p2 hp2 => ?_⟩) (fun h5 => ⟨by decide, fun p2 hp2 => ?_⟩)⟩⟩
      · skip
        have s4 := same_new (o := .tup [.int (k : Int), .int 12]) hp2
        have f4 : upd H3 p2 (.tup [.int (k : Int), .int 12]) p2 = some (.tup [.int (k : Int), .int 12]) := upd_same
        generalize upd H3 p2 (.tup [.int (k : Int), .int 12]) = H4 at *
        refine ⟨p2, [(k : Int), 12], 13, rfl, by decide, f4, fun p3 H5 s5 _ f5 => neRow ((s4.trans s5) _ _ f3) f5 (row_m k (by have := of_decide_eq_true h5; omega)) ⟨_, rfl, iteF ⟨tl k, a, rfl, tl_lt k, IsE.same e2 ((s3.trans s4).trans s5), fun p4 H6 s6 f6 => ⟨by decide, fun p5 hp5 => ?_⟩⟩⟩⟩
        have s7 := same_new (o := .tup [.int 0]) hp5
        have f7 : upd H6 p5 (.tup [.int 0]) p5 = some (.tup [.int 0]) := upd_same
        generalize upd H6 p5 (.tup [.int 0]) = H7 at *
        refine ⟨p5, [0], 8, rfl, by decide, f7, fun p6 H8 s8 _ f8 => neRow ((s7.trans s8) _ _ f6) f8 (row_p k hk) ⟨_, rfl, iteF ⟨_, _, rfl, ?_⟩⟩⟩
        exact (g.trans g1).trans (Gr.same g1.dice ((((((s2.trans s3).trans s4).trans s5).trans s6).trans s7).trans s8))
      · obtain rfl : k = 5 := by
          have : ¬ ((k : Int) < 5) := fun z => h5 (decide_eq_true z)
          have h6 : k < 6 := hk
          omega
        have s4 := same_new (o := .tup [.int 12]) hp2
        have f4 : upd H3 p2 (.tup [.int 12]) p2 = some (.tup [.int 12]) := upd_same
        generalize upd H3 p2 (.tup [.int 12]) = H4 at *
        refine ⟨p2, [12], 13, rfl, by decide, f4, fun p3 H5 s5 _ f5 => neRow ((s4.trans s5) _ _ f3) f5 (row_m5) ⟨_, rfl, iteF ⟨tl 5, a, rfl, tl_lt 5, IsE.same e2 ((s3.trans s4).trans s5), fun p4 H6 s6 f6 => ⟨by decide, fun p5 hp5 => ?_⟩⟩⟩⟩
        have s7 := same_new (o := .tup [.int 0]) hp5
        have f7 : upd H6 p5 (.tup [.int 0]) p5 = some (.tup [.int 0]) := upd_same
        generalize upd H6 p5 (.tup [.int 0]) = H7 at *
        refine ⟨p5, [0], 8, rfl, by decide, f7, fun p6 H8 s8 _ f8 => neRow ((s7.trans s8) _ _ f6) f8 (row_p 5 hk) ⟨_, rfl, iteF ⟨_, _, rfl, ?_⟩⟩⟩
        exact (g.trans g1).trans (Gr.same g1.dice ((((((s2.trans s3).trans s4).trans s5).trans s6).trans s7).trans s8))
    · rintro σ K1 ⟨x1, x2, rfl, g⟩
      walk_at "rd"
      exact q _ g
theorem val_int {H : Hp} {i : Int} (h : i.natAbs.log2 < 1920) : Val H (.int i) (.int i) := ⟨by unfold VkD; rfl, (sm_int h).sm (by decide) (by decide) fun z e => (nomatch e), .inl rfl⟩
theorem val_non {H : Hp} : Val H .non .none := ⟨by unfold VkD; rfl, ⟨rfl, by decide, by decide, fun z e => nomatch e⟩, .inl rfl⟩
theorem val_line {H : Hp} {v : V} (h : v ∈ [V.non, V.int 0, V.int 1, V.int 2, V.int 16]) : ∃ d, Val H v d := by
  simp only [List.mem_cons, List.not_mem_nil, or_false] at h
  rcases h with rfl | rfl | rfl | rfl | rfl
  · exact ⟨_, val_non⟩
  · exact ⟨_, val_int (by decide)⟩
  · exact ⟨_, val_int (by decide)⟩
  · exact ⟨_, val_int (by decide)⟩
  · exact ⟨_, val_int (by decide)⟩
theorem val_later {H : Hp} {v : V} {r : Int} (r0 : 0 ≤ r) (r1 : r < 99) (h : v ∈ [V.non, V.int 0, V.int 1, V.int r]) : ∃ d, Val H v d := by
  simp only [List.mem_cons, List.not_mem_nil, or_false] at h
  rcases h with rfl | rfl | rfl | rfl
  · exact ⟨_, val_non⟩
  · exact ⟨_, val_int (by decide)⟩
  · exact ⟨_, val_int (by decide)⟩
  · refine ⟨_, val_int ?_⟩
    obtain ⟨n, rfl⟩ : ∃ n : Nat, r = (n : Int) := ⟨r.toNat, by omega⟩
    have hn : n < 128 := by omega
    show n.log2 < 1920
    by_cases z : n = 0
    · rw [z]
      decide
    · exact Nat.lt_trans ((Nat.log2_lt z).2 (show n < 2 ^ 7 from hn)) (by decide)
theorem wd_at : ∀ k, k < 7 → [V.str (Str.ofString "rival"), .str (Str.ofString "key"), .str (Str.ofString "part"), .str (Str.ofString "other"), .str (Str.ofString "far"), .str (Str.ofString "far"), .str (Str.ofString "other")][k]? = some (V.str (wd k)) := by decide +kernel
def inv_k (d p s : Addr) (Hk : Hp) : Nat → L2.St → Hp → Prop := fun _ σ H' => ∃ (x3 x4 x5 x6 x7 : Option V), σ = [some (.ref d), some (.ref p), some (.ref s), x3, x4, x5, x6, x7] ∧ Gr d Hk H'
theorem ok_law_keepers_right (T : Tx K mg) : FnG P w K mg base CX0 5 T.f__law_keepers_right T.d__law_keepers_right ["_law_dice_here"] sp_right := by
  refine okG T.F__law_keepers_right sc_law_keepers_right (fun vs H Q E h => ?_) (fun cdv A outer s H vs Q E hgd hr h => ?_)
  · obtain ⟨d, rfl, _⟩ := h
    rfl
  · obtain ⟨d, rfl, hd, q⟩ := h
    refine ⟨_, (pss_cons (ps_set (i := 1) sc_law_keepers_right.nd rfl (Or.inl rfl) (pe_lst (pa_cons (pe_tup (pa_cons pe_int pa_nil)) (pa_cons (pe_tup (pa_cons pe_int (pa_cons pe_int pa_nil))) (pa_cons (pe_tup (pa_cons pe_int pa_nil)) (pa_cons (pe_tup (pa_cons pe_int (pa_cons pe_int pa_nil))) (pa_cons (pe_tup (pa_cons pe_int (pa_cons pe_int pa_nil))) (pa_cons (pe_tup (pa_cons pe_int pa_nil)) (pa_cons (pe_tup (pa_cons pe_int pa_nil)) pa_nil)))))))))
      (pss_cons (ps_set (i := 2) sc_law_keepers_right.nd rfl (Or.inl rfl) (pe_lst (pa_cons pe_str (pa_cons pe_str (pa_cons pe_str (pa_cons pe_str (pa_cons pe_str (pa_cons pe_str (pa_cons pe_str pa_nil)))))))))
      (pss_cons (ps_for PassesOwn.never rfl (pi_range1 (by rfl) T.n_range (pa_cons pe_int pa_nil)) (pg_name (i := 3) sc_law_keepers_right.nd rfl (Or.inl rfl)) (pss_cons (ps_par (i := 4) (j := 5) (by rfl) sc_law_keepers_right.nd rfl rfl (by decide) rfl rfl (pa_cons (pe_call (ok_law_value T) (hr.mono (by decide)) (by rfl) T.g__law_value T.F__law_value.kp T.b__law_value .nil pass0 (pa_cons (pv 0) pa_nil)) (pa_cons (pe_call (ok_law_value T) (hr.mono (by decide)) (by rfl) T.g__law_value T.F__law_value.kp T.b__law_value .nil pass0 (pa_cons (pv 0) pa_nil)) pa_nil)) (by rfl))
      (pss_cons (ps_if (pt_cmpR op_eq (pv 3) pe_int (nomark _)) (pss_one (ps_par (i := 4) (j := 5) (by rfl) sc_law_keepers_right.nd rfl rfl (by decide) rfl rfl (pa_cons (pe_call (ok_law_pick T) (hr.mono (by decide)) (by rfl) T.g__law_pick T.F__law_pick.kp T.b__law_pick .nil pass0 (pa_cons (pv 0) (pa_cons (pe_lst (pa_cons pe_non (pa_cons pe_int (pa_cons pe_int (pa_cons pe_int (pa_cons pe_int pa_nil)))))) pa_nil))) (pa_cons (pe_call (ok_law_pick T) (hr.mono (by decide)) (by rfl) T.g__law_pick T.F__law_pick.kp T.b__law_pick .nil pass0 (pa_cons (pv 0) (pa_cons (pe_lst (pa_cons pe_non (pa_cons pe_int (pa_cons pe_int (pa_cons (pe_call (ok_law_roll T) (hr.mono (by decide)) (by rfl) T.g__law_roll T.F__law_roll.kp T.b__law_roll .nil pass0 (pa_cons (pv 0) (pa_cons pe_int pa_nil))) pa_nil))))) pa_nil))) pa_nil)) (by rfl))) pss_nil)
      (pss_cons (ps_set (i := 6) sc_law_keepers_right.nd rfl (Or.inl rfl) (pe_callG (ok_law_keeper T) hgd (hr.mono (by decide)) (by rfl) T.g__law_keeper T.F__law_keeper.kp T.b__law_keeper .nil pass0 (pa_cons (pv 3) (pa_cons (pv 4) pa_nil))))
      (pss_cons (ps_set (i := 7) sc_law_keepers_right.nd rfl (Or.inl rfl) (pe_callG (ok_law_keeper T) hgd (hr.mono (by decide)) (by rfl) T.g__law_keeper T.F__law_keeper.kp T.b__law_keeper .nil pass0 (pa_cons (pv 3) (pa_cons (pv 5) pa_nil))))
      (pss_cons (ps_if (PW.pt (pw_or (pt_cmpR op_ne (pe_callB (call_rpV hgd hr.units) (by rfl) T.n_repr (by decide +kernel) (pa_cons (pe_callC (ok_law_kept T) (rmN hr) (by rfl) T.g__law_kept T.F__law_kept.kp T.b__law_kept .nil pass0 (pa_cons (pv 3) (pa_cons (pv 6) pa_nil))) pa_nil)) (pe_callB (call_rpV hgd hr.units) (by rfl) T.n_repr (by decide +kernel) (pa_cons (pv 4) pa_nil)) (nomark _)) (pw_or1 (pt_cmpR op_ne (pe_callB (call_rpV hgd hr.units) (by rfl) T.n_repr (by decide +kernel) (pa_cons (pe_callC (ok_law_kept T) (rmN hr) (by rfl) T.g__law_kept T.F__law_kept.kp T.b__law_kept .nil pass0 (pa_cons (pv 3) (pa_cons (pv 7) pa_nil))) pa_nil)) (pe_callB (call_rpV hgd hr.units) (by rfl) T.n_repr (by decide +kernel) (pa_cons (pv 5) pa_nil)) (nomark _))))) (pss_one (ps_ret pe_bl)) pss_nil)
      (pss_cons (ps_if (pt_cmpR (op_neS hr.units) (pe_call (ok_law_kinds T) (hr.mono (by decide)) (by rfl) T.g__law_kinds T.F__law_kinds.kp T.b__law_kinds .nil pass0 (pa_cons (pv 6) pa_nil)) (pe_call (ok_law_truths T) (hr.mono (by decide)) (by rfl) T.g__law_truths T.F__law_truths.kp T.b__law_truths .nil pass0 (pa_cons (pe_ifExp (pt_cmpR op_eq (pv 3) pe_int (nomark _)) (pe_tup (pa_cons (pe_op op_add pe_int (pv 3)) (pa_cons pe_int pa_nil))) (pe_tup (pa_cons (pe_op op_add pe_int (pv 3)) pa_nil))) (pa_cons pe_int pa_nil))) (nomark _)) (pss_one (ps_ret pe_bl)) pss_nil)
      (pss_one (ps_if (PW.pt (pw_or (pt_cmpR (op_neS hr.units) (pe_call (ok_law_python T) (hr.mono (by decide)) (by rfl) T.g__law_python T.F__law_python.kp T.b__law_python .nil pass0 (pa_cons (pv 6) pa_nil)) (pe_call (ok_law_truths T) (hr.mono (by decide)) (by rfl) T.g__law_truths T.F__law_truths.kp T.b__law_truths .nil pass0 (pa_cons (pe_ix ix_list (pv 1) (pv 3) (fun _ _ => rfl)) (pa_cons pe_int pa_nil))) (nomark _)) (pw_or1 (pt_cmpR (op_neS hr.units) (pe_callG (ok_law_caught T) hgd (hr.mono (by decide)) (by rfl) T.g__law_caught T.F__law_caught.kp T.b__law_caught .nil pass0 (pa_cons (pv 3) (pa_cons (pv 4) pa_nil))) (pe_lst (pa_cons (pe_ix ix_list (pv 2) (pv 3) (fun _ _ => rfl)) (pa_cons (pe_callB (call_rpV hgd hr.units) (by rfl) T.n_repr (by decide +kernel) (pa_cons (pv 4) pa_nil)) pa_nil))) (nomark _))))) (pss_one (ps_ret pe_bl)) pss_nil)))))))))
      (pss_one (ps_ret pe_bl))))), ?_⟩
    walk_at "rd"
    refine ⟨by decide, fun a0 h0 => ?_⟩
    have s1 := same_new (o := .tup [.int 0]) h0
    have e0 : upd H a0 (.tup [.int 0]) a0 = some (.tup [.int 0]) := upd_same
    generalize upd H a0 (.tup [.int 0]) = H1 at *
    refine ⟨by decide, fun a1 h1 => ?_⟩
    have s2 := same_new (o := .tup [.int 1, .int 3]) h1
    have e1 : upd H1 a1 (.tup [.int 1, .int 3]) a1 = some (.tup [.int 1, .int 3]) := upd_same
    generalize upd H1 a1 (.tup [.int 1, .int 3]) = H2 at *
    refine ⟨by decide, fun a2 h2 => ?_⟩
    have s3 := same_new (o := .tup [.int 3]) h2
    have e2 : upd H2 a2 (.tup [.int 3]) a2 = some (.tup [.int 3]) := upd_same
    generalize upd H2 a2 (.tup [.int 3]) = H3 at *
    refine ⟨by decide, fun a3 h3 => ?_⟩
    have s4 := same_new (o := .tup [.int 2, .int 3]) h3
    have e3 : upd H3 a3 (.tup [.int 2, .int 3]) a3 = some (.tup [.int 2, .int 3]) := upd_same
    generalize upd H3 a3 (.tup [.int 2, .int 3]) = H4 at *
    refine ⟨by decide, fun a4 h4 => ?_⟩
    have s5 := same_new (o := .tup [.int 5, .int 6]) h4
    have e4 : upd H4 a4 (.tup [.int 5, .int 6]) a4 = some (.tup [.int 5, .int 6]) := upd_same
    generalize upd H4 a4 (.tup [.int 5, .int 6]) = H5 at *
    refine ⟨by decide, fun a5 h5 => ?_⟩
    have s6 := same_new (o := .tup [.int 6]) h5
    have e5 : upd H5 a5 (.tup [.int 6]) a5 = some (.tup [.int 6]) := upd_same
    generalize upd H5 a5 (.tup [.int 6]) = H6 at *
    refine ⟨by decide, fun a6 h6 => ?_⟩
    have s7 := same_new (o := .tup [.int 7]) h6
    have e6 : upd H6 a6 (.tup [.int 7]) a6 = some (.tup [.int 7]) := upd_same
    generalize upd H6 a6 (.tup [.int 7]) = H7 at *
    refine ⟨by decide, fun pp hpp => ?_⟩
    have d7 := (((((s1.trans s2).trans s3).trans s4).trans s5).trans s6).trans s7
    have np : pp ≠ d := (hd.same d7).ne hpp
    have s8 := same_new (o := .lst [.ref a0, .ref a1, .ref a2, .ref a3, .ref a4, .ref a5, .ref a6]) hpp
    have fp : upd H7 pp (.lst [.ref a0, .ref a1, .ref a2, .ref a3, .ref a4, .ref a5, .ref a6]) pp = some (.lst [.ref a0, .ref a1, .ref a2, .ref a3, .ref a4, .ref a5, .ref a6]) := upd_same
    generalize upd H7 pp (.lst [.ref a0, .ref a1, .ref a2, .ref a3, .ref a4, .ref a5, .ref a6]) = H8 at *
    refine ⟨by decide, fun pw hpw => ?_⟩
    have nw : pw ≠ d := (hd.same (d7.trans s8)).ne hpw
    have s9 := same_new (o := .lst [.str (Str.ofString "rival"), .str (Str.ofString "key"), .str (Str.ofString "part"), .str (Str.ofString "other"), .str (Str.ofString "far"), .str (Str.ofString "far"), .str (Str.ofString "other")]) hpw
    have fw : upd H8 pw (.lst [.str (Str.ofString "rival"), .str (Str.ofString "key"), .str (Str.ofString "part"), .str (Str.ofString "other"), .str (Str.ofString "far"), .str (Str.ofString "far"), .str (Str.ofString "other")]) pw = some (.lst [.str (Str.ofString "rival"), .str (Str.ofString "key"), .str (Str.ofString "part"), .str (Str.ofString "other"), .str (Str.ofString "far"), .str (Str.ofString "far"), .str (Str.ofString "other")]) := upd_same
    generalize upd H8 pw (.lst [.str (Str.ofString "rival"), .str (Str.ofString "key"), .str (Str.ofString "part"), .str (Str.ofString "other"), .str (Str.ofString "far"), .str (Str.ofString "far"), .str (Str.ofString "other")]) = H9 at *
    have d9 := (d7.trans s8).trans s9
    have hd9 := hd.same d9
    have G9 : Gr d H H9 := Gr.same hd d9
    have tupk : ∀ k, k < 7 → ∃ a, [V.ref a0, .ref a1, .ref a2, .ref a3, .ref a4, .ref a5, .ref a6][k]? = some (.ref a) ∧ H9 a = some (.tup ((pyH k).map V.int)) := by
      intro k hk
      have u6 := s8.trans s9
      match k, hk with
      | 0, _ => exact ⟨a0, rfl, ((((((s2.trans s3).trans s4).trans s5).trans s6).trans s7).trans u6) _ _ e0⟩
      | 1, _ => exact ⟨a1, rfl, (((((s3.trans s4).trans s5).trans s6).trans s7).trans u6) _ _ e1⟩
      | 2, _ => exact ⟨a2, rfl, ((((s4.trans s5).trans s6).trans s7).trans u6) _ _ e2⟩
      | 3, _ => exact ⟨a3, rfl, (((s5.trans s6).trans s7).trans u6) _ _ e3⟩
      | 4, _ => exact ⟨a4, rfl, ((s6.trans s7).trans u6) _ _ e4⟩
      | 5, _ => exact ⟨a5, rfl, (s7.trans u6) _ _ e5⟩
      | 6, _ => exact ⟨a6, rfl, u6 _ _ e6⟩
    have fp9 := s9 _ _ fp
    refine ⟨by decide, by decide, forB walk_range (inv_k d pp pw H9) ⟨_, _, _, _, _, rfl, Gr.refl hd9⟩ (fun _ _ _ _ _ => trivial) ?_ ?_⟩
    · rintro k x' σ K1 K2 hk ⟨x3, x4, x5, x6, x7, rfl, g⟩ ⟨rfl, rfl⟩
      have hk7 : k < 7 := hk
      walk_at "rd"
      refine ⟨d, rfl, g.dice, fun v dv J1 g1 hv1 => ⟨d, rfl, g1.dice, fun u du J2 g2 hu => ?_⟩⟩
      rw [Int.zero_add]
      have hv := hv1.kps (.gr g1.dice g2)
      have g12 := (g.trans g1).trans g2
      refine ⟨rfl, ite2 (fun h0 => ⟨by decide, fun p hp => pick_new g2.dice hp (by simp) (by simp) fun v' J3 hv' g3 => roll_new g3.dice (by decide) (by decide) fun r J4 r0 r1 g4 => ⟨by decide, fun p' hp' => pick_new g4.dice hp' (by simp) (by simp) fun u' J5 hu' g5 => ?_⟩⟩) (fun h0 => ?_)⟩
      · obtain ⟨dv', hv5⟩ := val_line (H := J5) hv'
        obtain ⟨du', hu5⟩ := val_later (H := J5) r0 r1 hu'
        have g15 := ((g12.trans g3).trans g4).trans g5
        refine ⟨k, v', dv', rfl, hk7, hv5.vd, hv5.sm, fun a dd L1 l1 fa fdd => ⟨k, u', du', rfl, hk7, (hu5.kps (.same l1)).vd, hu5.sm, fun b db L2 l2 fb fdb => ?_⟩⟩
        have wv := hv5.kps (.same (l1.trans l2))
        have wu := hu5.kps (.same (l1.trans l2))
        refine ⟨k, a, v', rfl, hk7, ⟨dd, l2 _ _ fa, l2 _ _ fdd⟩, _, _, rfl, wv.vd, wv.sm, _, _, rfl, wv.vd, wv.sm, rfl, ?_⟩
        rw [decide_eq_true rfl]
        refine iteF ⟨k, b, u', rfl, hk7, ⟨db, fb, fdb⟩, _, _, rfl, wu.vd, wu.sm, _, _, rfl, wu.vd, wu.sm, rfl, ?_⟩
        rw [decide_eq_true rfl]
        refine iteF ⟨5 + k, a, rfl, by omega, .inr ⟨dd, _, l2 _ _ fa, l2 _ _ fdd⟩, fun p1 L3 l3 f3 => ?_⟩
        have ve := wv.kps (.same l3)
        dsimp only
        rw [if_pos h0]
        refine ⟨rfl, by decide, fun p2 hp2 => ?_⟩
        have l4 := same_new (o := .tup [.int (5 + (k : Int)), .int 12]) hp2
        have f4 : upd L3 p2 (.tup [.int (5 + (k : Int)), .int 12]) p2 = some (.tup [.int (5 + (k : Int)), .int 12]) := upd_same
        generalize upd L3 p2 (.tup [.int (5 + (k : Int)), .int 12]) = L4 at *
        have row : rowL (5 + k) 0 13 = truL [5 + (k : Int), 12] 13 := by
          have k0 : k = 0 := by have := of_decide_eq_true h0; omega
          subst k0
          exact row_k0
        refine ⟨p2, [5 + (k : Int), 12], 13, rfl, by decide, f4, fun p3 L5 l5 _ f5 => neRow (k := 5 + k) ((l4.trans l5) _ _ f3) f5 row ⟨_, rfl, iteF ⟨5 + k, a, rfl, by omega, .inr ⟨dd, _, (((l2.trans l3).trans l4).trans l5) _ _ fa, (((l2.trans l3).trans l4).trans l5) _ _ fdd⟩, fun p4 L6 l6 f6 => ?_⟩⟩⟩
        have m6 := ((((l1.trans l2).trans l3).trans l4).trans l5).trans l6
        have G6 := g15.trans (Gr.same g15.dice m6)
        obtain ⟨ak, ek, fk⟩ := tupk k hk7
        refine ixl_nat (sql_of (G6.keep _ _ np fp9)) ek ⟨ak, pyH k, 8, rfl, by decide, (Kps.gr hd9 G6) _ _ fk trivial, fun p5 L7 l7 _ f7 => neRow (k := 5 + k) (l7 _ _ f6) f7 (row_y k hk7) ⟨_, rfl, iteF ⟨k, v', dv', rfl, hk7, hv5.kps (.same (m6.trans l7)), fun p6 L8 l8 f8 => ?_⟩⟩⟩
        have G8 := G6.trans (Gr.same G6.dice (l7.trans l8))
        refine ixl_nat (sql_of (G8.keep _ _ nw fw)) (wd_at k hk7) ⟨_, _, rfl, (hv5.kps (.same ((m6.trans l7).trans l8))).vd, hv5.sm, by decide, fun p7 hp7 => ?_⟩
        have l9 := same_new (o := .lst [.str (wd k), .str dv'.shown]) hp7
        have f9 : upd L8 p7 (.lst [.str (wd k), .str dv'.shown]) p7 = some (.lst [.str (wd k), .str dv'.shown]) := upd_same
        generalize upd L8 p7 (.lst [.str (wd k), .str dv'.shown]) = L9 at *
        exact ⟨p6, p7, _, rfl, rfl, sql_of (l9 _ _ f8), sql_of f9, rfl, _, rfl, iteF ⟨_, _, _, _, _, rfl, G8.trans (Gr.same G8.dice l9)⟩⟩
      · skip
        refine ⟨k, v, dv, rfl, hk7, hv.vd, hv.sm, fun a dd L1 l1 fa fdd => ⟨k, u, du, rfl, hk7, (hu.kps (.same l1)).vd, hu.sm, fun b db L2 l2 fb fdb => ?_⟩⟩
        have wv := hv.kps (.same (l1.trans l2))
        have wu := hu.kps (.same (l1.trans l2))
        refine ⟨k, a, v, rfl, hk7, ⟨dd, l2 _ _ fa, l2 _ _ fdd⟩, _, _, rfl, wv.vd, wv.sm, _, _, rfl, wv.vd, wv.sm, rfl, ?_⟩
        rw [decide_eq_true rfl]
        refine iteF ⟨k, b, u, rfl, hk7, ⟨db, fb, fdb⟩, _, _, rfl, wu.vd, wu.sm, _, _, rfl, wu.vd, wu.sm, rfl, ?_⟩
        rw [decide_eq_true rfl]
        refine iteF ⟨5 + k, a, rfl, by omega, .inr ⟨dd, _, l2 _ _ fa, l2 _ _ fdd⟩, fun p1 L3 l3 f3 => ?_⟩
        have ve := wv.kps (.same l3)
        dsimp only
        rw [if_neg h0]
        refine ⟨rfl, by decide, fun p2 hp2 => ?_⟩
        have l4 := same_new (o := .tup [.int (5 + (k : Int))]) hp2
        have f4 : upd L3 p2 (.tup [.int (5 + (k : Int))]) p2 = some (.tup [.int (5 + (k : Int))]) := upd_same
        generalize upd L3 p2 (.tup [.int (5 + (k : Int))]) = L4 at *
        have row : rowL (5 + k) 0 13 = truL [5 + (k : Int)] 13 := (row_k k hk7 fun z => h0 (decide_eq_true (by omega)))
        refine ⟨p2, [5 + (k : Int)], 13, rfl, by decide, f4, fun p3 L5 l5 _ f5 => neRow (k := 5 + k) ((l4.trans l5) _ _ f3) f5 row ⟨_, rfl, iteF ⟨5 + k, a, rfl, by omega, .inr ⟨dd, _, (((l2.trans l3).trans l4).trans l5) _ _ fa, (((l2.trans l3).trans l4).trans l5) _ _ fdd⟩, fun p4 L6 l6 f6 => ?_⟩⟩⟩
        have m6 := ((((l1.trans l2).trans l3).trans l4).trans l5).trans l6
        have G6 := g12.trans (Gr.same g12.dice m6)
        obtain ⟨ak, ek, fk⟩ := tupk k hk7
        refine ixl_nat (sql_of (G6.keep _ _ np fp9)) ek ⟨ak, pyH k, 8, rfl, by decide, (Kps.gr hd9 G6) _ _ fk trivial, fun p5 L7 l7 _ f7 => neRow (k := 5 + k) (l7 _ _ f6) f7 (row_y k hk7) ⟨_, rfl, iteF ⟨k, v, dv, rfl, hk7, hv.kps (.same (m6.trans l7)), fun p6 L8 l8 f8 => ?_⟩⟩⟩
        have G8 := G6.trans (Gr.same G6.dice (l7.trans l8))
        refine ixl_nat (sql_of (G8.keep _ _ nw fw)) (wd_at k hk7) ⟨_, _, rfl, (hv.kps (.same ((m6.trans l7).trans l8))).vd, hv.sm, by decide, fun p7 hp7 => ?_⟩
        have l9 := same_new (o := .lst [.str (wd k), .str dv.shown]) hp7
        have f9 : upd L8 p7 (.lst [.str (wd k), .str dv.shown]) p7 = some (.lst [.str (wd k), .str dv.shown]) := upd_same
        generalize upd L8 p7 (.lst [.str (wd k), .str dv.shown]) = L9 at *
        exact ⟨p6, p7, _, rfl, rfl, sql_of (l9 _ _ f8), sql_of f9, rfl, _, rfl, iteF ⟨_, _, _, _, _, rfl, G8.trans (Gr.same G8.dice l9)⟩⟩
    · rintro σ K1 ⟨x3, x4, x5, x6, x7, rfl, g⟩
      walk_at "rd"
      exact q _ (G9.trans g)
end

section
variable {w : World} {K : PySem.W.Frag} {mg : Str → Option Value} {base : Heap}
def spLaw (K : PySem.W.Frag) : Sp := fun vs H Q _ => ∃ (a : Addr) (ns : List Int), vs = [.ref a] ∧ SqL K H a (ns.map V.int) ∧ ns.length ≤ 63 ∧ ∀ H', Q (.bl true) H'
def inv_law (K : PySem.W.Frag) (a : Addr) (ns : List Int) : Nat → L2.St → Hp → Prop := fun i σ H => ∃ x1 x2 : Option V, σ = [some (.ref a), x1, x2] ∧ SqL K H a (ns.map V.int)
theorem ok_law (T : Tx K mg) : FnG P w K mg base CX0 6 T.f_law T.d_law ["_law_script"] (spLaw K) := by
  refine okG T.F_law sc_law (fun vs H Q E h => ?_) (fun cdv A outer s H vs Q E hgd hr h => ?_)
  · obtain ⟨a, ns, rfl, _⟩ := h
    rfl
  · obtain ⟨a, ns, rfl, hS, hl, q⟩ := h
    refine ⟨_, (pss_cons (ps_for PassesOwn.never rfl (pi_range1 (by rfl) T.n_range (pa_cons (pe_callB (call_max2 rfl) (by rfl) T.n_max (by decide +kernel) (pa_cons pe_int (pa_cons (pe_callB (call_min2 rfl) (by rfl) T.n_min (by decide +kernel) (pa_cons pe_int (pa_cons (pe_callB call_lenQ (by rfl) T.n_len (by decide +kernel) (pa_cons (pv 0) pa_nil)) pa_nil))) pa_nil))) pa_nil)) (pg_name (i := 1) sc_law.nd rfl (Or.inl rfl)) (pss_cons (ps_set (i := 2) sc_law.nd rfl (Or.inl rfl) (pe_call (ok_law_dice T) (hr.mono (by decide)) (by rfl) T.g__law_dice T.F__law_dice.kp T.b__law_dice .nil pass0 (pa_cons (pv 0) (pa_cons (pv 1) pa_nil))))
      (pss_one (ps_if (PW.pt (pw_or (pt_not (pt_val (pe_call (ok_law_messages_right T) (hr.mono (by decide)) (by rfl) T.g__law_messages_right T.F__law_messages_right.kp T.b__law_messages_right .nil pass0 (pa_cons (pv 2) pa_nil)))) (pw_or1 (pt_not (pt_val (pe_callG (ok_law_keepers_right T) hgd (hr.mono (by decide)) (by rfl) T.g__law_keepers_right T.F__law_keepers_right.kp T.b__law_keepers_right .nil pass0 (pa_cons (pv 2) pa_nil))))))) (pss_one (ps_ret pe_bl)) pss_nil))))
      (pss_one (ps_ret pe_bl))), ?_⟩
    walk_at "rd"
    refine lenL hS ?_
    walk_at "rd"
    rw [List.length_map]
    obtain ⟨m, em, hm⟩ : ∃ m : Nat, (if (if (ns.length : Int) < 8 then (ns.length : Int) else 8) > 1 then if (ns.length : Int) < 8 then (ns.length : Int) else 8 else 1) = (m : Int) ∧ m ≤ 8 := by
      refine ⟨(if (if (ns.length : Int) < 8 then (ns.length : Int) else 8) > 1 then if (ns.length : Int) < 8 then (ns.length : Int) else 8 else 1).toNat, ?_, ?_⟩ <;> (split <;> split <;> omega)
    rw [em]
    refine ⟨by omega, by omega, forB walk_range (inv_law K a ns) ⟨none, none, rfl, hS⟩ (fun _ _ _ _ _ => trivial) ?_ ?_⟩
    · rintro i x σ H1 H2 hi ⟨x1, x2, rfl, h1⟩ ⟨rfl, rfl⟩
      walk_at "rd"
      refine ⟨a, ns, i, by rw [Int.zero_add], h1, by omega, fun p x y z hp => ?_⟩
      have d0 : Dc (upd H2 p (.lst [.int x, .int y, .int z])) p := ⟨x, y, z, upd_same⟩
      have fin : ∀ H', Gr p (upd H2 p (.lst [.int x, .int y, .int z])) H' → SqL K H' a (ns.map V.int) := fun H' g => by
        rcases h1 with (h | ⟨o, h⟩) | h
        · have ne := ne_of_none h hp
          exact .inl (.inl (g.keep _ _ ne (by rw [upd_ne ne]; exact h)))
        · have ne := ne_of_none h hp
          exact .inl (.inr ⟨o, g.keep _ _ ne (by rw [upd_ne ne]; exact h)⟩)
        · exact .inr h
      refine ⟨p, rfl, d0, fun H3 g3 => ?_⟩
      walk_at "rd"
      refine ⟨p, rfl, g3.dice, fun H4 g4 => ?_⟩
      walk_at "rd"
      exact ⟨_, _, rfl, fin _ (g3.trans g4)⟩
    · rintro σ H1 ⟨x1, x2, rfl, h1⟩
      walk_at "rd"
      exact q _
theorem law_sp (K : PySem.W.Frag) (H : Hp) (a : Addr) (ns : List Int) (hl : ns.length ≤ 63) (_ : Only H) (hS : SqL K H a (ns.map V.int)) : spLaw K [.ref a] H (fun v _ => v = .bl true) E0 :=
  ⟨a, ns, rfl, hS, hl, fun _ => rfl⟩
end

set_option pp.maxSteps 2000
theorem all_mk {w : World} {K : PySem.W.Frag} {h : Heap} {mg : Str → Option Value} {fa : Addr} (X : K.In h) (G : h.Ns mainGlobals mg) (hfa : mg "law" = some (.ref fa))
    {f0 : Addr} {od0 an0 : Option Addr} {sl0 : Array (Option Value)} {oc0 kV0 dc0 pm0 cd0 ct0 : Value}
    {f1 : Addr} {od1 an1 : Option Addr} {sl1 : Array (Option Value)} {oc1 kV1 dc1 pm1 cd1 ct1 : Value}
    {f2 : Addr} {od2 an2 : Option Addr} {sl2 : Array (Option Value)} {oc2 kV2 dc2 pm2 cd2 ct2 : Value}
    {f3 : Addr} {od3 an3 : Option Addr} {sl3 : Array (Option Value)} {oc3 kV3 dc3 pm3 cd3 ct3 : Value}
    {f4 : Addr} {od4 an4 : Option Addr} {sl4 : Array (Option Value)} {oc4 kV4 dc4 pm4 cd4 ct4 : Value}
    {f5 : Addr} {od5 an5 : Option Addr} {sl5 : Array (Option Value)} {oc5 kV5 dc5 pm5 cd5 ct5 : Value}
    {f6 : Addr} {od6 an6 : Option Addr} {sl6 : Array (Option Value)} {oc6 kV6 dc6 pm6 cd6 ct6 : Value}
    {f7 : Addr} {od7 an7 : Option Addr} {sl7 : Array (Option Value)} {oc7 kV7 dc7 pm7 cd7 ct7 : Value}
    {f8 : Addr} {od8 an8 : Option Addr} {sl8 : Array (Option Value)} {oc8 kV8 dc8 pm8 cd8 ct8 : Value}
    {f9 : Addr} {od9 an9 : Option Addr} {sl9 : Array (Option Value)} {oc9 kV9 dc9 pm9 cd9 ct9 : Value}
    {f10 : Addr} {od10 an10 : Option Addr} {sl10 : Array (Option Value)} {oc10 kV10 dc10 pm10 cd10 ct10 : Value}
    {f11 : Addr} {od11 an11 : Option Addr} {sl11 : Array (Option Value)} {oc11 kV11 dc11 pm11 cd11 ct11 : Value}
    {f12 : Addr} {od12 an12 : Option Addr} {sl12 : Array (Option Value)} {oc12 kV12 dc12 pm12 cd12 ct12 : Value}
    {f13 : Addr} {od13 an13 : Option Addr} {sl13 : Array (Option Value)} {oc13 kV13 dc13 pm13 cd13 ct13 : Value}
    {f14 : Addr} {od14 an14 : Option Addr} {sl14 : Array (Option Value)} {oc14 kV14 dc14 pm14 cd14 ct14 : Value}
    {f15 : Addr} {od15 an15 : Option Addr} {sl15 : Array (Option Value)} {oc15 kV15 dc15 pm15 cd15 ct15 : Value}
    {C_InvalidWord : Addr}
    {C_InvalidLibrary : Addr}
    {C_InvalidCall : Addr}
    {C_InvalidProgram : Addr}
    {C_InvalidOperation : Addr}
    {C_ParseError : Addr}
    {C_UnknownName : Addr}
    {C_UnknownPart : Addr}
    {C_NothingToUndo : Addr}
    {C_TooMany : Addr}
    {C_Refused : Addr}
    {C_InvalidNumber : Addr}
    {C_RivalError : Addr}
    {nm_ParseError qn_ParseError : Str} {N_ParseError fI_ParseError cda_ParseError cc_ParseError : Addr} {bs_ParseError bm_ParseError sub_ParseError : List Value} {sn_ParseError : List Str} {ab_ParseError : Bool} {col_ParseError : Option Bool} {dd_ParseError : Option Addr} {k0_ParseError k1_ParseError k2_ParseError k3_ParseError k5_ParseError : Option Value}
    {foc_ParseError fdoc_ParseError fpm_ParseError fct_ParseError ccl_ParseError cll_ParseError : Value} {fod_ParseError fan_ParseError cdd_ParseError cld_ParseError : Option Addr} {fsl_ParseError ccs_ParseError csl_ParseError : Array (Option Value)} {vs_ParseError : Array Value} {file_ParseError : Str} {tf_ParseError : Tok}
    {nm_UnknownName qn_UnknownName : Str} {N_UnknownName fI_UnknownName cda_UnknownName cc_UnknownName : Addr} {bs_UnknownName bm_UnknownName sub_UnknownName : List Value} {sn_UnknownName : List Str} {ab_UnknownName : Bool} {col_UnknownName : Option Bool} {dd_UnknownName : Option Addr} {k0_UnknownName k1_UnknownName k2_UnknownName k3_UnknownName k5_UnknownName : Option Value}
    {foc_UnknownName fdoc_UnknownName fpm_UnknownName fct_UnknownName ccl_UnknownName cll_UnknownName : Value} {fod_UnknownName fan_UnknownName cdd_UnknownName cld_UnknownName : Option Addr} {fsl_UnknownName ccs_UnknownName csl_UnknownName : Array (Option Value)} {vs_UnknownName : Array Value} {file_UnknownName : Str} {tf_UnknownName : Tok}
    {nm_UnknownPart qn_UnknownPart : Str} {N_UnknownPart fI_UnknownPart cda_UnknownPart cc_UnknownPart : Addr} {bs_UnknownPart bm_UnknownPart sub_UnknownPart : List Value} {sn_UnknownPart : List Str} {ab_UnknownPart : Bool} {col_UnknownPart : Option Bool} {dd_UnknownPart : Option Addr} {k0_UnknownPart k1_UnknownPart k2_UnknownPart k3_UnknownPart k5_UnknownPart : Option Value}
    {foc_UnknownPart fdoc_UnknownPart fpm_UnknownPart fct_UnknownPart ccl_UnknownPart cll_UnknownPart : Value} {fod_UnknownPart fan_UnknownPart cdd_UnknownPart cld_UnknownPart : Option Addr} {fsl_UnknownPart ccs_UnknownPart csl_UnknownPart : Array (Option Value)} {vs_UnknownPart : Array Value} {file_UnknownPart : Str} {tf_UnknownPart : Tok}
    {nm_NothingToUndo qn_NothingToUndo : Str} {N_NothingToUndo fI_NothingToUndo cda_NothingToUndo cc_NothingToUndo : Addr} {bs_NothingToUndo bm_NothingToUndo sub_NothingToUndo : List Value} {sn_NothingToUndo : List Str} {ab_NothingToUndo : Bool} {col_NothingToUndo : Option Bool} {dd_NothingToUndo : Option Addr} {k0_NothingToUndo k1_NothingToUndo k2_NothingToUndo k3_NothingToUndo k5_NothingToUndo : Option Value}
    {foc_NothingToUndo fdoc_NothingToUndo fpm_NothingToUndo fct_NothingToUndo ccl_NothingToUndo cll_NothingToUndo : Value} {fod_NothingToUndo fan_NothingToUndo cdd_NothingToUndo cld_NothingToUndo : Option Addr} {fsl_NothingToUndo ccs_NothingToUndo csl_NothingToUndo : Array (Option Value)} {vs_NothingToUndo : Array Value} {file_NothingToUndo : Str} {tf_NothingToUndo : Tok}
    {nm_TooMany qn_TooMany : Str} {N_TooMany fI_TooMany cda_TooMany cc_TooMany : Addr} {bs_TooMany bm_TooMany sub_TooMany : List Value} {sn_TooMany : List Str} {ab_TooMany : Bool} {col_TooMany : Option Bool} {dd_TooMany : Option Addr} {k0_TooMany k1_TooMany k2_TooMany k3_TooMany k5_TooMany : Option Value}
    {foc_TooMany fdoc_TooMany fpm_TooMany fct_TooMany ccl_TooMany cll_TooMany : Value} {fod_TooMany fan_TooMany cdd_TooMany cld_TooMany : Option Addr} {fsl_TooMany ccs_TooMany csl_TooMany : Array (Option Value)} {vs_TooMany : Array Value} {file_TooMany : Str} {tf_TooMany : Tok}
    {nm_Refused qn_Refused : Str} {N_Refused fI_Refused cda_Refused cc_Refused : Addr} {bs_Refused bm_Refused sub_Refused : List Value} {sn_Refused : List Str} {ab_Refused : Bool} {col_Refused : Option Bool} {dd_Refused : Option Addr} {k0_Refused k1_Refused k2_Refused k3_Refused k5_Refused : Option Value}
    {foc_Refused fdoc_Refused fpm_Refused fct_Refused ccl_Refused cll_Refused : Value} {fod_Refused fan_Refused cdd_Refused cld_Refused : Option Addr} {fsl_Refused ccs_Refused csl_Refused : Array (Option Value)} {vs_Refused : Array Value} {file_Refused : Str} {tf_Refused : Tok}
    {nm_InvalidNumber qn_InvalidNumber : Str} {N_InvalidNumber fI_InvalidNumber cda_InvalidNumber cc_InvalidNumber : Addr} {bs_InvalidNumber bm_InvalidNumber sub_InvalidNumber : List Value} {sn_InvalidNumber : List Str} {ab_InvalidNumber : Bool} {col_InvalidNumber : Option Bool} {dd_InvalidNumber : Option Addr} {k0_InvalidNumber k1_InvalidNumber k2_InvalidNumber k3_InvalidNumber k5_InvalidNumber : Option Value}
    {foc_InvalidNumber fdoc_InvalidNumber fpm_InvalidNumber fct_InvalidNumber ccl_InvalidNumber cll_InvalidNumber : Value} {fod_InvalidNumber fan_InvalidNumber cdd_InvalidNumber cld_InvalidNumber : Option Addr} {fsl_InvalidNumber ccs_InvalidNumber csl_InvalidNumber : Array (Option Value)} {vs_InvalidNumber : Array Value} {file_InvalidNumber : Str} {tf_InvalidNumber : Tok}
    (a0 : PySem.W.nsIn K mainGlobals "_law_dice" = some (some (.ref f0)))
    (l0 : K.lookup f0 = some ⟨oc0, od0, .func (PySem.W.fnOf "_law_dice" "_law_dice" (defArgs s_law_dice) (defBody s_law_dice) (defScope s_law_dice) .none kV0 dc0 pm0 an0 cd0 ct0), sl0⟩)
    (c0 : PySem.W.codeIn K cd0 "_law_dice" = true)
    (k0 : PySem.W.keepIn K (.ref f0) = true)
    (a1 : PySem.W.nsIn K mainGlobals "_law_roll" = some (some (.ref f1)))
    (l1 : K.lookup f1 = some ⟨oc1, od1, .func (PySem.W.fnOf "_law_roll" "_law_roll" (defArgs s_law_roll) (defBody s_law_roll) (defScope s_law_roll) .none kV1 dc1 pm1 an1 cd1 ct1), sl1⟩)
    (c1 : PySem.W.codeIn K cd1 "_law_roll" = true)
    (k1 : PySem.W.keepIn K (.ref f1) = true)
    (a2 : PySem.W.nsIn K mainGlobals "_law_pick" = some (some (.ref f2)))
    (l2 : K.lookup f2 = some ⟨oc2, od2, .func (PySem.W.fnOf "_law_pick" "_law_pick" (defArgs s_law_pick) (defBody s_law_pick) (defScope s_law_pick) .none kV2 dc2 pm2 an2 cd2 ct2), sl2⟩)
    (c2 : PySem.W.codeIn K cd2 "_law_pick" = true)
    (k2 : PySem.W.keepIn K (.ref f2) = true)
    (a3 : PySem.W.nsIn K mainGlobals "_law_told" = some (some (.ref f3)))
    (l3 : K.lookup f3 = some ⟨oc3, od3, .func (PySem.W.fnOf "_law_told" "_law_told" (defArgs s_law_told) (defBody s_law_told) (defScope s_law_told) .none kV3 dc3 pm3 an3 cd3 ct3), sl3⟩)
    (c3 : PySem.W.codeIn K cd3 "_law_told" = true)
    (k3 : PySem.W.keepIn K (.ref f3) = true)
    (a4 : PySem.W.nsIn K mainGlobals "_law_keeper" = some (some (.ref f4)))
    (l4 : K.lookup f4 = some ⟨oc4, od4, .func (PySem.W.fnOf "_law_keeper" "_law_keeper" (defArgs s_law_keeper) (defBody s_law_keeper) (defScope s_law_keeper) .none kV4 dc4 pm4 an4 cd4 ct4), sl4⟩)
    (c4 : PySem.W.codeIn K cd4 "_law_keeper" = true)
    (k4 : PySem.W.keepIn K (.ref f4) = true)
    (a5 : PySem.W.nsIn K mainGlobals "_law_kept" = some (some (.ref f5)))
    (l5 : K.lookup f5 = some ⟨oc5, od5, .func (PySem.W.fnOf "_law_kept" "_law_kept" (defArgs s_law_kept) (defBody s_law_kept) (defScope s_law_kept) .none kV5 dc5 pm5 an5 cd5 ct5), sl5⟩)
    (c5 : PySem.W.codeIn K cd5 "_law_kept" = true)
    (k5 : PySem.W.keepIn K (.ref f5) = true)
    (a6 : PySem.W.nsIn K mainGlobals "_law_kinds" = some (some (.ref f6)))
    (l6 : K.lookup f6 = some ⟨oc6, od6, .func (PySem.W.fnOf "_law_kinds" "_law_kinds" (defArgs s_law_kinds) (defBody s_law_kinds) (defScope s_law_kinds) .none kV6 dc6 pm6 an6 cd6 ct6), sl6⟩)
    (c6 : PySem.W.codeIn K cd6 "_law_kinds" = true)
    (k6 : PySem.W.keepIn K (.ref f6) = true)
    (a7 : PySem.W.nsIn K mainGlobals "_law_python" = some (some (.ref f7)))
    (l7 : K.lookup f7 = some ⟨oc7, od7, .func (PySem.W.fnOf "_law_python" "_law_python" (defArgs s_law_python) (defBody s_law_python) (defScope s_law_python) .none kV7 dc7 pm7 an7 cd7 ct7), sl7⟩)
    (c7 : PySem.W.codeIn K cd7 "_law_python" = true)
    (k7 : PySem.W.keepIn K (.ref f7) = true)
    (a8 : PySem.W.nsIn K mainGlobals "_law_truths" = some (some (.ref f8)))
    (l8 : K.lookup f8 = some ⟨oc8, od8, .func (PySem.W.fnOf "_law_truths" "_law_truths" (defArgs s_law_truths) (defBody s_law_truths) (defScope s_law_truths) .none kV8 dc8 pm8 an8 cd8 ct8), sl8⟩)
    (c8 : PySem.W.codeIn K cd8 "_law_truths" = true)
    (k8 : PySem.W.keepIn K (.ref f8) = true)
    (a9 : PySem.W.nsIn K mainGlobals "_law_raise" = some (some (.ref f9)))
    (l9 : K.lookup f9 = some ⟨oc9, od9, .func (PySem.W.fnOf "_law_raise" "_law_raise" (defArgs s_law_raise) (defBody s_law_raise) (defScope s_law_raise) .none kV9 dc9 pm9 an9 cd9 ct9), sl9⟩)
    (c9 : PySem.W.codeIn K cd9 "_law_raise" = true)
    (k9 : PySem.W.keepIn K (.ref f9) = true)
    (a10 : PySem.W.nsIn K mainGlobals "_law_caught" = some (some (.ref f10)))
    (l10 : K.lookup f10 = some ⟨oc10, od10, .func (PySem.W.fnOf "_law_caught" "_law_caught" (defArgs s_law_caught) (defBody s_law_caught) (defScope s_law_caught) .none kV10 dc10 pm10 an10 cd10 ct10), sl10⟩)
    (c10 : PySem.W.codeIn K cd10 "_law_caught" = true)
    (k10 : PySem.W.keepIn K (.ref f10) = true)
    (a11 : PySem.W.nsIn K mainGlobals "_law_word" = some (some (.ref f11)))
    (l11 : K.lookup f11 = some ⟨oc11, od11, .func (PySem.W.fnOf "_law_word" "_law_word" (defArgs s_law_word) (defBody s_law_word) (defScope s_law_word) .none kV11 dc11 pm11 an11 cd11 ct11), sl11⟩)
    (c11 : PySem.W.codeIn K cd11 "_law_word" = true)
    (k11 : PySem.W.keepIn K (.ref f11) = true)
    (a12 : PySem.W.nsIn K mainGlobals "_law_value" = some (some (.ref f12)))
    (l12 : K.lookup f12 = some ⟨oc12, od12, .func (PySem.W.fnOf "_law_value" "_law_value" (defArgs s_law_value) (defBody s_law_value) (defScope s_law_value) .none kV12 dc12 pm12 an12 cd12 ct12), sl12⟩)
    (c12 : PySem.W.codeIn K cd12 "_law_value" = true)
    (k12 : PySem.W.keepIn K (.ref f12) = true)
    (a13 : PySem.W.nsIn K mainGlobals "_law_messages_right" = some (some (.ref f13)))
    (l13 : K.lookup f13 = some ⟨oc13, od13, .func (PySem.W.fnOf "_law_messages_right" "_law_messages_right" (defArgs s_law_messages_right) (defBody s_law_messages_right) (defScope s_law_messages_right) .none kV13 dc13 pm13 an13 cd13 ct13), sl13⟩)
    (c13 : PySem.W.codeIn K cd13 "_law_messages_right" = true)
    (k13 : PySem.W.keepIn K (.ref f13) = true)
    (a14 : PySem.W.nsIn K mainGlobals "_law_keepers_right" = some (some (.ref f14)))
    (l14 : K.lookup f14 = some ⟨oc14, od14, .func (PySem.W.fnOf "_law_keepers_right" "_law_keepers_right" (defArgs s_law_keepers_right) (defBody s_law_keepers_right) (defScope s_law_keepers_right) .none kV14 dc14 pm14 an14 cd14 ct14), sl14⟩)
    (c14 : PySem.W.codeIn K cd14 "_law_keepers_right" = true)
    (k14 : PySem.W.keepIn K (.ref f14) = true)
    (a15 : PySem.W.nsIn K mainGlobals "law" = some (some (.ref f15)))
    (l15 : K.lookup f15 = some ⟨oc15, od15, .func (PySem.W.fnOf "law" "law" (defArgs s_law) (defBody s_law) (defScope s_law) .none kV15 dc15 pm15 an15 cd15 ct15), sl15⟩)
    (c15 : PySem.W.codeIn K cd15 "law" = true)
    (k15 : PySem.W.keepIn K (.ref f15) = true)
    (z_ArithmeticError : PySem.W.nsIn K mainGlobals "ArithmeticError" = some none)
    (z_IndexError : PySem.W.nsIn K mainGlobals "IndexError" = some none)
    (z_KeyError : PySem.W.nsIn K mainGlobals "KeyError" = some none)
    (z_LookupError : PySem.W.nsIn K mainGlobals "LookupError" = some none)
    (z_OverflowError : PySem.W.nsIn K mainGlobals "OverflowError" = some none)
    (z_RuntimeError : PySem.W.nsIn K mainGlobals "RuntimeError" = some none)
    (z_ValueError : PySem.W.nsIn K mainGlobals "ValueError" = some none)
    (z_ZeroDivisionError : PySem.W.nsIn K mainGlobals "ZeroDivisionError" = some none)
    (z_abs : PySem.W.nsIn K mainGlobals "abs" = some none)
    (z_int : PySem.W.nsIn K mainGlobals "int" = some none)
    (z_isinstance : PySem.W.nsIn K mainGlobals "isinstance" = some none)
    (z_len : PySem.W.nsIn K mainGlobals "len" = some none)
    (z_max : PySem.W.nsIn K mainGlobals "max" = some none)
    (z_min : PySem.W.nsIn K mainGlobals "min" = some none)
    (z_range : PySem.W.nsIn K mainGlobals "range" = some none)
    (z_repr : PySem.W.nsIn K mainGlobals "repr" = some none)
    (e_InvalidWord : PySem.W.nsIn K mainGlobals "InvalidWord" = some (some (.ref C_InvalidWord)))
    (e_InvalidLibrary : PySem.W.nsIn K mainGlobals "InvalidLibrary" = some (some (.ref C_InvalidLibrary)))
    (e_InvalidCall : PySem.W.nsIn K mainGlobals "InvalidCall" = some (some (.ref C_InvalidCall)))
    (e_InvalidProgram : PySem.W.nsIn K mainGlobals "InvalidProgram" = some (some (.ref C_InvalidProgram)))
    (e_InvalidOperation : PySem.W.nsIn K mainGlobals "InvalidOperation" = some (some (.ref C_InvalidOperation)))
    (e_ParseError : PySem.W.nsIn K mainGlobals "ParseError" = some (some (.ref C_ParseError)))
    (e_UnknownName : PySem.W.nsIn K mainGlobals "UnknownName" = some (some (.ref C_UnknownName)))
    (e_UnknownPart : PySem.W.nsIn K mainGlobals "UnknownPart" = some (some (.ref C_UnknownPart)))
    (e_NothingToUndo : PySem.W.nsIn K mainGlobals "NothingToUndo" = some (some (.ref C_NothingToUndo)))
    (e_TooMany : PySem.W.nsIn K mainGlobals "TooMany" = some (some (.ref C_TooMany)))
    (e_Refused : PySem.W.nsIn K mainGlobals "Refused" = some (some (.ref C_Refused)))
    (e_InvalidNumber : PySem.W.nsIn K mainGlobals "InvalidNumber" = some (some (.ref C_InvalidNumber)))
    (e_RivalError : PySem.W.nsIn K mainGlobals "RivalError" = some (some (.ref C_RivalError)))
    (ex_InvalidWord : PySem.W.excIn K C_InvalidWord [.type "ValueError", .type "Exception", .type "BaseException", .type "object"] "ValueError.__new__" = true)
    (kp_InvalidWord : PySem.W.keepIn K (.ref C_InvalidWord) = true)
    (sb_InvalidWord : PySem.W.subIn K (.ref C_InvalidWord) (.type "BaseException") = some true)
    (ty_InvalidWord : PySem.W.typeIn K (.ref C_InvalidWord) = some (.type "type"))
    (hg_InvalidWord : PySem.W.findIn K (.ref C_InvalidWord) "__getattribute__" = some (some (.builtin "BaseException.__getattribute__")))
    (hk_InvalidWord : PySem.W.findIn K (.ref C_InvalidWord) "__getattr__" = some none)
    (hd_InvalidWord : PySem.W.hasDictIn K C_InvalidWord = true)
    (ha_InvalidWord : PySem.W.findIn K (.ref C_InvalidWord) "__class__" = some (some (.builtin "object.__class__")))
    (hn_InvalidWord : PySem.W.specialIn K (.builtin "object.__class__") "__get__" = some (some (.builtin "getset_descriptor.__get__")))
    (ht_InvalidWord : PySem.W.takesIn K (.builtin "object.__class__") = some true)
    (hm_InvalidWord : PySem.W.mroIn K C_InvalidWord (.type "object") = some true)
    (ex_InvalidLibrary : PySem.W.excIn K C_InvalidLibrary [.type "ValueError", .type "Exception", .type "BaseException", .type "object"] "ValueError.__new__" = true)
    (kp_InvalidLibrary : PySem.W.keepIn K (.ref C_InvalidLibrary) = true)
    (sb_InvalidLibrary : PySem.W.subIn K (.ref C_InvalidLibrary) (.type "BaseException") = some true)
    (ty_InvalidLibrary : PySem.W.typeIn K (.ref C_InvalidLibrary) = some (.type "type"))
    (hg_InvalidLibrary : PySem.W.findIn K (.ref C_InvalidLibrary) "__getattribute__" = some (some (.builtin "BaseException.__getattribute__")))
    (hk_InvalidLibrary : PySem.W.findIn K (.ref C_InvalidLibrary) "__getattr__" = some none)
    (hd_InvalidLibrary : PySem.W.hasDictIn K C_InvalidLibrary = true)
    (ha_InvalidLibrary : PySem.W.findIn K (.ref C_InvalidLibrary) "__class__" = some (some (.builtin "object.__class__")))
    (hn_InvalidLibrary : PySem.W.specialIn K (.builtin "object.__class__") "__get__" = some (some (.builtin "getset_descriptor.__get__")))
    (ht_InvalidLibrary : PySem.W.takesIn K (.builtin "object.__class__") = some true)
    (hm_InvalidLibrary : PySem.W.mroIn K C_InvalidLibrary (.type "object") = some true)
    (ex_InvalidCall : PySem.W.excIn K C_InvalidCall [.type "ValueError", .type "Exception", .type "BaseException", .type "object"] "ValueError.__new__" = true)
    (kp_InvalidCall : PySem.W.keepIn K (.ref C_InvalidCall) = true)
    (sb_InvalidCall : PySem.W.subIn K (.ref C_InvalidCall) (.type "BaseException") = some true)
    (ty_InvalidCall : PySem.W.typeIn K (.ref C_InvalidCall) = some (.type "type"))
    (hg_InvalidCall : PySem.W.findIn K (.ref C_InvalidCall) "__getattribute__" = some (some (.builtin "BaseException.__getattribute__")))
    (hk_InvalidCall : PySem.W.findIn K (.ref C_InvalidCall) "__getattr__" = some none)
    (hd_InvalidCall : PySem.W.hasDictIn K C_InvalidCall = true)
    (ha_InvalidCall : PySem.W.findIn K (.ref C_InvalidCall) "__class__" = some (some (.builtin "object.__class__")))
    (hn_InvalidCall : PySem.W.specialIn K (.builtin "object.__class__") "__get__" = some (some (.builtin "getset_descriptor.__get__")))
    (ht_InvalidCall : PySem.W.takesIn K (.builtin "object.__class__") = some true)
    (hm_InvalidCall : PySem.W.mroIn K C_InvalidCall (.type "object") = some true)
    (ex_InvalidProgram : PySem.W.excIn K C_InvalidProgram [.type "ValueError", .type "Exception", .type "BaseException", .type "object"] "ValueError.__new__" = true)
    (kp_InvalidProgram : PySem.W.keepIn K (.ref C_InvalidProgram) = true)
    (sb_InvalidProgram : PySem.W.subIn K (.ref C_InvalidProgram) (.type "BaseException") = some true)
    (ty_InvalidProgram : PySem.W.typeIn K (.ref C_InvalidProgram) = some (.type "type"))
    (hg_InvalidProgram : PySem.W.findIn K (.ref C_InvalidProgram) "__getattribute__" = some (some (.builtin "BaseException.__getattribute__")))
    (hk_InvalidProgram : PySem.W.findIn K (.ref C_InvalidProgram) "__getattr__" = some none)
    (hd_InvalidProgram : PySem.W.hasDictIn K C_InvalidProgram = true)
    (ha_InvalidProgram : PySem.W.findIn K (.ref C_InvalidProgram) "__class__" = some (some (.builtin "object.__class__")))
    (hn_InvalidProgram : PySem.W.specialIn K (.builtin "object.__class__") "__get__" = some (some (.builtin "getset_descriptor.__get__")))
    (ht_InvalidProgram : PySem.W.takesIn K (.builtin "object.__class__") = some true)
    (hm_InvalidProgram : PySem.W.mroIn K C_InvalidProgram (.type "object") = some true)
    (ex_InvalidOperation : PySem.W.excIn K C_InvalidOperation [.type "ValueError", .type "Exception", .type "BaseException", .type "object"] "ValueError.__new__" = true)
    (kp_InvalidOperation : PySem.W.keepIn K (.ref C_InvalidOperation) = true)
    (sb_InvalidOperation : PySem.W.subIn K (.ref C_InvalidOperation) (.type "BaseException") = some true)
    (ty_InvalidOperation : PySem.W.typeIn K (.ref C_InvalidOperation) = some (.type "type"))
    (hg_InvalidOperation : PySem.W.findIn K (.ref C_InvalidOperation) "__getattribute__" = some (some (.builtin "BaseException.__getattribute__")))
    (hk_InvalidOperation : PySem.W.findIn K (.ref C_InvalidOperation) "__getattr__" = some none)
    (hd_InvalidOperation : PySem.W.hasDictIn K C_InvalidOperation = true)
    (ha_InvalidOperation : PySem.W.findIn K (.ref C_InvalidOperation) "__class__" = some (some (.builtin "object.__class__")))
    (hn_InvalidOperation : PySem.W.specialIn K (.builtin "object.__class__") "__get__" = some (some (.builtin "getset_descriptor.__get__")))
    (ht_InvalidOperation : PySem.W.takesIn K (.builtin "object.__class__") = some true)
    (hm_InvalidOperation : PySem.W.mroIn K C_InvalidOperation (.type "object") = some true)
    (ex_RivalError : PySem.W.excIn K C_RivalError [.type "ValueError", .type "Exception", .type "BaseException", .type "object"] "ValueError.__new__" = true)
    (kp_RivalError : PySem.W.keepIn K (.ref C_RivalError) = true)
    (sb_RivalError : PySem.W.subIn K (.ref C_RivalError) (.type "BaseException") = some true)
    (ty_RivalError : PySem.W.typeIn K (.ref C_RivalError) = some (.type "type"))
    (hg_RivalError : PySem.W.findIn K (.ref C_RivalError) "__getattribute__" = some (some (.builtin "BaseException.__getattribute__")))
    (hk_RivalError : PySem.W.findIn K (.ref C_RivalError) "__getattr__" = some none)
    (hd_RivalError : PySem.W.hasDictIn K C_RivalError = true)
    (ha_RivalError : PySem.W.findIn K (.ref C_RivalError) "__class__" = some (some (.builtin "object.__class__")))
    (hn_RivalError : PySem.W.specialIn K (.builtin "object.__class__") "__get__" = some (some (.builtin "getset_descriptor.__get__")))
    (ht_RivalError : PySem.W.takesIn K (.builtin "object.__class__") = some true)
    (hm_RivalError : PySem.W.mroIn K C_RivalError (.type "object") = some true)
    (ycl_ParseError : K.lookup C_ParseError = some (excClassObj nm_ParseError qn_ParseError C_ParseError N_ParseError bs_ParseError bm_ParseError true sn_ParseError sub_ParseError ab_ParseError col_ParseError dd_ParseError k0_ParseError k1_ParseError k2_ParseError k3_ParseError k5_ParseError "ValueError.__new__"))
    (yve_ParseError : PySem.W.excTail PySem.PeB.bVE.tail bm_ParseError = true)
    (ysa_ParseError : PySem.W.findIn K (.ref C_ParseError) "__setattr__" = some (some (.builtin "object.__setattr__")))
    (yga_ParseError : PySem.W.findIn K (.ref C_ParseError) "__getattribute__" = some (some (.builtin "BaseException.__getattribute__")))
    (ygg_ParseError : PySem.W.findIn K (.ref C_ParseError) "__getattr__" = some none)
    (yno_ParseError : PySem.W.findIn K (.ref C_ParseError) "line" = some none)
    (yic_ParseError : PySem.W.findIn K (.ref C_ParseError) "__init__" = some (some (.ref fI_ParseError)))
    (ytc_ParseError : PySem.W.typeIn K (.ref fI_ParseError) = some (.type "function"))
    (ykc_ParseError : PySem.W.keepIn K (.ref C_ParseError) = true)
    (yex_ParseError : PySem.W.subIn K (.ref C_ParseError) (.type "BaseException") = some true)
    (yvc_ParseError : PySem.W.subIn K (.ref C_ParseError) (.type "ValueError") = some true)
    (yty_ParseError : PySem.W.typeIn K (.ref C_ParseError) = some (.type "type"))
    (yhd_ParseError : PySem.W.hasDictIn K C_ParseError = true)
    (ysu_ParseError : PySem.W.ks_superIn K C_ParseError C_ParseError "__init__" = some (some (.builtin "ValueError.__init__")))
    (yop_ParseError : PySem.W.nsIn K cStatics "thirdparty.any" = some none)
    (yms_ParseError : PySem.W.mroIn K C_ParseError (.ref C_ParseError) = some true)
    (yns_ParseError : PySem.W.nsIn K mainGlobals "super" = some none)
    (yto_ParseError : (P.main.scope.names.lookup ("super" : Str)).isSome = false)
    (yfn_ParseError : K.lookup fI_ParseError = some ⟨foc_ParseError, fod_ParseError, .func (PySem.W.ksFn "__init__" "ParseError.__init__" (PySem.PeX.iA "line" ⟨⟨16, 17, 16, 21⟩, ⟨16, 23, 16, 27⟩, ⟨17, 8, 17, 13⟩, ⟨17, 8, 17, 15⟩, ⟨17, 8, 17, 24⟩, ⟨17, 27, 17, 32⟩, ⟨17, 33, 17, 37⟩, ⟨17, 32, 17, 38⟩, ⟨17, 38, 17, 53⟩, ⟨17, 25, 17, 54⟩, ⟨17, 8, 17, 55⟩, ⟨17, 8, 17, 55⟩, ⟨18, 8, 18, 12⟩, ⟨18, 8, 18, 17⟩, ⟨18, 20, 18, 24⟩, ⟨18, 8, 18, 24⟩⟩) (PySem.PeX.iB "line" "line " " cannot be read" ⟨⟨16, 17, 16, 21⟩, ⟨16, 23, 16, 27⟩, ⟨17, 8, 17, 13⟩, ⟨17, 8, 17, 15⟩, ⟨17, 8, 17, 24⟩, ⟨17, 27, 17, 32⟩, ⟨17, 33, 17, 37⟩, ⟨17, 32, 17, 38⟩, ⟨17, 38, 17, 53⟩, ⟨17, 25, 17, 54⟩, ⟨17, 8, 17, 55⟩, ⟨17, 8, 17, 55⟩, ⟨18, 8, 18, 12⟩, ⟨18, 8, 18, 17⟩, ⟨18, 20, 18, 24⟩, ⟨18, 8, 18, 24⟩⟩) (PySem.PeX.iS "line") .none .none fdoc_ParseError fpm_ParseError fan_ParseError (.ref cda_ParseError) fct_ParseError cc_ParseError), fsl_ParseError⟩)
    (yci_ParseError : PySem.W.codeIn K (.ref cda_ParseError) "ParseError.__init__" = true)
    (yce_ParseError : K.lookup cc_ParseError = some ⟨cll_ParseError, cld_ParseError, .cell (some (.ref C_ParseError)), csl_ParseError⟩)
    (yco_ParseError : K.lookup cda_ParseError = some ⟨ccl_ParseError, cdd_ParseError, .fields vs_ParseError, ccs_ParseError⟩)
    (yvs_ParseError : vs_ParseError[2]? = some (.str file_ParseError tf_ParseError))
    (yfi_ParseError : ((P.main.file : Str) == file_ParseError) = true)
    (yha_ParseError : PySem.W.findIn K (.ref C_ParseError) "__class__" = some (some (.builtin "object.__class__")))
    (yhn_ParseError : PySem.W.specialIn K (.builtin "object.__class__") "__get__" = some (some (.builtin "getset_descriptor.__get__")))
    (yht_ParseError : PySem.W.takesIn K (.builtin "object.__class__") = some true)
    (yhm_ParseError : PySem.W.mroIn K C_ParseError (.type "object") = some true)
    (ycl_UnknownName : K.lookup C_UnknownName = some (excClassObj nm_UnknownName qn_UnknownName C_UnknownName N_UnknownName bs_UnknownName bm_UnknownName true sn_UnknownName sub_UnknownName ab_UnknownName col_UnknownName dd_UnknownName k0_UnknownName k1_UnknownName k2_UnknownName k3_UnknownName k5_UnknownName "LookupError.__new__"))
    (yve_UnknownName : PySem.W.excTail PySem.PeB.bKE.tail bm_UnknownName = true)
    (ysa_UnknownName : PySem.W.findIn K (.ref C_UnknownName) "__setattr__" = some (some (.builtin "object.__setattr__")))
    (yga_UnknownName : PySem.W.findIn K (.ref C_UnknownName) "__getattribute__" = some (some (.builtin "BaseException.__getattribute__")))
    (ygg_UnknownName : PySem.W.findIn K (.ref C_UnknownName) "__getattr__" = some none)
    (yno_UnknownName : PySem.W.findIn K (.ref C_UnknownName) "name" = some none)
    (yic_UnknownName : PySem.W.findIn K (.ref C_UnknownName) "__init__" = some (some (.ref fI_UnknownName)))
    (ytc_UnknownName : PySem.W.typeIn K (.ref fI_UnknownName) = some (.type "function"))
    (ykc_UnknownName : PySem.W.keepIn K (.ref C_UnknownName) = true)
    (yex_UnknownName : PySem.W.subIn K (.ref C_UnknownName) (.type "BaseException") = some true)
    (yvc_UnknownName : PySem.W.subIn K (.ref C_UnknownName) (.type "KeyError") = some true)
    (yty_UnknownName : PySem.W.typeIn K (.ref C_UnknownName) = some (.type "type"))
    (yhd_UnknownName : PySem.W.hasDictIn K C_UnknownName = true)
    (ysu_UnknownName : PySem.W.ks_superIn K C_UnknownName C_UnknownName "__init__" = some (some (.builtin "KeyError.__init__")))
    (yop_UnknownName : PySem.W.nsIn K cStatics "thirdparty.any" = some none)
    (yms_UnknownName : PySem.W.mroIn K C_UnknownName (.ref C_UnknownName) = some true)
    (yns_UnknownName : PySem.W.nsIn K mainGlobals "super" = some none)
    (yto_UnknownName : (P.main.scope.names.lookup ("super" : Str)).isSome = false)
    (yfn_UnknownName : K.lookup fI_UnknownName = some ⟨foc_UnknownName, fod_UnknownName, .func (PySem.W.ksFn "__init__" "UnknownName.__init__" (PySem.PeX.iA "name" ⟨⟨21, 17, 21, 21⟩, ⟨21, 23, 21, 27⟩, ⟨22, 8, 22, 13⟩, ⟨22, 8, 22, 15⟩, ⟨22, 8, 22, 24⟩, ⟨0, 0, 0, 0⟩, ⟨22, 28, 22, 32⟩, ⟨22, 27, 22, 33⟩, ⟨22, 33, 22, 64⟩, ⟨22, 25, 22, 65⟩, ⟨22, 8, 22, 66⟩, ⟨22, 8, 22, 66⟩, ⟨23, 8, 23, 12⟩, ⟨23, 8, 23, 17⟩, ⟨23, 20, 23, 24⟩, ⟨23, 8, 23, 24⟩⟩) (PySem.PeB.iB1 "name" "" " is not the name of a candidate" ⟨⟨21, 17, 21, 21⟩, ⟨21, 23, 21, 27⟩, ⟨22, 8, 22, 13⟩, ⟨22, 8, 22, 15⟩, ⟨22, 8, 22, 24⟩, ⟨0, 0, 0, 0⟩, ⟨22, 28, 22, 32⟩, ⟨22, 27, 22, 33⟩, ⟨22, 33, 22, 64⟩, ⟨22, 25, 22, 65⟩, ⟨22, 8, 22, 66⟩, ⟨22, 8, 22, 66⟩, ⟨23, 8, 23, 12⟩, ⟨23, 8, 23, 17⟩, ⟨23, 20, 23, 24⟩, ⟨23, 8, 23, 24⟩⟩) (PySem.PeX.iS "name") .none .none fdoc_UnknownName fpm_UnknownName fan_UnknownName (.ref cda_UnknownName) fct_UnknownName cc_UnknownName), fsl_UnknownName⟩)
    (yci_UnknownName : PySem.W.codeIn K (.ref cda_UnknownName) "UnknownName.__init__" = true)
    (yce_UnknownName : K.lookup cc_UnknownName = some ⟨cll_UnknownName, cld_UnknownName, .cell (some (.ref C_UnknownName)), csl_UnknownName⟩)
    (yco_UnknownName : K.lookup cda_UnknownName = some ⟨ccl_UnknownName, cdd_UnknownName, .fields vs_UnknownName, ccs_UnknownName⟩)
    (yvs_UnknownName : vs_UnknownName[2]? = some (.str file_UnknownName tf_UnknownName))
    (yfi_UnknownName : ((P.main.file : Str) == file_UnknownName) = true)
    (yha_UnknownName : PySem.W.findIn K (.ref C_UnknownName) "__class__" = some (some (.builtin "object.__class__")))
    (yhn_UnknownName : PySem.W.specialIn K (.builtin "object.__class__") "__get__" = some (some (.builtin "getset_descriptor.__get__")))
    (yht_UnknownName : PySem.W.takesIn K (.builtin "object.__class__") = some true)
    (yhm_UnknownName : PySem.W.mroIn K C_UnknownName (.type "object") = some true)
    (ycl_UnknownPart : K.lookup C_UnknownPart = some (excClassObj nm_UnknownPart qn_UnknownPart C_UnknownPart N_UnknownPart bs_UnknownPart bm_UnknownPart true sn_UnknownPart sub_UnknownPart ab_UnknownPart col_UnknownPart dd_UnknownPart k0_UnknownPart k1_UnknownPart k2_UnknownPart k3_UnknownPart k5_UnknownPart "LookupError.__new__"))
    (yve_UnknownPart : PySem.W.excTail PySem.PeB.bLE.tail bm_UnknownPart = true)
    (ysa_UnknownPart : PySem.W.findIn K (.ref C_UnknownPart) "__setattr__" = some (some (.builtin "object.__setattr__")))
    (yga_UnknownPart : PySem.W.findIn K (.ref C_UnknownPart) "__getattribute__" = some (some (.builtin "BaseException.__getattribute__")))
    (ygg_UnknownPart : PySem.W.findIn K (.ref C_UnknownPart) "__getattr__" = some none)
    (yno_UnknownPart : PySem.W.findIn K (.ref C_UnknownPart) "name" = some none)
    (yic_UnknownPart : PySem.W.findIn K (.ref C_UnknownPart) "__init__" = some (some (.ref fI_UnknownPart)))
    (ytc_UnknownPart : PySem.W.typeIn K (.ref fI_UnknownPart) = some (.type "function"))
    (ykc_UnknownPart : PySem.W.keepIn K (.ref C_UnknownPart) = true)
    (yex_UnknownPart : PySem.W.subIn K (.ref C_UnknownPart) (.type "BaseException") = some true)
    (yvc_UnknownPart : PySem.W.subIn K (.ref C_UnknownPart) (.type "LookupError") = some true)
    (yty_UnknownPart : PySem.W.typeIn K (.ref C_UnknownPart) = some (.type "type"))
    (yhd_UnknownPart : PySem.W.hasDictIn K C_UnknownPart = true)
    (ysu_UnknownPart : PySem.W.ks_superIn K C_UnknownPart C_UnknownPart "__init__" = some (some (.builtin "LookupError.__init__")))
    (yop_UnknownPart : PySem.W.nsIn K cStatics "thirdparty.any" = some none)
    (yms_UnknownPart : PySem.W.mroIn K C_UnknownPart (.ref C_UnknownPart) = some true)
    (yns_UnknownPart : PySem.W.nsIn K mainGlobals "super" = some none)
    (yto_UnknownPart : (P.main.scope.names.lookup ("super" : Str)).isSome = false)
    (yfn_UnknownPart : K.lookup fI_UnknownPart = some ⟨foc_UnknownPart, fod_UnknownPart, .func (PySem.W.ksFn "__init__" "UnknownPart.__init__" (PySem.PeX.iA "name" ⟨⟨26, 17, 26, 21⟩, ⟨26, 23, 26, 27⟩, ⟨27, 8, 27, 13⟩, ⟨27, 8, 27, 15⟩, ⟨27, 8, 27, 24⟩, ⟨0, 0, 0, 0⟩, ⟨27, 28, 27, 32⟩, ⟨27, 27, 27, 33⟩, ⟨27, 33, 27, 59⟩, ⟨27, 25, 27, 60⟩, ⟨27, 8, 27, 61⟩, ⟨27, 8, 27, 61⟩, ⟨28, 8, 28, 12⟩, ⟨28, 8, 28, 17⟩, ⟨28, 20, 28, 24⟩, ⟨28, 8, 28, 24⟩⟩) (PySem.PeB.iB1 "name" "" " is not the name of a part" ⟨⟨26, 17, 26, 21⟩, ⟨26, 23, 26, 27⟩, ⟨27, 8, 27, 13⟩, ⟨27, 8, 27, 15⟩, ⟨27, 8, 27, 24⟩, ⟨0, 0, 0, 0⟩, ⟨27, 28, 27, 32⟩, ⟨27, 27, 27, 33⟩, ⟨27, 33, 27, 59⟩, ⟨27, 25, 27, 60⟩, ⟨27, 8, 27, 61⟩, ⟨27, 8, 27, 61⟩, ⟨28, 8, 28, 12⟩, ⟨28, 8, 28, 17⟩, ⟨28, 20, 28, 24⟩, ⟨28, 8, 28, 24⟩⟩) (PySem.PeX.iS "name") .none .none fdoc_UnknownPart fpm_UnknownPart fan_UnknownPart (.ref cda_UnknownPart) fct_UnknownPart cc_UnknownPart), fsl_UnknownPart⟩)
    (yci_UnknownPart : PySem.W.codeIn K (.ref cda_UnknownPart) "UnknownPart.__init__" = true)
    (yce_UnknownPart : K.lookup cc_UnknownPart = some ⟨cll_UnknownPart, cld_UnknownPart, .cell (some (.ref C_UnknownPart)), csl_UnknownPart⟩)
    (yco_UnknownPart : K.lookup cda_UnknownPart = some ⟨ccl_UnknownPart, cdd_UnknownPart, .fields vs_UnknownPart, ccs_UnknownPart⟩)
    (yvs_UnknownPart : vs_UnknownPart[2]? = some (.str file_UnknownPart tf_UnknownPart))
    (yfi_UnknownPart : ((P.main.file : Str) == file_UnknownPart) = true)
    (yha_UnknownPart : PySem.W.findIn K (.ref C_UnknownPart) "__class__" = some (some (.builtin "object.__class__")))
    (yhn_UnknownPart : PySem.W.specialIn K (.builtin "object.__class__") "__get__" = some (some (.builtin "getset_descriptor.__get__")))
    (yht_UnknownPart : PySem.W.takesIn K (.builtin "object.__class__") = some true)
    (yhm_UnknownPart : PySem.W.mroIn K C_UnknownPart (.type "object") = some true)
    (ycl_NothingToUndo : K.lookup C_NothingToUndo = some (excClassObj nm_NothingToUndo qn_NothingToUndo C_NothingToUndo N_NothingToUndo bs_NothingToUndo bm_NothingToUndo true sn_NothingToUndo sub_NothingToUndo ab_NothingToUndo col_NothingToUndo dd_NothingToUndo k0_NothingToUndo k1_NothingToUndo k2_NothingToUndo k3_NothingToUndo k5_NothingToUndo "IndexError.__new__"))
    (yve_NothingToUndo : PySem.W.excTail PySem.PeB.bIE.tail bm_NothingToUndo = true)
    (ysa_NothingToUndo : PySem.W.findIn K (.ref C_NothingToUndo) "__setattr__" = some (some (.builtin "object.__setattr__")))
    (yga_NothingToUndo : PySem.W.findIn K (.ref C_NothingToUndo) "__getattribute__" = some (some (.builtin "BaseException.__getattribute__")))
    (ygg_NothingToUndo : PySem.W.findIn K (.ref C_NothingToUndo) "__getattr__" = some none)
    (yno_NothingToUndo : PySem.W.findIn K (.ref C_NothingToUndo) "many" = some none)
    (yic_NothingToUndo : PySem.W.findIn K (.ref C_NothingToUndo) "__init__" = some (some (.ref fI_NothingToUndo)))
    (ytc_NothingToUndo : PySem.W.typeIn K (.ref fI_NothingToUndo) = some (.type "function"))
    (ykc_NothingToUndo : PySem.W.keepIn K (.ref C_NothingToUndo) = true)
    (yex_NothingToUndo : PySem.W.subIn K (.ref C_NothingToUndo) (.type "BaseException") = some true)
    (yvc_NothingToUndo : PySem.W.subIn K (.ref C_NothingToUndo) (.type "IndexError") = some true)
    (yty_NothingToUndo : PySem.W.typeIn K (.ref C_NothingToUndo) = some (.type "type"))
    (yhd_NothingToUndo : PySem.W.hasDictIn K C_NothingToUndo = true)
    (ysu_NothingToUndo : PySem.W.ks_superIn K C_NothingToUndo C_NothingToUndo "__init__" = some (some (.builtin "IndexError.__init__")))
    (yop_NothingToUndo : PySem.W.nsIn K cStatics "thirdparty.any" = some none)
    (yms_NothingToUndo : PySem.W.mroIn K C_NothingToUndo (.ref C_NothingToUndo) = some true)
    (yns_NothingToUndo : PySem.W.nsIn K mainGlobals "super" = some none)
    (yto_NothingToUndo : (P.main.scope.names.lookup ("super" : Str)).isSome = false)
    (yfn_NothingToUndo : K.lookup fI_NothingToUndo = some ⟨foc_NothingToUndo, fod_NothingToUndo, .func (PySem.W.ksFn "__init__" "NothingToUndo.__init__" (PySem.PeX.iA "many" ⟨⟨31, 17, 31, 21⟩, ⟨31, 23, 31, 27⟩, ⟨32, 8, 32, 13⟩, ⟨32, 8, 32, 15⟩, ⟨32, 8, 32, 24⟩, ⟨32, 27, 32, 41⟩, ⟨32, 42, 32, 46⟩, ⟨32, 41, 32, 47⟩, ⟨32, 47, 32, 66⟩, ⟨32, 25, 32, 67⟩, ⟨32, 8, 32, 68⟩, ⟨32, 8, 32, 68⟩, ⟨33, 8, 33, 12⟩, ⟨33, 8, 33, 17⟩, ⟨33, 20, 33, 24⟩, ⟨33, 8, 33, 24⟩⟩) (PySem.PeX.iB "many" "there are not " " deeds to take back" ⟨⟨31, 17, 31, 21⟩, ⟨31, 23, 31, 27⟩, ⟨32, 8, 32, 13⟩, ⟨32, 8, 32, 15⟩, ⟨32, 8, 32, 24⟩, ⟨32, 27, 32, 41⟩, ⟨32, 42, 32, 46⟩, ⟨32, 41, 32, 47⟩, ⟨32, 47, 32, 66⟩, ⟨32, 25, 32, 67⟩, ⟨32, 8, 32, 68⟩, ⟨32, 8, 32, 68⟩, ⟨33, 8, 33, 12⟩, ⟨33, 8, 33, 17⟩, ⟨33, 20, 33, 24⟩, ⟨33, 8, 33, 24⟩⟩) (PySem.PeX.iS "many") .none .none fdoc_NothingToUndo fpm_NothingToUndo fan_NothingToUndo (.ref cda_NothingToUndo) fct_NothingToUndo cc_NothingToUndo), fsl_NothingToUndo⟩)
    (yci_NothingToUndo : PySem.W.codeIn K (.ref cda_NothingToUndo) "NothingToUndo.__init__" = true)
    (yce_NothingToUndo : K.lookup cc_NothingToUndo = some ⟨cll_NothingToUndo, cld_NothingToUndo, .cell (some (.ref C_NothingToUndo)), csl_NothingToUndo⟩)
    (yco_NothingToUndo : K.lookup cda_NothingToUndo = some ⟨ccl_NothingToUndo, cdd_NothingToUndo, .fields vs_NothingToUndo, ccs_NothingToUndo⟩)
    (yvs_NothingToUndo : vs_NothingToUndo[2]? = some (.str file_NothingToUndo tf_NothingToUndo))
    (yfi_NothingToUndo : ((P.main.file : Str) == file_NothingToUndo) = true)
    (yha_NothingToUndo : PySem.W.findIn K (.ref C_NothingToUndo) "__class__" = some (some (.builtin "object.__class__")))
    (yhn_NothingToUndo : PySem.W.specialIn K (.builtin "object.__class__") "__get__" = some (some (.builtin "getset_descriptor.__get__")))
    (yht_NothingToUndo : PySem.W.takesIn K (.builtin "object.__class__") = some true)
    (yhm_NothingToUndo : PySem.W.mroIn K C_NothingToUndo (.type "object") = some true)
    (ycl_TooMany : K.lookup C_TooMany = some (excClassObj nm_TooMany qn_TooMany C_TooMany N_TooMany bs_TooMany bm_TooMany true sn_TooMany sub_TooMany ab_TooMany col_TooMany dd_TooMany k0_TooMany k1_TooMany k2_TooMany k3_TooMany k5_TooMany "OverflowError.__new__"))
    (yve_TooMany : PySem.W.excTail PySem.PeB.bOE.tail bm_TooMany = true)
    (ysa_TooMany : PySem.W.findIn K (.ref C_TooMany) "__setattr__" = some (some (.builtin "object.__setattr__")))
    (yga_TooMany : PySem.W.findIn K (.ref C_TooMany) "__getattribute__" = some (some (.builtin "BaseException.__getattribute__")))
    (ygg_TooMany : PySem.W.findIn K (.ref C_TooMany) "__getattr__" = some none)
    (yno_TooMany : PySem.W.findIn K (.ref C_TooMany) "limit" = some none)
    (yic_TooMany : PySem.W.findIn K (.ref C_TooMany) "__init__" = some (some (.ref fI_TooMany)))
    (ytc_TooMany : PySem.W.typeIn K (.ref fI_TooMany) = some (.type "function"))
    (ykc_TooMany : PySem.W.keepIn K (.ref C_TooMany) = true)
    (yex_TooMany : PySem.W.subIn K (.ref C_TooMany) (.type "BaseException") = some true)
    (yvc_TooMany : PySem.W.subIn K (.ref C_TooMany) (.type "OverflowError") = some true)
    (yty_TooMany : PySem.W.typeIn K (.ref C_TooMany) = some (.type "type"))
    (yhd_TooMany : PySem.W.hasDictIn K C_TooMany = true)
    (ysu_TooMany : PySem.W.ks_superIn K C_TooMany C_TooMany "__init__" = some (some (.builtin "OverflowError.__init__")))
    (yop_TooMany : PySem.W.nsIn K cStatics "thirdparty.any" = some none)
    (yms_TooMany : PySem.W.mroIn K C_TooMany (.ref C_TooMany) = some true)
    (yns_TooMany : PySem.W.nsIn K mainGlobals "super" = some none)
    (yto_TooMany : (P.main.scope.names.lookup ("super" : Str)).isSome = false)
    (yfn_TooMany : K.lookup fI_TooMany = some ⟨foc_TooMany, fod_TooMany, .func (PySem.W.ksFn "__init__" "TooMany.__init__" (PySem.PeX.iA "limit" ⟨⟨36, 17, 36, 21⟩, ⟨36, 23, 36, 28⟩, ⟨37, 8, 37, 13⟩, ⟨37, 8, 37, 15⟩, ⟨37, 8, 37, 24⟩, ⟨37, 27, 37, 47⟩, ⟨37, 48, 37, 53⟩, ⟨37, 47, 37, 54⟩, ⟨0, 0, 0, 0⟩, ⟨37, 25, 37, 55⟩, ⟨37, 8, 37, 56⟩, ⟨37, 8, 37, 56⟩, ⟨38, 8, 38, 12⟩, ⟨38, 8, 38, 18⟩, ⟨38, 21, 38, 26⟩, ⟨38, 8, 38, 26⟩⟩) (PySem.PeB.iB2 "limit" "there are more than " "" ⟨⟨36, 17, 36, 21⟩, ⟨36, 23, 36, 28⟩, ⟨37, 8, 37, 13⟩, ⟨37, 8, 37, 15⟩, ⟨37, 8, 37, 24⟩, ⟨37, 27, 37, 47⟩, ⟨37, 48, 37, 53⟩, ⟨37, 47, 37, 54⟩, ⟨0, 0, 0, 0⟩, ⟨37, 25, 37, 55⟩, ⟨37, 8, 37, 56⟩, ⟨37, 8, 37, 56⟩, ⟨38, 8, 38, 12⟩, ⟨38, 8, 38, 18⟩, ⟨38, 21, 38, 26⟩, ⟨38, 8, 38, 26⟩⟩) (PySem.PeX.iS "limit") .none .none fdoc_TooMany fpm_TooMany fan_TooMany (.ref cda_TooMany) fct_TooMany cc_TooMany), fsl_TooMany⟩)
    (yci_TooMany : PySem.W.codeIn K (.ref cda_TooMany) "TooMany.__init__" = true)
    (yce_TooMany : K.lookup cc_TooMany = some ⟨cll_TooMany, cld_TooMany, .cell (some (.ref C_TooMany)), csl_TooMany⟩)
    (yco_TooMany : K.lookup cda_TooMany = some ⟨ccl_TooMany, cdd_TooMany, .fields vs_TooMany, ccs_TooMany⟩)
    (yvs_TooMany : vs_TooMany[2]? = some (.str file_TooMany tf_TooMany))
    (yfi_TooMany : ((P.main.file : Str) == file_TooMany) = true)
    (yha_TooMany : PySem.W.findIn K (.ref C_TooMany) "__class__" = some (some (.builtin "object.__class__")))
    (yhn_TooMany : PySem.W.specialIn K (.builtin "object.__class__") "__get__" = some (some (.builtin "getset_descriptor.__get__")))
    (yht_TooMany : PySem.W.takesIn K (.builtin "object.__class__") = some true)
    (yhm_TooMany : PySem.W.mroIn K C_TooMany (.type "object") = some true)
    (ycl_Refused : K.lookup C_Refused = some (excClassObj nm_Refused qn_Refused C_Refused N_Refused bs_Refused bm_Refused true sn_Refused sub_Refused ab_Refused col_Refused dd_Refused k0_Refused k1_Refused k2_Refused k3_Refused k5_Refused "ArithmeticError.__new__"))
    (yve_Refused : PySem.W.excTail PySem.PeB.bAE.tail bm_Refused = true)
    (ysa_Refused : PySem.W.findIn K (.ref C_Refused) "__setattr__" = some (some (.builtin "object.__setattr__")))
    (yga_Refused : PySem.W.findIn K (.ref C_Refused) "__getattribute__" = some (some (.builtin "BaseException.__getattribute__")))
    (ygg_Refused : PySem.W.findIn K (.ref C_Refused) "__getattr__" = some none)
    (yno_Refused : PySem.W.findIn K (.ref C_Refused) "call" = some none)
    (yic_Refused : PySem.W.findIn K (.ref C_Refused) "__init__" = some (some (.ref fI_Refused)))
    (ytc_Refused : PySem.W.typeIn K (.ref fI_Refused) = some (.type "function"))
    (ykc_Refused : PySem.W.keepIn K (.ref C_Refused) = true)
    (yex_Refused : PySem.W.subIn K (.ref C_Refused) (.type "BaseException") = some true)
    (yvc_Refused : PySem.W.subIn K (.ref C_Refused) (.type "ArithmeticError") = some true)
    (yty_Refused : PySem.W.typeIn K (.ref C_Refused) = some (.type "type"))
    (yhd_Refused : PySem.W.hasDictIn K C_Refused = true)
    (ysu_Refused : PySem.W.ks_superIn K C_Refused C_Refused "__init__" = some (some (.builtin "ArithmeticError.__init__")))
    (yop_Refused : PySem.W.nsIn K cStatics "thirdparty.any" = some none)
    (yms_Refused : PySem.W.mroIn K C_Refused (.ref C_Refused) = some true)
    (yns_Refused : PySem.W.nsIn K mainGlobals "super" = some none)
    (yto_Refused : (P.main.scope.names.lookup ("super" : Str)).isSome = false)
    (yfn_Refused : K.lookup fI_Refused = some ⟨foc_Refused, fod_Refused, .func (PySem.W.ksFn "__init__" "Refused.__init__" (PySem.PeX.iA "call" ⟨⟨41, 17, 41, 21⟩, ⟨41, 23, 41, 27⟩, ⟨42, 8, 42, 13⟩, ⟨42, 8, 42, 15⟩, ⟨42, 8, 42, 24⟩, ⟨42, 27, 42, 36⟩, ⟨42, 37, 42, 41⟩, ⟨42, 36, 42, 42⟩, ⟨42, 42, 42, 59⟩, ⟨42, 25, 42, 60⟩, ⟨42, 8, 42, 61⟩, ⟨42, 8, 42, 61⟩, ⟨43, 8, 43, 12⟩, ⟨43, 8, 43, 17⟩, ⟨43, 20, 43, 24⟩, ⟨43, 8, 43, 24⟩⟩) (PySem.PeX.iB "call" "the call " " would be changed" ⟨⟨41, 17, 41, 21⟩, ⟨41, 23, 41, 27⟩, ⟨42, 8, 42, 13⟩, ⟨42, 8, 42, 15⟩, ⟨42, 8, 42, 24⟩, ⟨42, 27, 42, 36⟩, ⟨42, 37, 42, 41⟩, ⟨42, 36, 42, 42⟩, ⟨42, 42, 42, 59⟩, ⟨42, 25, 42, 60⟩, ⟨42, 8, 42, 61⟩, ⟨42, 8, 42, 61⟩, ⟨43, 8, 43, 12⟩, ⟨43, 8, 43, 17⟩, ⟨43, 20, 43, 24⟩, ⟨43, 8, 43, 24⟩⟩) (PySem.PeX.iS "call") .none .none fdoc_Refused fpm_Refused fan_Refused (.ref cda_Refused) fct_Refused cc_Refused), fsl_Refused⟩)
    (yci_Refused : PySem.W.codeIn K (.ref cda_Refused) "Refused.__init__" = true)
    (yce_Refused : K.lookup cc_Refused = some ⟨cll_Refused, cld_Refused, .cell (some (.ref C_Refused)), csl_Refused⟩)
    (yco_Refused : K.lookup cda_Refused = some ⟨ccl_Refused, cdd_Refused, .fields vs_Refused, ccs_Refused⟩)
    (yvs_Refused : vs_Refused[2]? = some (.str file_Refused tf_Refused))
    (yfi_Refused : ((P.main.file : Str) == file_Refused) = true)
    (yha_Refused : PySem.W.findIn K (.ref C_Refused) "__class__" = some (some (.builtin "object.__class__")))
    (yhn_Refused : PySem.W.specialIn K (.builtin "object.__class__") "__get__" = some (some (.builtin "getset_descriptor.__get__")))
    (yht_Refused : PySem.W.takesIn K (.builtin "object.__class__") = some true)
    (yhm_Refused : PySem.W.mroIn K C_Refused (.type "object") = some true)
    (ycl_InvalidNumber : K.lookup C_InvalidNumber = some (excClassObj nm_InvalidNumber qn_InvalidNumber C_InvalidNumber N_InvalidNumber bs_InvalidNumber bm_InvalidNumber true sn_InvalidNumber sub_InvalidNumber ab_InvalidNumber col_InvalidNumber dd_InvalidNumber k0_InvalidNumber k1_InvalidNumber k2_InvalidNumber k3_InvalidNumber k5_InvalidNumber "RuntimeError.__new__"))
    (yve_InvalidNumber : PySem.W.excTail PySem.PeB.bRE.tail bm_InvalidNumber = true)
    (ysa_InvalidNumber : PySem.W.findIn K (.ref C_InvalidNumber) "__setattr__" = some (some (.builtin "object.__setattr__")))
    (yga_InvalidNumber : PySem.W.findIn K (.ref C_InvalidNumber) "__getattribute__" = some (some (.builtin "BaseException.__getattribute__")))
    (ygg_InvalidNumber : PySem.W.findIn K (.ref C_InvalidNumber) "__getattr__" = some none)
    (yno_InvalidNumber : PySem.W.findIn K (.ref C_InvalidNumber) "value" = some none)
    (yic_InvalidNumber : PySem.W.findIn K (.ref C_InvalidNumber) "__init__" = some (some (.ref fI_InvalidNumber)))
    (ytc_InvalidNumber : PySem.W.typeIn K (.ref fI_InvalidNumber) = some (.type "function"))
    (ykc_InvalidNumber : PySem.W.keepIn K (.ref C_InvalidNumber) = true)
    (yex_InvalidNumber : PySem.W.subIn K (.ref C_InvalidNumber) (.type "BaseException") = some true)
    (yvc_InvalidNumber : PySem.W.subIn K (.ref C_InvalidNumber) (.type "RuntimeError") = some true)
    (yty_InvalidNumber : PySem.W.typeIn K (.ref C_InvalidNumber) = some (.type "type"))
    (yhd_InvalidNumber : PySem.W.hasDictIn K C_InvalidNumber = true)
    (ysu_InvalidNumber : PySem.W.ks_superIn K C_InvalidNumber C_InvalidNumber "__init__" = some (some (.builtin "RuntimeError.__init__")))
    (yop_InvalidNumber : PySem.W.nsIn K cStatics "thirdparty.any" = some none)
    (yms_InvalidNumber : PySem.W.mroIn K C_InvalidNumber (.ref C_InvalidNumber) = some true)
    (yns_InvalidNumber : PySem.W.nsIn K mainGlobals "super" = some none)
    (yto_InvalidNumber : (P.main.scope.names.lookup ("super" : Str)).isSome = false)
    (yfn_InvalidNumber : K.lookup fI_InvalidNumber = some ⟨foc_InvalidNumber, fod_InvalidNumber, .func (PySem.W.ksFn "__init__" "InvalidNumber.__init__" (PySem.PeX.iA "value" ⟨⟨46, 17, 46, 21⟩, ⟨46, 23, 46, 28⟩, ⟨47, 8, 47, 13⟩, ⟨47, 8, 47, 15⟩, ⟨47, 8, 47, 24⟩, ⟨0, 0, 0, 0⟩, ⟨47, 28, 47, 33⟩, ⟨47, 27, 47, 34⟩, ⟨47, 34, 47, 63⟩, ⟨47, 25, 47, 64⟩, ⟨47, 8, 47, 65⟩, ⟨47, 8, 47, 65⟩, ⟨48, 8, 48, 12⟩, ⟨48, 8, 48, 18⟩, ⟨48, 21, 48, 26⟩, ⟨48, 8, 48, 26⟩⟩) (PySem.PeB.iB1 "value" "" " is not a number in the range" ⟨⟨46, 17, 46, 21⟩, ⟨46, 23, 46, 28⟩, ⟨47, 8, 47, 13⟩, ⟨47, 8, 47, 15⟩, ⟨47, 8, 47, 24⟩, ⟨0, 0, 0, 0⟩, ⟨47, 28, 47, 33⟩, ⟨47, 27, 47, 34⟩, ⟨47, 34, 47, 63⟩, ⟨47, 25, 47, 64⟩, ⟨47, 8, 47, 65⟩, ⟨47, 8, 47, 65⟩, ⟨48, 8, 48, 12⟩, ⟨48, 8, 48, 18⟩, ⟨48, 21, 48, 26⟩, ⟨48, 8, 48, 26⟩⟩) (PySem.PeX.iS "value") .none .none fdoc_InvalidNumber fpm_InvalidNumber fan_InvalidNumber (.ref cda_InvalidNumber) fct_InvalidNumber cc_InvalidNumber), fsl_InvalidNumber⟩)
    (yci_InvalidNumber : PySem.W.codeIn K (.ref cda_InvalidNumber) "InvalidNumber.__init__" = true)
    (yce_InvalidNumber : K.lookup cc_InvalidNumber = some ⟨cll_InvalidNumber, cld_InvalidNumber, .cell (some (.ref C_InvalidNumber)), csl_InvalidNumber⟩)
    (yco_InvalidNumber : K.lookup cda_InvalidNumber = some ⟨ccl_InvalidNumber, cdd_InvalidNumber, .fields vs_InvalidNumber, ccs_InvalidNumber⟩)
    (yvs_InvalidNumber : vs_InvalidNumber[2]? = some (.str file_InvalidNumber tf_InvalidNumber))
    (yfi_InvalidNumber : ((P.main.file : Str) == file_InvalidNumber) = true)
    (yha_InvalidNumber : PySem.W.findIn K (.ref C_InvalidNumber) "__class__" = some (some (.builtin "object.__class__")))
    (yhn_InvalidNumber : PySem.W.specialIn K (.builtin "object.__class__") "__get__" = some (some (.builtin "getset_descriptor.__get__")))
    (yht_InvalidNumber : PySem.W.takesIn K (.builtin "object.__class__") = some true)
    (yhm_InvalidNumber : PySem.W.mroIn K C_InvalidNumber (.type "object") = some true)
    (kt_InvalidWord : List.map (PySem.W.kitOne K (.ref C_InvalidWord)) [.ref C_InvalidWord, .ref C_InvalidLibrary, .ref C_InvalidCall, .ref C_InvalidProgram, .ref C_InvalidOperation, .ref C_ParseError, .ref C_UnknownName, .ref C_UnknownPart, .ref C_NothingToUndo, .ref C_TooMany, .ref C_Refused, .ref C_InvalidNumber, .ref C_RivalError, .type "ValueError", .type "KeyError", .type "IndexError", .type "LookupError", .type "ZeroDivisionError", .type "OverflowError", .type "ArithmeticError", .type "RuntimeError"] = [some true, some false, some false, some false, some false, some false, some false, some false, some false, some false, some false, some false, some true, some true, some false, some false, some false, some false, some false, some false, some false])
    (kt_InvalidLibrary : List.map (PySem.W.kitOne K (.ref C_InvalidLibrary)) [.ref C_InvalidWord, .ref C_InvalidLibrary, .ref C_InvalidCall, .ref C_InvalidProgram, .ref C_InvalidOperation, .ref C_ParseError, .ref C_UnknownName, .ref C_UnknownPart, .ref C_NothingToUndo, .ref C_TooMany, .ref C_Refused, .ref C_InvalidNumber, .ref C_RivalError, .type "ValueError", .type "KeyError", .type "IndexError", .type "LookupError", .type "ZeroDivisionError", .type "OverflowError", .type "ArithmeticError", .type "RuntimeError"] = [some false, some true, some false, some false, some false, some false, some false, some false, some false, some false, some false, some false, some true, some true, some false, some false, some false, some false, some false, some false, some false])
    (kt_InvalidCall : List.map (PySem.W.kitOne K (.ref C_InvalidCall)) [.ref C_InvalidWord, .ref C_InvalidLibrary, .ref C_InvalidCall, .ref C_InvalidProgram, .ref C_InvalidOperation, .ref C_ParseError, .ref C_UnknownName, .ref C_UnknownPart, .ref C_NothingToUndo, .ref C_TooMany, .ref C_Refused, .ref C_InvalidNumber, .ref C_RivalError, .type "ValueError", .type "KeyError", .type "IndexError", .type "LookupError", .type "ZeroDivisionError", .type "OverflowError", .type "ArithmeticError", .type "RuntimeError"] = [some false, some false, some true, some false, some false, some false, some false, some false, some false, some false, some false, some false, some true, some true, some false, some false, some false, some false, some false, some false, some false])
    (kt_InvalidProgram : List.map (PySem.W.kitOne K (.ref C_InvalidProgram)) [.ref C_InvalidWord, .ref C_InvalidLibrary, .ref C_InvalidCall, .ref C_InvalidProgram, .ref C_InvalidOperation, .ref C_ParseError, .ref C_UnknownName, .ref C_UnknownPart, .ref C_NothingToUndo, .ref C_TooMany, .ref C_Refused, .ref C_InvalidNumber, .ref C_RivalError, .type "ValueError", .type "KeyError", .type "IndexError", .type "LookupError", .type "ZeroDivisionError", .type "OverflowError", .type "ArithmeticError", .type "RuntimeError"] = [some false, some false, some false, some true, some false, some false, some false, some false, some false, some false, some false, some false, some true, some true, some false, some false, some false, some false, some false, some false, some false])
    (kt_InvalidOperation : List.map (PySem.W.kitOne K (.ref C_InvalidOperation)) [.ref C_InvalidWord, .ref C_InvalidLibrary, .ref C_InvalidCall, .ref C_InvalidProgram, .ref C_InvalidOperation, .ref C_ParseError, .ref C_UnknownName, .ref C_UnknownPart, .ref C_NothingToUndo, .ref C_TooMany, .ref C_Refused, .ref C_InvalidNumber, .ref C_RivalError, .type "ValueError", .type "KeyError", .type "IndexError", .type "LookupError", .type "ZeroDivisionError", .type "OverflowError", .type "ArithmeticError", .type "RuntimeError"] = [some false, some false, some false, some false, some true, some false, some false, some false, some false, some false, some false, some false, some true, some true, some false, some false, some false, some false, some false, some false, some false])
    (kt_ParseError : List.map (PySem.W.kitOne K (.ref C_ParseError)) [.ref C_InvalidWord, .ref C_InvalidLibrary, .ref C_InvalidCall, .ref C_InvalidProgram, .ref C_InvalidOperation, .ref C_ParseError, .ref C_UnknownName, .ref C_UnknownPart, .ref C_NothingToUndo, .ref C_TooMany, .ref C_Refused, .ref C_InvalidNumber, .ref C_RivalError, .type "ValueError", .type "KeyError", .type "IndexError", .type "LookupError", .type "ZeroDivisionError", .type "OverflowError", .type "ArithmeticError", .type "RuntimeError"] = [some false, some false, some false, some false, some false, some true, some false, some false, some false, some false, some false, some false, some true, some true, some false, some false, some false, some false, some false, some false, some false])
    (kt_UnknownName : List.map (PySem.W.kitOne K (.ref C_UnknownName)) [.ref C_InvalidWord, .ref C_InvalidLibrary, .ref C_InvalidCall, .ref C_InvalidProgram, .ref C_InvalidOperation, .ref C_ParseError, .ref C_UnknownName, .ref C_UnknownPart, .ref C_NothingToUndo, .ref C_TooMany, .ref C_Refused, .ref C_InvalidNumber, .ref C_RivalError, .type "ValueError", .type "KeyError", .type "IndexError", .type "LookupError", .type "ZeroDivisionError", .type "OverflowError", .type "ArithmeticError", .type "RuntimeError"] = [some false, some false, some false, some false, some false, some false, some true, some false, some false, some false, some false, some false, some false, some false, some true, some false, some true, some false, some false, some false, some false])
    (kt_UnknownPart : List.map (PySem.W.kitOne K (.ref C_UnknownPart)) [.ref C_InvalidWord, .ref C_InvalidLibrary, .ref C_InvalidCall, .ref C_InvalidProgram, .ref C_InvalidOperation, .ref C_ParseError, .ref C_UnknownName, .ref C_UnknownPart, .ref C_NothingToUndo, .ref C_TooMany, .ref C_Refused, .ref C_InvalidNumber, .ref C_RivalError, .type "ValueError", .type "KeyError", .type "IndexError", .type "LookupError", .type "ZeroDivisionError", .type "OverflowError", .type "ArithmeticError", .type "RuntimeError"] = [some false, some false, some false, some false, some false, some false, some false, some true, some false, some false, some false, some false, some false, some false, some false, some false, some true, some false, some false, some false, some false])
    (kt_NothingToUndo : List.map (PySem.W.kitOne K (.ref C_NothingToUndo)) [.ref C_InvalidWord, .ref C_InvalidLibrary, .ref C_InvalidCall, .ref C_InvalidProgram, .ref C_InvalidOperation, .ref C_ParseError, .ref C_UnknownName, .ref C_UnknownPart, .ref C_NothingToUndo, .ref C_TooMany, .ref C_Refused, .ref C_InvalidNumber, .ref C_RivalError, .type "ValueError", .type "KeyError", .type "IndexError", .type "LookupError", .type "ZeroDivisionError", .type "OverflowError", .type "ArithmeticError", .type "RuntimeError"] = [some false, some false, some false, some false, some false, some false, some false, some false, some true, some false, some false, some false, some false, some false, some false, some true, some true, some false, some false, some false, some false])
    (kt_TooMany : List.map (PySem.W.kitOne K (.ref C_TooMany)) [.ref C_InvalidWord, .ref C_InvalidLibrary, .ref C_InvalidCall, .ref C_InvalidProgram, .ref C_InvalidOperation, .ref C_ParseError, .ref C_UnknownName, .ref C_UnknownPart, .ref C_NothingToUndo, .ref C_TooMany, .ref C_Refused, .ref C_InvalidNumber, .ref C_RivalError, .type "ValueError", .type "KeyError", .type "IndexError", .type "LookupError", .type "ZeroDivisionError", .type "OverflowError", .type "ArithmeticError", .type "RuntimeError"] = [some false, some false, some false, some false, some false, some false, some false, some false, some false, some true, some false, some false, some false, some false, some false, some false, some false, some false, some true, some true, some false])
    (kt_Refused : List.map (PySem.W.kitOne K (.ref C_Refused)) [.ref C_InvalidWord, .ref C_InvalidLibrary, .ref C_InvalidCall, .ref C_InvalidProgram, .ref C_InvalidOperation, .ref C_ParseError, .ref C_UnknownName, .ref C_UnknownPart, .ref C_NothingToUndo, .ref C_TooMany, .ref C_Refused, .ref C_InvalidNumber, .ref C_RivalError, .type "ValueError", .type "KeyError", .type "IndexError", .type "LookupError", .type "ZeroDivisionError", .type "OverflowError", .type "ArithmeticError", .type "RuntimeError"] = [some false, some false, some false, some false, some false, some false, some false, some false, some false, some false, some true, some false, some false, some false, some false, some false, some false, some false, some false, some true, some false])
    (kt_InvalidNumber : List.map (PySem.W.kitOne K (.ref C_InvalidNumber)) [.ref C_InvalidWord, .ref C_InvalidLibrary, .ref C_InvalidCall, .ref C_InvalidProgram, .ref C_InvalidOperation, .ref C_ParseError, .ref C_UnknownName, .ref C_UnknownPart, .ref C_NothingToUndo, .ref C_TooMany, .ref C_Refused, .ref C_InvalidNumber, .ref C_RivalError, .type "ValueError", .type "KeyError", .type "IndexError", .type "LookupError", .type "ZeroDivisionError", .type "OverflowError", .type "ArithmeticError", .type "RuntimeError"] = [some false, some false, some false, some false, some false, some false, some false, some false, some false, some false, some false, some true, some false, some false, some false, some false, some false, some false, some false, some false, some true])
    (kt_RivalError : List.map (PySem.W.kitOne K (.ref C_RivalError)) [.ref C_InvalidWord, .ref C_InvalidLibrary, .ref C_InvalidCall, .ref C_InvalidProgram, .ref C_InvalidOperation, .ref C_ParseError, .ref C_UnknownName, .ref C_UnknownPart, .ref C_NothingToUndo, .ref C_TooMany, .ref C_Refused, .ref C_InvalidNumber, .ref C_RivalError, .type "ValueError", .type "KeyError", .type "IndexError", .type "LookupError", .type "ZeroDivisionError", .type "OverflowError", .type "ArithmeticError", .type "RuntimeError"] = [some false, some false, some false, some false, some false, some false, some false, some false, some false, some false, some false, some false, some true, some true, some false, some false, some false, some false, some false, some false, some false])
    (em_ParseError : List.map (PySem.W.exmOne K (.ref C_ParseError)) [.ref C_RivalError, .ref C_UnknownName, .ref C_TooMany, .ref C_Refused, .ref C_UnknownPart, .ref C_NothingToUndo, .ref C_InvalidNumber] = [some true, some false, some false, some false, some false, some false, some false])
    (em_UnknownName : List.map (PySem.W.exmOne K (.ref C_UnknownName)) [.ref C_RivalError, .ref C_UnknownName, .ref C_TooMany, .ref C_Refused, .ref C_UnknownPart, .ref C_NothingToUndo, .ref C_InvalidNumber] = [some false, some true, some false, some false, some false, some false, some false])
    (em_UnknownPart : List.map (PySem.W.exmOne K (.ref C_UnknownPart)) [.ref C_RivalError, .ref C_UnknownName, .ref C_TooMany, .ref C_Refused, .ref C_UnknownPart, .ref C_NothingToUndo, .ref C_InvalidNumber] = [some false, some false, some false, some false, some true, some false, some false])
    (em_NothingToUndo : List.map (PySem.W.exmOne K (.ref C_NothingToUndo)) [.ref C_RivalError, .ref C_UnknownName, .ref C_TooMany, .ref C_Refused, .ref C_UnknownPart, .ref C_NothingToUndo, .ref C_InvalidNumber] = [some false, some false, some false, some false, some false, some true, some false])
    (em_TooMany : List.map (PySem.W.exmOne K (.ref C_TooMany)) [.ref C_RivalError, .ref C_UnknownName, .ref C_TooMany, .ref C_Refused, .ref C_UnknownPart, .ref C_NothingToUndo, .ref C_InvalidNumber] = [some false, some false, some true, some false, some false, some false, some false])
    (em_Refused : List.map (PySem.W.exmOne K (.ref C_Refused)) [.ref C_RivalError, .ref C_UnknownName, .ref C_TooMany, .ref C_Refused, .ref C_UnknownPart, .ref C_NothingToUndo, .ref C_InvalidNumber] = [some false, some false, some false, some true, some false, some false, some false])
    (em_InvalidNumber : List.map (PySem.W.exmOne K (.ref C_InvalidNumber)) [.ref C_RivalError, .ref C_UnknownName, .ref C_TooMany, .ref C_Refused, .ref C_UnknownPart, .ref C_NothingToUndo, .ref C_InvalidNumber] = [some false, some false, some false, some false, some false, some false, some true])
    : ∃ fd : FuncData, (∀ (s : Shared) (v : Value), BindsTo s fd ⟨[v], []⟩ [("_law_script", v)]) ∧
      ∀ base : Heap, K.In base → base.Ns mainGlobals mg → FnG P w K mg base CX0 6 fa fd ["_law_script"] (spLaw K) := by
  have e : fa = f15 := Value.ref.inj (Option.some.inj (hfa.symm.trans (PySem.W.mg_of X G a15)))
  rw [e]
  let T : Tx K mg := {
    f__law_dice := f0, d__law_dice := _, F__law_dice := fun_mk (st := s_law_dice) l0 c0 k0,
    b__law_dice := (fun_mk (st := s_law_dice) l0 c0 k0).binds (ps := ["_law_script", "_law_spot"]) fun _ _ _ _ _ _ us hl => match us, hl with | [_, _], _ => rfl,
    g__law_dice := PySem.W.mg_of X G a0,
    f__law_roll := f1, d__law_roll := _, F__law_roll := fun_mk (st := s_law_roll) l1 c1 k1,
    b__law_roll := (fun_mk (st := s_law_roll) l1 c1 k1).binds (ps := ["_law_dice_here", "_law_upto"]) fun _ _ _ _ _ _ us hl => match us, hl with | [_, _], _ => rfl,
    g__law_roll := PySem.W.mg_of X G a1,
    f__law_pick := f2, d__law_pick := _, F__law_pick := fun_mk (st := s_law_pick) l2 c2 k2,
    b__law_pick := (fun_mk (st := s_law_pick) l2 c2 k2).binds (ps := ["_law_dice_here", "_law_items"]) fun _ _ _ _ _ _ us hl => match us, hl with | [_, _], _ => rfl,
    g__law_pick := PySem.W.mg_of X G a2,
    f__law_told := f3, d__law_told := _, F__law_told := fun_mk (st := s_law_told) l3 c3 k3,
    b__law_told := (fun_mk (st := s_law_told) l3 c3 k3).binds (ps := ["_law_at", "_law_text"]) fun _ _ _ _ _ _ us hl => match us, hl with | [_, _], _ => rfl,
    g__law_told := PySem.W.mg_of X G a3,
    f__law_keeper := f4, d__law_keeper := _, F__law_keeper := fun_mk (st := s_law_keeper) l4 c4 k4,
    b__law_keeper := (fun_mk (st := s_law_keeper) l4 c4 k4).binds (ps := ["_law_at", "_law_kept_here"]) fun _ _ _ _ _ _ us hl => match us, hl with | [_, _], _ => rfl,
    g__law_keeper := PySem.W.mg_of X G a4,
    f__law_kept := f5, d__law_kept := _, F__law_kept := fun_mk (st := s_law_kept) l5 c5 k5,
    b__law_kept := (fun_mk (st := s_law_kept) l5 c5 k5).binds (ps := ["_law_at", "_law_found"]) fun _ _ _ _ _ _ us hl => match us, hl with | [_, _], _ => rfl,
    g__law_kept := PySem.W.mg_of X G a5,
    f__law_kinds := f6, d__law_kinds := _, F__law_kinds := fun_mk (st := s_law_kinds) l6 c6 k6,
    b__law_kinds := (fun_mk (st := s_law_kinds) l6 c6 k6).binds (ps := ["_law_found"]) fun _ _ _ _ _ _ us hl => match us, hl with | [_], _ => rfl,
    g__law_kinds := PySem.W.mg_of X G a6,
    f__law_python := f7, d__law_python := _, F__law_python := fun_mk (st := s_law_python) l7 c7 k7,
    b__law_python := (fun_mk (st := s_law_python) l7 c7 k7).binds (ps := ["_law_found"]) fun _ _ _ _ _ _ us hl => match us, hl with | [_], _ => rfl,
    g__law_python := PySem.W.mg_of X G a7,
    f__law_truths := f8, d__law_truths := _, F__law_truths := fun_mk (st := s_law_truths) l8 c8 k8,
    b__law_truths := (fun_mk (st := s_law_truths) l8 c8 k8).binds (ps := ["_law_places", "_law_length"]) fun _ _ _ _ _ _ us hl => match us, hl with | [_, _], _ => rfl,
    g__law_truths := PySem.W.mg_of X G a8,
    f__law_raise := f9, d__law_raise := _, F__law_raise := fun_mk (st := s_law_raise) l9 c9 k9,
    b__law_raise := (fun_mk (st := s_law_raise) l9 c9 k9).binds (ps := ["_law_at", "_law_kept_here"]) fun _ _ _ _ _ _ us hl => match us, hl with | [_, _], _ => rfl,
    g__law_raise := PySem.W.mg_of X G a9,
    f__law_caught := f10, d__law_caught := _, F__law_caught := fun_mk (st := s_law_caught) l10 c10 k10,
    b__law_caught := (fun_mk (st := s_law_caught) l10 c10 k10).binds (ps := ["_law_at", "_law_kept_here"]) fun _ _ _ _ _ _ us hl => match us, hl with | [_, _], _ => rfl,
    g__law_caught := PySem.W.mg_of X G a10,
    f__law_word := f11, d__law_word := _, F__law_word := fun_mk (st := s_law_word) l11 c11 k11,
    b__law_word := (fun_mk (st := s_law_word) l11 c11 k11).binds (ps := ["_law_dice_here"]) fun _ _ _ _ _ _ us hl => match us, hl with | [_], _ => rfl,
    g__law_word := PySem.W.mg_of X G a11,
    f__law_value := f12, d__law_value := _, F__law_value := fun_mk (st := s_law_value) l12 c12 k12,
    b__law_value := (fun_mk (st := s_law_value) l12 c12 k12).binds (ps := ["_law_dice_here"]) fun _ _ _ _ _ _ us hl => match us, hl with | [_], _ => rfl,
    g__law_value := PySem.W.mg_of X G a12,
    f__law_messages_right := f13, d__law_messages_right := _, F__law_messages_right := fun_mk (st := s_law_messages_right) l13 c13 k13,
    b__law_messages_right := (fun_mk (st := s_law_messages_right) l13 c13 k13).binds (ps := ["_law_dice_here"]) fun _ _ _ _ _ _ us hl => match us, hl with | [_], _ => rfl,
    g__law_messages_right := PySem.W.mg_of X G a13,
    f__law_keepers_right := f14, d__law_keepers_right := _, F__law_keepers_right := fun_mk (st := s_law_keepers_right) l14 c14 k14,
    b__law_keepers_right := (fun_mk (st := s_law_keepers_right) l14 c14 k14).binds (ps := ["_law_dice_here"]) fun _ _ _ _ _ _ us hl => match us, hl with | [_], _ => rfl,
    g__law_keepers_right := PySem.W.mg_of X G a14,
    f_law := f15, d_law := _, F_law := fun_mk (st := s_law) l15 c15 k15,
    b_law := (fun_mk (st := s_law) l15 c15 k15).binds (ps := ["_law_script"]) fun _ _ _ _ _ _ us hl => match us, hl with | [_], _ => rfl,
    g_law := PySem.W.mg_of X G a15,
    n_ArithmeticError := PySem.W.mg_none_of X G z_ArithmeticError,
    n_IndexError := PySem.W.mg_none_of X G z_IndexError,
    n_KeyError := PySem.W.mg_none_of X G z_KeyError,
    n_LookupError := PySem.W.mg_none_of X G z_LookupError,
    n_OverflowError := PySem.W.mg_none_of X G z_OverflowError,
    n_RuntimeError := PySem.W.mg_none_of X G z_RuntimeError,
    n_ValueError := PySem.W.mg_none_of X G z_ValueError,
    n_ZeroDivisionError := PySem.W.mg_none_of X G z_ZeroDivisionError,
    n_abs := PySem.W.mg_none_of X G z_abs,
    n_int := PySem.W.mg_none_of X G z_int,
    n_isinstance := PySem.W.mg_none_of X G z_isinstance,
    n_len := PySem.W.mg_none_of X G z_len,
    n_max := PySem.W.mg_none_of X G z_max,
    n_min := PySem.W.mg_none_of X G z_min,
    n_range := PySem.W.mg_none_of X G z_range,
    n_repr := PySem.W.mg_none_of X G z_repr,
    C_InvalidWord := C_InvalidWord, m_InvalidWord := PySem.W.mg_of X G e_InvalidWord,
    C_InvalidLibrary := C_InvalidLibrary, m_InvalidLibrary := PySem.W.mg_of X G e_InvalidLibrary,
    C_InvalidCall := C_InvalidCall, m_InvalidCall := PySem.W.mg_of X G e_InvalidCall,
    C_InvalidProgram := C_InvalidProgram, m_InvalidProgram := PySem.W.mg_of X G e_InvalidProgram,
    C_InvalidOperation := C_InvalidOperation, m_InvalidOperation := PySem.W.mg_of X G e_InvalidOperation,
    C_ParseError := C_ParseError, m_ParseError := PySem.W.mg_of X G e_ParseError,
    C_UnknownName := C_UnknownName, m_UnknownName := PySem.W.mg_of X G e_UnknownName,
    C_UnknownPart := C_UnknownPart, m_UnknownPart := PySem.W.mg_of X G e_UnknownPart,
    C_NothingToUndo := C_NothingToUndo, m_NothingToUndo := PySem.W.mg_of X G e_NothingToUndo,
    C_TooMany := C_TooMany, m_TooMany := PySem.W.mg_of X G e_TooMany,
    C_Refused := C_Refused, m_Refused := PySem.W.mg_of X G e_Refused,
    C_InvalidNumber := C_InvalidNumber, m_InvalidNumber := PySem.W.mg_of X G e_InvalidNumber,
    C_RivalError := C_RivalError, m_RivalError := PySem.W.mg_of X G e_RivalError,
    x_InvalidWord := ⟨PySem.W.mg_of X G e_InvalidWord, ex_InvalidWord, kp_InvalidWord, sb_InvalidWord, ty_InvalidWord, ⟨hg_InvalidWord, hk_InvalidWord, sb_InvalidWord, hd_InvalidWord, ha_InvalidWord, hn_InvalidWord, ht_InvalidWord, hm_InvalidWord⟩⟩,
    x_InvalidLibrary := ⟨PySem.W.mg_of X G e_InvalidLibrary, ex_InvalidLibrary, kp_InvalidLibrary, sb_InvalidLibrary, ty_InvalidLibrary, ⟨hg_InvalidLibrary, hk_InvalidLibrary, sb_InvalidLibrary, hd_InvalidLibrary, ha_InvalidLibrary, hn_InvalidLibrary, ht_InvalidLibrary, hm_InvalidLibrary⟩⟩,
    x_InvalidCall := ⟨PySem.W.mg_of X G e_InvalidCall, ex_InvalidCall, kp_InvalidCall, sb_InvalidCall, ty_InvalidCall, ⟨hg_InvalidCall, hk_InvalidCall, sb_InvalidCall, hd_InvalidCall, ha_InvalidCall, hn_InvalidCall, ht_InvalidCall, hm_InvalidCall⟩⟩,
    x_InvalidProgram := ⟨PySem.W.mg_of X G e_InvalidProgram, ex_InvalidProgram, kp_InvalidProgram, sb_InvalidProgram, ty_InvalidProgram, ⟨hg_InvalidProgram, hk_InvalidProgram, sb_InvalidProgram, hd_InvalidProgram, ha_InvalidProgram, hn_InvalidProgram, ht_InvalidProgram, hm_InvalidProgram⟩⟩,
    x_InvalidOperation := ⟨PySem.W.mg_of X G e_InvalidOperation, ex_InvalidOperation, kp_InvalidOperation, sb_InvalidOperation, ty_InvalidOperation, ⟨hg_InvalidOperation, hk_InvalidOperation, sb_InvalidOperation, hd_InvalidOperation, ha_InvalidOperation, hn_InvalidOperation, ht_InvalidOperation, hm_InvalidOperation⟩⟩,
    x_RivalError := ⟨PySem.W.mg_of X G e_RivalError, ex_RivalError, kp_RivalError, sb_RivalError, ty_RivalError, ⟨hg_RivalError, hk_RivalError, sb_RivalError, hd_RivalError, ha_RivalError, hn_RivalError, ht_RivalError, hm_RivalError⟩⟩,
    fI_ParseError := fI_ParseError, p_ParseError := { gC := PySem.W.mg_of X G e_ParseError, cls := ⟨_, _, _, _, _, _, _, _, _, _, _, _, _, _, _, ycl_ParseError, yve_ParseError⟩, sa := ysa_ParseError, ga := yga_ParseError, gg := ygg_ParseError, noN := yno_ParseError, iC := yic_ParseError, tC := ytc_ParseError, kC := ykc_ParseError, exC := yex_ParseError, veC := yvc_ParseError, tyC := yty_ParseError, hdC := yhd_ParseError, sup := ysu_ParseError, op := yop_ParseError, msub := yms_ParseError, nsup := PySem.W.mg_none_of X G yns_ParseError, top := yto_ParseError, fn := ⟨_, _, _, _, _, _, _, _, ⟨⟨16, 17, 16, 21⟩, ⟨16, 23, 16, 27⟩, ⟨17, 8, 17, 13⟩, ⟨17, 8, 17, 15⟩, ⟨17, 8, 17, 24⟩, ⟨17, 27, 17, 32⟩, ⟨17, 33, 17, 37⟩, ⟨17, 32, 17, 38⟩, ⟨17, 38, 17, 53⟩, ⟨17, 25, 17, 54⟩, ⟨17, 8, 17, 55⟩, ⟨17, 8, 17, 55⟩, ⟨18, 8, 18, 12⟩, ⟨18, 8, 18, 17⟩, ⟨18, 20, 18, 24⟩, ⟨18, 8, 18, 24⟩⟩, _, _, _, _, _, _, _, _, _, _, yfn_ParseError, yci_ParseError, yce_ParseError, yco_ParseError, yvs_ParseError, yfi_ParseError, rfl⟩ },
    ec_ParseError := ⟨yga_ParseError, ygg_ParseError, yex_ParseError, yhd_ParseError, yha_ParseError, yhn_ParseError, yht_ParseError, yhm_ParseError⟩,
    fI_UnknownName := fI_UnknownName, p_UnknownName := { gC := PySem.W.mg_of X G e_UnknownName, cls := ⟨_, _, _, _, _, _, _, _, _, _, _, _, _, _, _, ycl_UnknownName, yve_UnknownName⟩, sa := ysa_UnknownName, ga := yga_UnknownName, gg := ygg_UnknownName, noN := yno_UnknownName, iC := yic_UnknownName, tC := ytc_UnknownName, kC := ykc_UnknownName, exC := yex_UnknownName, veC := yvc_UnknownName, tyC := yty_UnknownName, hdC := yhd_UnknownName, sup := ysu_UnknownName, op := yop_UnknownName, msub := yms_UnknownName, nsup := PySem.W.mg_none_of X G yns_UnknownName, top := yto_UnknownName, fn := ⟨_, _, _, _, _, _, _, _, ⟨⟨21, 17, 21, 21⟩, ⟨21, 23, 21, 27⟩, ⟨22, 8, 22, 13⟩, ⟨22, 8, 22, 15⟩, ⟨22, 8, 22, 24⟩, ⟨0, 0, 0, 0⟩, ⟨22, 28, 22, 32⟩, ⟨22, 27, 22, 33⟩, ⟨22, 33, 22, 64⟩, ⟨22, 25, 22, 65⟩, ⟨22, 8, 22, 66⟩, ⟨22, 8, 22, 66⟩, ⟨23, 8, 23, 12⟩, ⟨23, 8, 23, 17⟩, ⟨23, 20, 23, 24⟩, ⟨23, 8, 23, 24⟩⟩, _, _, _, _, _, _, _, _, _, _, yfn_UnknownName, yci_UnknownName, yce_UnknownName, yco_UnknownName, yvs_UnknownName, yfi_UnknownName, rfl⟩ },
    ec_UnknownName := ⟨yga_UnknownName, ygg_UnknownName, yex_UnknownName, yhd_UnknownName, yha_UnknownName, yhn_UnknownName, yht_UnknownName, yhm_UnknownName⟩,
    fI_UnknownPart := fI_UnknownPart, p_UnknownPart := { gC := PySem.W.mg_of X G e_UnknownPart, cls := ⟨_, _, _, _, _, _, _, _, _, _, _, _, _, _, _, ycl_UnknownPart, yve_UnknownPart⟩, sa := ysa_UnknownPart, ga := yga_UnknownPart, gg := ygg_UnknownPart, noN := yno_UnknownPart, iC := yic_UnknownPart, tC := ytc_UnknownPart, kC := ykc_UnknownPart, exC := yex_UnknownPart, veC := yvc_UnknownPart, tyC := yty_UnknownPart, hdC := yhd_UnknownPart, sup := ysu_UnknownPart, op := yop_UnknownPart, msub := yms_UnknownPart, nsup := PySem.W.mg_none_of X G yns_UnknownPart, top := yto_UnknownPart, fn := ⟨_, _, _, _, _, _, _, _, ⟨⟨26, 17, 26, 21⟩, ⟨26, 23, 26, 27⟩, ⟨27, 8, 27, 13⟩, ⟨27, 8, 27, 15⟩, ⟨27, 8, 27, 24⟩, ⟨0, 0, 0, 0⟩, ⟨27, 28, 27, 32⟩, ⟨27, 27, 27, 33⟩, ⟨27, 33, 27, 59⟩, ⟨27, 25, 27, 60⟩, ⟨27, 8, 27, 61⟩, ⟨27, 8, 27, 61⟩, ⟨28, 8, 28, 12⟩, ⟨28, 8, 28, 17⟩, ⟨28, 20, 28, 24⟩, ⟨28, 8, 28, 24⟩⟩, _, _, _, _, _, _, _, _, _, _, yfn_UnknownPart, yci_UnknownPart, yce_UnknownPart, yco_UnknownPart, yvs_UnknownPart, yfi_UnknownPart, rfl⟩ },
    ec_UnknownPart := ⟨yga_UnknownPart, ygg_UnknownPart, yex_UnknownPart, yhd_UnknownPart, yha_UnknownPart, yhn_UnknownPart, yht_UnknownPart, yhm_UnknownPart⟩,
    fI_NothingToUndo := fI_NothingToUndo, p_NothingToUndo := { gC := PySem.W.mg_of X G e_NothingToUndo, cls := ⟨_, _, _, _, _, _, _, _, _, _, _, _, _, _, _, ycl_NothingToUndo, yve_NothingToUndo⟩, sa := ysa_NothingToUndo, ga := yga_NothingToUndo, gg := ygg_NothingToUndo, noN := yno_NothingToUndo, iC := yic_NothingToUndo, tC := ytc_NothingToUndo, kC := ykc_NothingToUndo, exC := yex_NothingToUndo, veC := yvc_NothingToUndo, tyC := yty_NothingToUndo, hdC := yhd_NothingToUndo, sup := ysu_NothingToUndo, op := yop_NothingToUndo, msub := yms_NothingToUndo, nsup := PySem.W.mg_none_of X G yns_NothingToUndo, top := yto_NothingToUndo, fn := ⟨_, _, _, _, _, _, _, _, ⟨⟨31, 17, 31, 21⟩, ⟨31, 23, 31, 27⟩, ⟨32, 8, 32, 13⟩, ⟨32, 8, 32, 15⟩, ⟨32, 8, 32, 24⟩, ⟨32, 27, 32, 41⟩, ⟨32, 42, 32, 46⟩, ⟨32, 41, 32, 47⟩, ⟨32, 47, 32, 66⟩, ⟨32, 25, 32, 67⟩, ⟨32, 8, 32, 68⟩, ⟨32, 8, 32, 68⟩, ⟨33, 8, 33, 12⟩, ⟨33, 8, 33, 17⟩, ⟨33, 20, 33, 24⟩, ⟨33, 8, 33, 24⟩⟩, _, _, _, _, _, _, _, _, _, _, yfn_NothingToUndo, yci_NothingToUndo, yce_NothingToUndo, yco_NothingToUndo, yvs_NothingToUndo, yfi_NothingToUndo, rfl⟩ },
    ec_NothingToUndo := ⟨yga_NothingToUndo, ygg_NothingToUndo, yex_NothingToUndo, yhd_NothingToUndo, yha_NothingToUndo, yhn_NothingToUndo, yht_NothingToUndo, yhm_NothingToUndo⟩,
    fI_TooMany := fI_TooMany, p_TooMany := { gC := PySem.W.mg_of X G e_TooMany, cls := ⟨_, _, _, _, _, _, _, _, _, _, _, _, _, _, _, ycl_TooMany, yve_TooMany⟩, sa := ysa_TooMany, ga := yga_TooMany, gg := ygg_TooMany, noN := yno_TooMany, iC := yic_TooMany, tC := ytc_TooMany, kC := ykc_TooMany, exC := yex_TooMany, veC := yvc_TooMany, tyC := yty_TooMany, hdC := yhd_TooMany, sup := ysu_TooMany, op := yop_TooMany, msub := yms_TooMany, nsup := PySem.W.mg_none_of X G yns_TooMany, top := yto_TooMany, fn := ⟨_, _, _, _, _, _, _, _, ⟨⟨36, 17, 36, 21⟩, ⟨36, 23, 36, 28⟩, ⟨37, 8, 37, 13⟩, ⟨37, 8, 37, 15⟩, ⟨37, 8, 37, 24⟩, ⟨37, 27, 37, 47⟩, ⟨37, 48, 37, 53⟩, ⟨37, 47, 37, 54⟩, ⟨0, 0, 0, 0⟩, ⟨37, 25, 37, 55⟩, ⟨37, 8, 37, 56⟩, ⟨37, 8, 37, 56⟩, ⟨38, 8, 38, 12⟩, ⟨38, 8, 38, 18⟩, ⟨38, 21, 38, 26⟩, ⟨38, 8, 38, 26⟩⟩, _, _, _, _, _, _, _, _, _, _, yfn_TooMany, yci_TooMany, yce_TooMany, yco_TooMany, yvs_TooMany, yfi_TooMany, rfl⟩ },
    ec_TooMany := ⟨yga_TooMany, ygg_TooMany, yex_TooMany, yhd_TooMany, yha_TooMany, yhn_TooMany, yht_TooMany, yhm_TooMany⟩,
    fI_Refused := fI_Refused, p_Refused := { gC := PySem.W.mg_of X G e_Refused, cls := ⟨_, _, _, _, _, _, _, _, _, _, _, _, _, _, _, ycl_Refused, yve_Refused⟩, sa := ysa_Refused, ga := yga_Refused, gg := ygg_Refused, noN := yno_Refused, iC := yic_Refused, tC := ytc_Refused, kC := ykc_Refused, exC := yex_Refused, veC := yvc_Refused, tyC := yty_Refused, hdC := yhd_Refused, sup := ysu_Refused, op := yop_Refused, msub := yms_Refused, nsup := PySem.W.mg_none_of X G yns_Refused, top := yto_Refused, fn := ⟨_, _, _, _, _, _, _, _, ⟨⟨41, 17, 41, 21⟩, ⟨41, 23, 41, 27⟩, ⟨42, 8, 42, 13⟩, ⟨42, 8, 42, 15⟩, ⟨42, 8, 42, 24⟩, ⟨42, 27, 42, 36⟩, ⟨42, 37, 42, 41⟩, ⟨42, 36, 42, 42⟩, ⟨42, 42, 42, 59⟩, ⟨42, 25, 42, 60⟩, ⟨42, 8, 42, 61⟩, ⟨42, 8, 42, 61⟩, ⟨43, 8, 43, 12⟩, ⟨43, 8, 43, 17⟩, ⟨43, 20, 43, 24⟩, ⟨43, 8, 43, 24⟩⟩, _, _, _, _, _, _, _, _, _, _, yfn_Refused, yci_Refused, yce_Refused, yco_Refused, yvs_Refused, yfi_Refused, rfl⟩ },
    ec_Refused := ⟨yga_Refused, ygg_Refused, yex_Refused, yhd_Refused, yha_Refused, yhn_Refused, yht_Refused, yhm_Refused⟩,
    fI_InvalidNumber := fI_InvalidNumber, p_InvalidNumber := { gC := PySem.W.mg_of X G e_InvalidNumber, cls := ⟨_, _, _, _, _, _, _, _, _, _, _, _, _, _, _, ycl_InvalidNumber, yve_InvalidNumber⟩, sa := ysa_InvalidNumber, ga := yga_InvalidNumber, gg := ygg_InvalidNumber, noN := yno_InvalidNumber, iC := yic_InvalidNumber, tC := ytc_InvalidNumber, kC := ykc_InvalidNumber, exC := yex_InvalidNumber, veC := yvc_InvalidNumber, tyC := yty_InvalidNumber, hdC := yhd_InvalidNumber, sup := ysu_InvalidNumber, op := yop_InvalidNumber, msub := yms_InvalidNumber, nsup := PySem.W.mg_none_of X G yns_InvalidNumber, top := yto_InvalidNumber, fn := ⟨_, _, _, _, _, _, _, _, ⟨⟨46, 17, 46, 21⟩, ⟨46, 23, 46, 28⟩, ⟨47, 8, 47, 13⟩, ⟨47, 8, 47, 15⟩, ⟨47, 8, 47, 24⟩, ⟨0, 0, 0, 0⟩, ⟨47, 28, 47, 33⟩, ⟨47, 27, 47, 34⟩, ⟨47, 34, 47, 63⟩, ⟨47, 25, 47, 64⟩, ⟨47, 8, 47, 65⟩, ⟨47, 8, 47, 65⟩, ⟨48, 8, 48, 12⟩, ⟨48, 8, 48, 18⟩, ⟨48, 21, 48, 26⟩, ⟨48, 8, 48, 26⟩⟩, _, _, _, _, _, _, _, _, _, _, yfn_InvalidNumber, yci_InvalidNumber, yce_InvalidNumber, yco_InvalidNumber, yvs_InvalidNumber, yfi_InvalidNumber, rfl⟩ },
    ec_InvalidNumber := ⟨yga_InvalidNumber, ygg_InvalidNumber, yex_InvalidNumber, yhd_InvalidNumber, yha_InvalidNumber, yhn_InvalidNumber, yht_InvalidNumber, yhm_InvalidNumber⟩,
    kt_InvalidWord := kt_InvalidWord,
    kt_InvalidLibrary := kt_InvalidLibrary,
    kt_InvalidCall := kt_InvalidCall,
    kt_InvalidProgram := kt_InvalidProgram,
    kt_InvalidOperation := kt_InvalidOperation,
    kt_ParseError := kt_ParseError,
    kt_UnknownName := kt_UnknownName,
    kt_UnknownPart := kt_UnknownPart,
    kt_NothingToUndo := kt_NothingToUndo,
    kt_TooMany := kt_TooMany,
    kt_Refused := kt_Refused,
    kt_InvalidNumber := kt_InvalidNumber,
    kt_RivalError := kt_RivalError,
    em_ParseError := em_ParseError,
    em_UnknownName := em_UnknownName,
    em_UnknownPart := em_UnknownPart,
    em_NothingToUndo := em_NothingToUndo,
    em_TooMany := em_TooMany,
    em_Refused := em_Refused,
    em_InvalidNumber := em_InvalidNumber }
  exact ⟨T.d_law, fun s v => .of_eq rfl, fun base _ _ => ok_law T⟩
end K00
open PySem PySem.W PyProof.Rows
set_option maxHeartbeats 0 in
theorem PySem.Challenge.cw_laterivals_k00_errors_and_what_they_keep_holds : PySem.Challenge.rw_laterivals_k00_errors_and_what_they_keep.Holds := by
  w_on; o_law; k_head; (case hw => w_witness2)
  k_fill
  refine Lv.walkG (l := PySem.Challenge.rw_laterivals_k00_errors_and_what_they_keep) (n := 63) (k := 6) (x := "_law_script") (sp := K00.spLaw) rfl (by decide) rfl ⟨rfl, by decide, by decide⟩ (fun w h Y => PySem.W.kIn_of Y) ?F K00.law_sp
  case F =>
    intro w mg fa h KX G hmg
    refine' K00.all_mk KX G hmg ?a0 ?l0 ?c0 ?k0 ?a1 ?l1 ?c1 ?k1 ?a2 ?l2 ?c2 ?k2 ?a3 ?l3 ?c3 ?k3 ?a4 ?l4 ?c4 ?k4 ?a5 ?l5 ?c5 ?k5 ?a6 ?l6 ?c6 ?k6 ?a7 ?l7 ?c7 ?k7 ?a8 ?l8 ?c8 ?k8 ?a9 ?l9 ?c9 ?k9 ?a10 ?l10 ?c10 ?k10 ?a11 ?l11 ?c11 ?k11 ?a12 ?l12 ?c12 ?k12 ?a13 ?l13 ?c13 ?k13 ?a14 ?l14 ?c14 ?k14 ?a15 ?l15 ?c15 ?k15 ?z_ArithmeticError ?z_IndexError ?z_KeyError ?z_LookupError ?z_OverflowError ?z_RuntimeError ?z_ValueError ?z_ZeroDivisionError ?z_abs ?z_int ?z_isinstance ?z_len ?z_max ?z_min ?z_range ?z_repr ?e_InvalidWord ?e_InvalidLibrary ?e_InvalidCall ?e_InvalidProgram ?e_InvalidOperation ?e_ParseError ?e_UnknownName ?e_UnknownPart ?e_NothingToUndo ?e_TooMany ?e_Refused ?e_InvalidNumber ?e_RivalError ?ex_InvalidWord ?kp_InvalidWord ?sb_InvalidWord ?ty_InvalidWord ?hg_InvalidWord ?hk_InvalidWord ?hd_InvalidWord ?ha_InvalidWord ?hn_InvalidWord ?ht_InvalidWord ?hm_InvalidWord ?ex_InvalidLibrary ?kp_InvalidLibrary ?sb_InvalidLibrary ?ty_InvalidLibrary ?hg_InvalidLibrary ?hk_InvalidLibrary ?hd_InvalidLibrary ?ha_InvalidLibrary ?hn_InvalidLibrary ?ht_InvalidLibrary ?hm_InvalidLibrary ?ex_InvalidCall ?kp_InvalidCall ?sb_InvalidCall ?ty_InvalidCall ?hg_InvalidCall ?hk_InvalidCall ?hd_InvalidCall ?ha_InvalidCall ?hn_InvalidCall ?ht_InvalidCall ?hm_InvalidCall ?ex_InvalidProgram ?kp_InvalidProgram ?sb_InvalidProgram ?ty_InvalidProgram ?hg_InvalidProgram ?hk_InvalidProgram ?hd_InvalidProgram ?ha_InvalidProgram ?hn_InvalidProgram ?ht_InvalidProgram ?hm_InvalidProgram ?ex_InvalidOperation ?kp_InvalidOperation ?sb_InvalidOperation ?ty_InvalidOperation ?hg_InvalidOperation ?hk_InvalidOperation ?hd_InvalidOperation ?ha_InvalidOperation ?hn_InvalidOperation ?ht_InvalidOperation ?hm_InvalidOperation ?ex_RivalError ?kp_RivalError ?sb_RivalError ?ty_RivalError ?hg_RivalError ?hk_RivalError ?hd_RivalError ?ha_RivalError ?hn_RivalError ?ht_RivalError ?hm_RivalError ?ycl_ParseError ?yve_ParseError ?ysa_ParseError ?yga_ParseError ?ygg_ParseError ?yno_ParseError ?yic_ParseError ?ytc_ParseError ?ykc_ParseError ?yex_ParseError ?yvc_ParseError ?yty_ParseError ?yhd_ParseError ?ysu_ParseError ?yop_ParseError ?yms_ParseError ?yns_ParseError ?yto_ParseError ?yfn_ParseError ?yci_ParseError ?yce_ParseError ?yco_ParseError ?yvs_ParseError ?yfi_ParseError ?yha_ParseError ?yhn_ParseError ?yht_ParseError ?yhm_ParseError ?ycl_UnknownName ?yve_UnknownName ?ysa_UnknownName ?yga_UnknownName ?ygg_UnknownName ?yno_UnknownName ?yic_UnknownName ?ytc_UnknownName ?ykc_UnknownName ?yex_UnknownName ?yvc_UnknownName ?yty_UnknownName ?yhd_UnknownName ?ysu_UnknownName ?yop_UnknownName ?yms_UnknownName ?yns_UnknownName ?yto_UnknownName ?yfn_UnknownName ?yci_UnknownName ?yce_UnknownName ?yco_UnknownName ?yvs_UnknownName ?yfi_UnknownName ?yha_UnknownName ?yhn_UnknownName ?yht_UnknownName ?yhm_UnknownName ?ycl_UnknownPart ?yve_UnknownPart ?ysa_UnknownPart ?yga_UnknownPart ?ygg_UnknownPart ?yno_UnknownPart ?yic_UnknownPart ?ytc_UnknownPart ?ykc_UnknownPart ?yex_UnknownPart ?yvc_UnknownPart ?yty_UnknownPart ?yhd_UnknownPart ?ysu_UnknownPart ?yop_UnknownPart ?yms_UnknownPart ?yns_UnknownPart ?yto_UnknownPart ?yfn_UnknownPart ?yci_UnknownPart ?yce_UnknownPart ?yco_UnknownPart ?yvs_UnknownPart ?yfi_UnknownPart ?yha_UnknownPart ?yhn_UnknownPart ?yht_UnknownPart ?yhm_UnknownPart ?ycl_NothingToUndo ?yve_NothingToUndo ?ysa_NothingToUndo ?yga_NothingToUndo ?ygg_NothingToUndo ?yno_NothingToUndo ?yic_NothingToUndo ?ytc_NothingToUndo ?ykc_NothingToUndo ?yex_NothingToUndo ?yvc_NothingToUndo ?yty_NothingToUndo ?yhd_NothingToUndo ?ysu_NothingToUndo ?yop_NothingToUndo ?yms_NothingToUndo ?yns_NothingToUndo ?yto_NothingToUndo ?yfn_NothingToUndo ?yci_NothingToUndo ?yce_NothingToUndo ?yco_NothingToUndo ?yvs_NothingToUndo ?yfi_NothingToUndo ?yha_NothingToUndo ?yhn_NothingToUndo ?yht_NothingToUndo ?yhm_NothingToUndo ?ycl_TooMany ?yve_TooMany ?ysa_TooMany ?yga_TooMany ?ygg_TooMany ?yno_TooMany ?yic_TooMany ?ytc_TooMany ?ykc_TooMany ?yex_TooMany ?yvc_TooMany ?yty_TooMany ?yhd_TooMany ?ysu_TooMany ?yop_TooMany ?yms_TooMany ?yns_TooMany ?yto_TooMany ?yfn_TooMany ?yci_TooMany ?yce_TooMany ?yco_TooMany ?yvs_TooMany ?yfi_TooMany ?yha_TooMany ?yhn_TooMany ?yht_TooMany ?yhm_TooMany ?ycl_Refused ?yve_Refused ?ysa_Refused ?yga_Refused ?ygg_Refused ?yno_Refused ?yic_Refused ?ytc_Refused ?ykc_Refused ?yex_Refused ?yvc_Refused ?yty_Refused ?yhd_Refused ?ysu_Refused ?yop_Refused ?yms_Refused ?yns_Refused ?yto_Refused ?yfn_Refused ?yci_Refused ?yce_Refused ?yco_Refused ?yvs_Refused ?yfi_Refused ?yha_Refused ?yhn_Refused ?yht_Refused ?yhm_Refused ?ycl_InvalidNumber ?yve_InvalidNumber ?ysa_InvalidNumber ?yga_InvalidNumber ?ygg_InvalidNumber ?yno_InvalidNumber ?yic_InvalidNumber ?ytc_InvalidNumber ?ykc_InvalidNumber ?yex_InvalidNumber ?yvc_InvalidNumber ?yty_InvalidNumber ?yhd_InvalidNumber ?ysu_InvalidNumber ?yop_InvalidNumber ?yms_InvalidNumber ?yns_InvalidNumber ?yto_InvalidNumber ?yfn_InvalidNumber ?yci_InvalidNumber ?yce_InvalidNumber ?yco_InvalidNumber ?yvs_InvalidNumber ?yfi_InvalidNumber ?yha_InvalidNumber ?yhn_InvalidNumber ?yht_InvalidNumber ?yhm_InvalidNumber ?kt_InvalidWord ?kt_InvalidLibrary ?kt_InvalidCall ?kt_InvalidProgram ?kt_InvalidOperation ?kt_ParseError ?kt_UnknownName ?kt_UnknownPart ?kt_NothingToUndo ?kt_TooMany ?kt_Refused ?kt_InvalidNumber ?kt_RivalError ?em_ParseError ?em_UnknownName ?em_UnknownPart ?em_NothingToUndo ?em_TooMany ?em_Refused ?em_InvalidNumber
    (case a0 => k_is)
    (case l0 => k_is)
    (case c0 => k_is)
    (case k0 => k_is)
    (case a1 => k_is)
    (case l1 => k_is)
    (case c1 => k_is)
    (case k1 => k_is)
    (case a2 => k_is)
    (case l2 => k_is)
    (case c2 => k_is)
    (case k2 => k_is)
    (case a3 => k_is)
    (case l3 => k_is)
    (case c3 => k_is)
    (case k3 => k_is)
    (case a4 => k_is)
    (case l4 => k_is)
    (case c4 => k_is)
    (case k4 => k_is)
    (case a5 => k_is)
    (case l5 => k_is)
    (case c5 => k_is)
    (case k5 => k_is)
    (case a6 => k_is)
    (case l6 => k_is)
    (case c6 => k_is)
    (case k6 => k_is)
    (case a7 => k_is)
    (case l7 => k_is)
    (case c7 => k_is)
    (case k7 => k_is)
    (case a8 => k_is)
    (case l8 => k_is)
    (case c8 => k_is)
    (case k8 => k_is)
    (case a9 => k_is)
    (case l9 => k_is)
    (case c9 => k_is)
    (case k9 => k_is)
    (case a10 => k_is)
    (case l10 => k_is)
    (case c10 => k_is)
    (case k10 => k_is)
    (case a11 => k_is)
    (case l11 => k_is)
    (case c11 => k_is)
    (case k11 => k_is)
    (case a12 => k_is)
    (case l12 => k_is)
    (case c12 => k_is)
    (case k12 => k_is)
    (case a13 => k_is)
    (case l13 => k_is)
    (case c13 => k_is)
    (case k13 => k_is)
    (case a14 => k_is)
    (case l14 => k_is)
    (case c14 => k_is)
    (case k14 => k_is)
    (case a15 => k_is)
    (case l15 => k_is)
    (case c15 => k_is)
    (case k15 => k_is)
    (case z_ArithmeticError => k_is)
    (case z_IndexError => k_is)
    (case z_KeyError => k_is)
    (case z_LookupError => k_is)
    (case z_OverflowError => k_is)
    (case z_RuntimeError => k_is)
    (case z_ValueError => k_is)
    (case z_ZeroDivisionError => k_is)
    (case z_abs => k_is)
    (case z_int => k_is)
    (case z_isinstance => k_is)
    (case z_len => k_is)
    (case z_max => k_is)
    (case z_min => k_is)
    (case z_range => k_is)
    (case z_repr => k_is)
    (case e_InvalidWord => k_is)
    (case e_InvalidLibrary => k_is)
    (case e_InvalidCall => k_is)
    (case e_InvalidProgram => k_is)
    (case e_InvalidOperation => k_is)
    (case e_ParseError => k_is)
    (case e_UnknownName => k_is)
    (case e_UnknownPart => k_is)
    (case e_NothingToUndo => k_is)
    (case e_TooMany => k_is)
    (case e_Refused => k_is)
    (case e_InvalidNumber => k_is)
    (case e_RivalError => k_is)
    (case ex_InvalidWord => k_exc)
    (case kp_InvalidWord => k_is)
    (case sb_InvalidWord => k_is)
    (case ty_InvalidWord => k_is)
    (case hg_InvalidWord => k_is)
    (case hk_InvalidWord => k_is)
    (case hd_InvalidWord => k_is)
    (case ha_InvalidWord => k_is)
    (case hn_InvalidWord => k_is)
    (case ht_InvalidWord => k_is)
    (case hm_InvalidWord => k_is)
    (case ex_InvalidLibrary => k_exc)
    (case kp_InvalidLibrary => k_is)
    (case sb_InvalidLibrary => k_is)
    (case ty_InvalidLibrary => k_is)
    (case hg_InvalidLibrary => k_is)
    (case hk_InvalidLibrary => k_is)
    (case hd_InvalidLibrary => k_is)
    (case ha_InvalidLibrary => k_is)
    (case hn_InvalidLibrary => k_is)
    (case ht_InvalidLibrary => k_is)
    (case hm_InvalidLibrary => k_is)
    (case ex_InvalidCall => k_exc)
    (case kp_InvalidCall => k_is)
    (case sb_InvalidCall => k_is)
    (case ty_InvalidCall => k_is)
    (case hg_InvalidCall => k_is)
    (case hk_InvalidCall => k_is)
    (case hd_InvalidCall => k_is)
    (case ha_InvalidCall => k_is)
    (case hn_InvalidCall => k_is)
    (case ht_InvalidCall => k_is)
    (case hm_InvalidCall => k_is)
    (case ex_InvalidProgram => k_exc)
    (case kp_InvalidProgram => k_is)
    (case sb_InvalidProgram => k_is)
    (case ty_InvalidProgram => k_is)
    (case hg_InvalidProgram => k_is)
    (case hk_InvalidProgram => k_is)
    (case hd_InvalidProgram => k_is)
    (case ha_InvalidProgram => k_is)
    (case hn_InvalidProgram => k_is)
    (case ht_InvalidProgram => k_is)
    (case hm_InvalidProgram => k_is)
    (case ex_InvalidOperation => k_exc)
    (case kp_InvalidOperation => k_is)
    (case sb_InvalidOperation => k_is)
    (case ty_InvalidOperation => k_is)
    (case hg_InvalidOperation => k_is)
    (case hk_InvalidOperation => k_is)
    (case hd_InvalidOperation => k_is)
    (case ha_InvalidOperation => k_is)
    (case hn_InvalidOperation => k_is)
    (case ht_InvalidOperation => k_is)
    (case hm_InvalidOperation => k_is)
    (case ex_RivalError => k_exc)
    (case kp_RivalError => k_is)
    (case sb_RivalError => k_is)
    (case ty_RivalError => k_is)
    (case hg_RivalError => k_is)
    (case hk_RivalError => k_is)
    (case hd_RivalError => k_is)
    (case ha_RivalError => k_is)
    (case hn_RivalError => k_is)
    (case ht_RivalError => k_is)
    (case hm_RivalError => k_is)
    (case ycl_ParseError => k_is)
    (case yve_ParseError => decide +kernel)
    (case ysa_ParseError => k_is)
    (case yga_ParseError => k_is)
    (case ygg_ParseError => k_is)
    (case yno_ParseError => k_is)
    (case yic_ParseError => k_is)
    (case ytc_ParseError => k_is)
    (case ykc_ParseError => k_is)
    (case yex_ParseError => k_is)
    (case yvc_ParseError => k_is)
    (case yty_ParseError => k_is)
    (case yhd_ParseError => k_is)
    (case ysu_ParseError => ks_is)
    (case yop_ParseError => k_is)
    (case yms_ParseError => k_is)
    (case yns_ParseError => k_is)
    (case yto_ParseError => decide +kernel)
    (case yfn_ParseError => k_is)
    (case yci_ParseError => k_is)
    (case yce_ParseError => k_is)
    (case yco_ParseError => k_is)
    (case yvs_ParseError => rfl)
    (case yfi_ParseError => rfl)
    (case yha_ParseError => k_is)
    (case yhn_ParseError => k_is)
    (case yht_ParseError => k_is)
    (case yhm_ParseError => k_is)
    (case ycl_UnknownName => k_is)
    (case yve_UnknownName => decide +kernel)
    (case ysa_UnknownName => k_is)
    (case yga_UnknownName => k_is)
    (case ygg_UnknownName => k_is)
    (case yno_UnknownName => k_is)
    (case yic_UnknownName => k_is)
    (case ytc_UnknownName => k_is)
    (case ykc_UnknownName => k_is)
    (case yex_UnknownName => k_is)
    (case yvc_UnknownName => k_is)
    (case yty_UnknownName => k_is)
    (case yhd_UnknownName => k_is)
    (case ysu_UnknownName => ks_is)
    (case yop_UnknownName => k_is)
    (case yms_UnknownName => k_is)
    (case yns_UnknownName => k_is)
    (case yto_UnknownName => decide +kernel)
    (case yfn_UnknownName => k_is)
    (case yci_UnknownName => k_is)
    (case yce_UnknownName => k_is)
    (case yco_UnknownName => k_is)
    (case yvs_UnknownName => rfl)
    (case yfi_UnknownName => rfl)
    (case yha_UnknownName => k_is)
    (case yhn_UnknownName => k_is)
    (case yht_UnknownName => k_is)
    (case yhm_UnknownName => k_is)
    (case ycl_UnknownPart => k_is)
    (case yve_UnknownPart => decide +kernel)
    (case ysa_UnknownPart => k_is)
    (case yga_UnknownPart => k_is)
    (case ygg_UnknownPart => k_is)
    (case yno_UnknownPart => k_is)
    (case yic_UnknownPart => k_is)
    (case ytc_UnknownPart => k_is)
    (case ykc_UnknownPart => k_is)
    (case yex_UnknownPart => k_is)
    (case yvc_UnknownPart => k_is)
    (case yty_UnknownPart => k_is)
    (case yhd_UnknownPart => k_is)
    (case ysu_UnknownPart => ks_is)
    (case yop_UnknownPart => k_is)
    (case yms_UnknownPart => k_is)
    (case yns_UnknownPart => k_is)
    (case yto_UnknownPart => decide +kernel)
    (case yfn_UnknownPart => k_is)
    (case yci_UnknownPart => k_is)
    (case yce_UnknownPart => k_is)
    (case yco_UnknownPart => k_is)
    (case yvs_UnknownPart => rfl)
    (case yfi_UnknownPart => rfl)
    (case yha_UnknownPart => k_is)
    (case yhn_UnknownPart => k_is)
    (case yht_UnknownPart => k_is)
    (case yhm_UnknownPart => k_is)
    (case ycl_NothingToUndo => k_is)
    (case yve_NothingToUndo => decide +kernel)
    (case ysa_NothingToUndo => k_is)
    (case yga_NothingToUndo => k_is)
    (case ygg_NothingToUndo => k_is)
    (case yno_NothingToUndo => k_is)
    (case yic_NothingToUndo => k_is)
    (case ytc_NothingToUndo => k_is)
    (case ykc_NothingToUndo => k_is)
    (case yex_NothingToUndo => k_is)
    (case yvc_NothingToUndo => k_is)
    (case yty_NothingToUndo => k_is)
    (case yhd_NothingToUndo => k_is)
    (case ysu_NothingToUndo => ks_is)
    (case yop_NothingToUndo => k_is)
    (case yms_NothingToUndo => k_is)
    (case yns_NothingToUndo => k_is)
    (case yto_NothingToUndo => decide +kernel)
    (case yfn_NothingToUndo => k_is)
    (case yci_NothingToUndo => k_is)
    (case yce_NothingToUndo => k_is)
    (case yco_NothingToUndo => k_is)
    (case yvs_NothingToUndo => rfl)
    (case yfi_NothingToUndo => rfl)
    (case yha_NothingToUndo => k_is)
    (case yhn_NothingToUndo => k_is)
    (case yht_NothingToUndo => k_is)
    (case yhm_NothingToUndo => k_is)
    (case ycl_TooMany => k_is)
    (case yve_TooMany => decide +kernel)
    (case ysa_TooMany => k_is)
    (case yga_TooMany => k_is)
    (case ygg_TooMany => k_is)
    (case yno_TooMany => k_is)
    (case yic_TooMany => k_is)
    (case ytc_TooMany => k_is)
    (case ykc_TooMany => k_is)
    (case yex_TooMany => k_is)
    (case yvc_TooMany => k_is)
    (case yty_TooMany => k_is)
    (case yhd_TooMany => k_is)
    (case ysu_TooMany => ks_is)
    (case yop_TooMany => k_is)
    (case yms_TooMany => k_is)
    (case yns_TooMany => k_is)
    (case yto_TooMany => decide +kernel)
    (case yfn_TooMany => k_is)
    (case yci_TooMany => k_is)
    (case yce_TooMany => k_is)
    (case yco_TooMany => k_is)
    (case yvs_TooMany => rfl)
    (case yfi_TooMany => rfl)
    (case yha_TooMany => k_is)
    (case yhn_TooMany => k_is)
    (case yht_TooMany => k_is)
    (case yhm_TooMany => k_is)
    (case ycl_Refused => k_is)
    (case yve_Refused => decide +kernel)
    (case ysa_Refused => k_is)
    (case yga_Refused => k_is)
    (case ygg_Refused => k_is)
    (case yno_Refused => k_is)
    (case yic_Refused => k_is)
    (case ytc_Refused => k_is)
    (case ykc_Refused => k_is)
    (case yex_Refused => k_is)
    (case yvc_Refused => k_is)
    (case yty_Refused => k_is)
    (case yhd_Refused => k_is)
    (case ysu_Refused => ks_is)
    (case yop_Refused => k_is)
    (case yms_Refused => k_is)
    (case yns_Refused => k_is)
    (case yto_Refused => decide +kernel)
    (case yfn_Refused => k_is)
    (case yci_Refused => k_is)
    (case yce_Refused => k_is)
    (case yco_Refused => k_is)
    (case yvs_Refused => rfl)
    (case yfi_Refused => rfl)
    (case yha_Refused => k_is)
    (case yhn_Refused => k_is)
    (case yht_Refused => k_is)
    (case yhm_Refused => k_is)
    (case ycl_InvalidNumber => k_is)
    (case yve_InvalidNumber => decide +kernel)
    (case ysa_InvalidNumber => k_is)
    (case yga_InvalidNumber => k_is)
    (case ygg_InvalidNumber => k_is)
    (case yno_InvalidNumber => k_is)
    (case yic_InvalidNumber => k_is)
    (case ytc_InvalidNumber => k_is)
    (case ykc_InvalidNumber => k_is)
    (case yex_InvalidNumber => k_is)
    (case yvc_InvalidNumber => k_is)
    (case yty_InvalidNumber => k_is)
    (case yhd_InvalidNumber => k_is)
    (case ysu_InvalidNumber => ks_is)
    (case yop_InvalidNumber => k_is)
    (case yms_InvalidNumber => k_is)
    (case yns_InvalidNumber => k_is)
    (case yto_InvalidNumber => decide +kernel)
    (case yfn_InvalidNumber => k_is)
    (case yci_InvalidNumber => k_is)
    (case yce_InvalidNumber => k_is)
    (case yco_InvalidNumber => k_is)
    (case yvs_InvalidNumber => rfl)
    (case yfi_InvalidNumber => rfl)
    (case yha_InvalidNumber => k_is)
    (case yhn_InvalidNumber => k_is)
    (case yht_InvalidNumber => k_is)
    (case yhm_InvalidNumber => k_is)
    (case kt_InvalidWord => kernel_rfl)
    (case kt_InvalidLibrary => kernel_rfl)
    (case kt_InvalidCall => kernel_rfl)
    (case kt_InvalidProgram => kernel_rfl)
    (case kt_InvalidOperation => kernel_rfl)
    (case kt_ParseError => kernel_rfl)
    (case kt_UnknownName => kernel_rfl)
    (case kt_UnknownPart => kernel_rfl)
    (case kt_NothingToUndo => kernel_rfl)
    (case kt_TooMany => kernel_rfl)
    (case kt_Refused => kernel_rfl)
    (case kt_InvalidNumber => kernel_rfl)
    (case kt_RivalError => kernel_rfl)
    (case em_ParseError => kernel_rfl)
    (case em_UnknownName => kernel_rfl)
    (case em_UnknownPart => kernel_rfl)
    (case em_NothingToUndo => kernel_rfl)
    (case em_TooMany => kernel_rfl)
    (case em_Refused => kernel_rfl)
    (case em_InvalidNumber => kernel_rfl)

