import PyProof.Rows.All
import Wide.All
import OpenK.AllK
import Wide.FinOn
import HandS.ForMost
import HandS.IsInst
import HandS.TupMul
import HandS.TupAny
import HandS.Wide
import PyProof.ReprRoads
import HandS.Evl
import HandS.Walk
import PyProof.ReprLen
import HandS.Lambda
import HandS.EndTab
import HandS.ExcIs
import HandS.ExcOwn
import HandS.WordsExc
import PyProof.StrBlock2
import KE.KExcSuper
import HandS.ExcField
import HandS.TryMany
import HandS.Style
import HandS.More
import PySem.Challenge.RW_laterivals_k02_texts_of_types
set_option Elab.async false
set_option linter.all false
set_option maxRecDepth 100000
set_option maxHeartbeats 2000000
/-! calls where no repr is under way: a def's promise that may lean on it -/
namespace Lv
open PySem PySem.Spec PyProof.Rows L2

/-- as FnOk, for arounds in which no guarded call runs -/
structure FnG (P : Program) (w : World) (K : PySem.W.Frag) (mg : Str → Option Value) (base : Heap)
    (CX : CXT) (k : Nat) (f : Addr) (fd : FuncData) (ps : List Str) (sp : Sp) : Prop where
  len : ∀ vs H Q E, sp vs H Q E → vs.length = ps.length
  run : ∀ (A : Around), A.guards = some [] → ∀ (outer : List Env) (s : Shared) (H : Hp) (args : Args)
    (us : List Value) (vs : List V) (Q : VK) (E : XK), Room k A → Env0 P w K mg base A outer s H →
    BindsTo s fd args (ps.zip us) → Vals vs us → sp vs H Q E →
    codeAny (model P w) A (.call (.ref f) args) (CR CX outer P w H s Q E) s

theorem FnG.of {P : Program} {w : World} {K : PySem.W.Frag} {mg : Str → Option Value} {base : Heap}
    {CX : CXT} {k : Nat} {f : Addr} {fd : FuncData} {ps : List Str} {sp : Sp}
    (F : FnOk P w K mg base CX k f fd ps sp) : FnG P w K mg base CX k f fd ps sp :=
  ⟨F.len, fun A _ outer s H args us vs Q E hr he hb hv h => F.run A outer s H args us vs Q E hr he hb hv h⟩

section
variable {X : Cx} {CX : CXT} {k : Nat} {f : Addr} {fd : FuncData} {ps : List Str} {sp : Sp}
  {dvs : List V} {ds : List Value} {E : XK} {x : Str} {p pos : Pos} {e : Expr} {es : List Expr} {t : TA}

theorem pe_callG (F : FnG X.prog X.w X.K X.mg X.base CX k f fd ps sp) (hgd : X.A.guards = some [])
    (hr : Room k X.A) (hg : Gl X x) (hm : X.mg x = some (.ref f))
    (hk : PySem.W.keepIn X.K (.ref f) = true) (hb : Binds X.K fd ps ds) (hd : Vals dvs ds)
    (hx : Passes CX X E) (ha : PA X (e :: es) t) (hdb : (x == ("__debug__" : Str)) = false := by decide)
    (he : starEach (e :: es) X.env = (false, eval e X.env) :: starEach es X.env := by rfl)
    (hpl : (backTo pos (starEach es X.env)).any (·.1) = false := by rfl) :
    PE X (.Call (.Name x p) (e :: es) [] pos) (tCall sp dvs E t) := by
  constructor
  intro pins s σ H Q I h
  refine wpAny_Call_Name_kw (ld_glob I hg hm ?_ hdb)
  refine PySem.W.callWith_K (h₀ := X.base) I.ok.mod.kin hk (thn (ha.run pos pins s σ H _ I h) ?_) he hpl
  rintro us s1 ⟨vs, H1, I1, r, q⟩
  refine ⟨I1.kIn, ?_⟩
  have r2 : Vals (vs ++ dvs) (us ++ ds) := r.append hd
  have hl : (us ++ ds).length = ps.length := by
    rw [← r2.length]
    exact F.len _ _ _ _ q
  have run := F.run X.A hgd X.stack s1 H1 ⟨us, []⟩ (us ++ ds) (vs ++ dvs) Q E hr I1.env0 (hb s1 us I1.kIn hl) r2 q
  refine wpAny_call (codeAny_mono run ?_)
  rintro (er | (_ | _ | _ | u)) s' hq
  all_goals first
    | exact hx pins σ H1 s1 _ s' I1 hq
    | exact I1.after hq
    | exact False.elim hq
end

section
variable {P : Program} {w : World} {K : PySem.W.Frag} {mg : Str → Option Value} {base : Heap}
/-- a def by its body, where no guarded call runs -/
theorem okG {x qual : Str} {st : Stmt} {f : Addr} {fd : FuncData} {N ps : List Str} {k : Nat} {sp : Sp}
    (F : Fun K x qual st f fd) (S : FnScope N ps (defScope st))
    (len : ∀ vs H Q E, sp vs H Q E → vs.length = ps.length)
    (hbody : ∀ (cdv : Value) (A : Around) (outer : List Env) (s : Shared) (H : Hp) (vs : List V) (Q : VK) (E : XK),
      (A.deeper (envOfC qual (defScope st) s.heap.objs.size f cdv)).guards = some [] →
      Room k (A.deeper (envOfC qual (defScope st) s.heap.objs.size f cdv)) → sp vs H Q E →
      ∃ t, PSs (cxOf CX0 P w K mg base N qual (defScope st) f cdv A outer s H E).nox (defBody st) t ∧
        t { nx := fun _ H' => Q .non H', rt := Q } (start N vs) H) :
    FnG P w K mg base CX0 (k + 1) f fd ps sp := by
  obtain ⟨oc, od, kV, doc, pm, an, cdv, ct, osl, rfl, lk, hcd⟩ := F.ex
  refine ⟨len, fun A hgd outer s H args us vs Q E hr e0 hb hv hsp => ?_⟩
  have kept := fun b o (z : base.get? b = some o) => (e0.bs b o z).1
  have hK : K.In s.heap := e0.mod.kin.keeps kept
  have hL : s.heap.NoLimit := e0.mod.nolimit.keeps kept
  refine codeAny_call_function hr.depth (hK _ _ lk) rfl S.co S.gen rfl (PySem.W.codeRec_of hK hcd)
    (hb _ _ _ _ ?_)
  have kinds : ∀ y ∈ ps.zip us, (defScope st).names.lookup y.1 = some .local ∨
      ((defScope st).names.lookup y.1 = some .cell ∧
        ((cellsFrom (s.heap.objs.size + 1) (defScope st).names []).lookup y.1).isSome = true) := by
    rintro ⟨n, v⟩ hy
    rcases S.par n (List.of_mem_zip hy).1 with z | z
    · exact .inl z
    · exact .inr ⟨z, PySem.W.cellsFrom_some _ _ _ (.inl z)⟩
  refine wpAny_newFunctionEnv_cells S.kind kinds ?_
  rintro env rfl s1 x
  refine ⟨hL.keeps x.toInCall.keep, codeAny_func ?_⟩
  obtain ⟨t, ht, hq⟩ := hbody cdv A outer s H vs Q E hgd (hr.deeper _) hsp
  have I := inv_start (CX := CX0) (E := E) S hr.hd e0 (len _ _ _ _ hsp) hv x
  refine wpAny_mono (ht.nox.run [] s1 (start N vs) H _ I hq) ?_ (fun e s' z => z)
  rintro (_ | _ | _ | u) s' hs
  · obtain ⟨σ', H', J, q⟩ := hs
    exact ⟨V.non, H', J.os, J.bare, J.base, J.hok, (rfl : RelV V.non Value.none), q⟩
  · obtain ⟨_, _, _, q⟩ := hs
    exact False.elim q
  · obtain ⟨_, _, _, q⟩ := hs
    exact False.elim q
  · obtain ⟨v, σ', H', J, rv, q⟩ := hs
    exact ⟨v, H', J.os, J.bare, J.base, J.hok, rv, q⟩
end
/-- the law's call from its promise, at the heap behind the top -/
theorem lawG {P : Program} {w : World} {K : PySem.W.Frag} {mg mb : Str → Option Value} {k : Nat} {fa a : Addr}
    {fd : FuncData} {x : Str} {sp : Sp} {s₁ : Shared} {vs : List Value} {ns : List Int}
    (hK : K.In s₁.heap) (hG : s₁.heap.Ns mainGlobals mg) (hB : s₁.heap.Ns builtinsNs mb)
    (hB2 : ∀ x : Str, x ≠ "__name__" → mb x = bootBuiltins x) (hL : s₁.heap.NoLimit) (hg : s₁.gens = #[])
    (ha : s₁.heap.get? a = some { cls := .type "list", data := .seq vs.toArray }) (hi : IntsAre vs ns)
    (hl : ns.length ≤ sizeLine) (hr : Room k callerA)
    (F : ∀ base : Heap, K.In base → base.Ns mainGlobals mg → FnG P w K mg base CX0 k fa fd [x] sp)
    (hbind : ∀ (s : Shared) (u : Value), BindsTo s fd ⟨[u], []⟩ [(x, u)])
    (hsp : ∀ H : Hp, Only H → SqL K H a (ns.map V.int) → sp [.ref a] H (fun v _ => v = .bl true) E0) :
    codeAny (model P w) callerA (.call (.ref fa) ⟨[.ref a], []⟩)
      (fun r s' => r = .ok (.ret (.bool true)) ∧ OldK s₁.heap s'.heap ∧ s'.os = s₁.os ∧ AllBare s'.gens) s₁ := by
  have rv := vals_ints hi
  have lenV := hi.length
  have key : ∀ H : Hp, Only H → SqL K H a (ns.map V.int) → HOk P w H s₁.heap →
      (∀ b, H b ≠ none → b = a ∧ K.lookup b = none) →
      codeAny (model P w) callerA (.call (.ref fa) ⟨[.ref a], []⟩)
        (fun r s' => r = .ok (.ret (.bool true)) ∧ OldK s₁.heap s'.heap ∧ s'.os = s₁.os ∧ AllBare s'.gens) s₁ := by
    intro H hO hS hok hA
    have free : ∀ {b : Addr}, (b = a ∧ K.lookup b = none → False) → H b = none := by
      intro b hb
      cases q : H b with
      | none => rfl
      | some u => exact (hb (hA b (by rw [q]; exact fun z => nomatch z))).elim
    have ns2 : ∀ {b : Addr} {m : Str → Option Value}, s₁.heap.Ns b m → (hidT s₁.heap H).Ns b m := by
      rintro b m ⟨o, es, ep, e, d, r⟩
      refine ⟨o, es, ep, hidT_get e (free ?_), d, r⟩
      rintro ⟨rfl, -⟩
      rw [ha] at e
      cases e
      exact nomatch d
    have hKb : K.In (hidT s₁.heap H) := by
      intro b o e
      refine hidT_get (hK b o e) (free ?_)
      rintro ⟨-, z⟩
      rw [e] at z
      cases z
    have hM : Mod K mg (hidT s₁.heap H) := by
      refine ⟨hKb, ns2 hG, ⟨mb, ns2 hB, hB2⟩, ?_⟩
      obtain ⟨mc, h1, h2⟩ := hL
      exact ⟨mc, ns2 h1, h2⟩
    have e0 : Env0 P w K mg (hidT s₁.heap H) callerA [] s₁ H := by
      refine ⟨rfl, hM, fun b o e => of_hidT e, Nat.le_of_eq (hidT_size _ _), trivial, ?_, hok, .of_eq hg⟩
      intro b hb
      exact absurd (show b ∈ ([] : List Addr) from hb) (by simp)
    have run := (F _ hKb (ns2 hG)).run callerA rfl [] s₁ H ⟨[.ref a], []⟩ [.ref a] [.ref a] _ _ hr e0
      (hbind s₁ (.ref a)) (.cons rfl .nil) (hsp H hO hS)
    refine codeAny_mono run ?_
    rintro (er | (_ | _ | _ | u)) s' h
    · exact False.elim h
    · exact False.elim h
    · exact False.elim h
    · exact False.elim h
    · obtain ⟨v, H', os, bare, un, hok', r', q⟩ := h
      obtain rfl : v = V.bl true := q
      obtain rfl : u = Value.bool true := r'
      refine ⟨rfl, OldK.of_keep ?_, os, bare⟩
      intro b o e
      cases q : H b with
      | none => exact un.keep b o e q (fun z => absurd (show b ∈ ([] : List Addr) from z) (by simp)) (by simp)
      | some u =>
        rcases hO b with z | ⟨ob, xs, z⟩
        · rw [q] at z
          cases z
        · obtain ⟨e1, _⟩ := hok b _ z
          obtain ⟨e2, _⟩ := hok' b _ (un.frzs b ob _ z)
          rw [e] at e1
          cases e1
          exact e2
  cases hk : K.lookup a with
  | some o =>
    have e := hK a o hk
    rw [ha] at e
    cases e
    refine key (fun _ => none) (fun _ => .inl rfl) (.inr ?_) ?_ (fun b z => absurd rfl z)
    · exact ⟨_, vs.toArray, _, hk, rfl, rfl, rfl, by rw [List.size_toArray, lenV]; exact hl, by simpa using rv⟩
    · intro b u z
      exact nomatch (show (none : Option HO) = some u from z)
  | none =>
    let o₁ : Obj := { cls := .type "list", data := .seq vs.toArray }
    have up : ∀ b, upd (fun _ => none) a (.frz o₁ (.lst (ns.map V.int))) b ≠ none → b = a := by
      intro b z
      by_cases hb : b = a
      · exact hb
      · rw [upd_ne hb] at z
        exact absurd rfl z
    refine key (upd (fun _ => none) a (.frz o₁ (.lst (ns.map V.int)))) ?_ (.inl (.inr ⟨o₁, upd_same⟩)) ?_ ?_
    · intro b
      by_cases hb : b = a
      · subst hb
        exact .inr ⟨_, _, upd_same⟩
      · exact .inl (upd_ne hb)
    · intro b u z
      have hb : b = a := up b (by rw [z]; exact fun z => nomatch z)
      subst hb
      rw [upd_same] at z
      cases z
      exact ⟨ha, by rw [List.length_map]; exact hl, vs, _, rv, ha⟩
    · intro b z
      have hb := up b z
      subst hb
      exact ⟨rfl, hk⟩
theorem walkG {l : PySem.W.OpenLaw} {n k : Nat} {q : Program} {loose : List Str}
    {XP : (Str → Option Value) → Heap → Prop} {YP : World → Heap → Prop} {d : DefRec}
    {K : Params → PySem.W.Frag} {sp : PySem.W.Frag → Sp} {x : Str}
    (hn : l.most = some n) (hn2 : n ≤ sizeLine) (hdf : d.params.defaults = []) (hr : Room k callerA)
    (hY : ∀ (w : World) (h : Heap), YP w h → (K w.params).In h)
    (F : ∀ (w : World) (mg : Str → Option Value) (fa : Addr) (h : Heap), (K w.params).In h →
      h.Ns mainGlobals mg → mg d.name = some (.ref fa) →
      ∃ fd : FuncData, (∀ (s : Shared) (u : Value), BindsTo s fd ⟨[u], []⟩ [(x, u)]) ∧
        ∀ base : Heap, (K w.params).In base → base.Ns mainGlobals mg →
          FnG l.prog w (K w.params) mg base CX0 k fa fd [x] (sp (K w.params)))
    (hsp : ∀ (K : PySem.W.Frag) (H : Hp) (a : Addr) (ns : List Int), ns.length ≤ n → Only H →
      SqL K H a (ns.map V.int) → sp K [.ref a] H (fun v _ => v = .bl true) E0) :
    PySem.W.WalkO q loose XP YP l.row.toRowW d [] (fun f vs => PySem.call f vs) := by
  refine Att.attach_call hn hdf ?_
  intro w s₀ s₁ mg mb fa o pm cd doc a vs ns G Y ho hd hcd hmg hobj hints hlen hg
  obtain ⟨fd, hb, hF⟩ := F w mg fa _ (hY w _ Y) G.T.g hmg
  exact lawG (hY w _ Y) G.T.g G.T.b G.T.builtins G.T.nolimit hg hobj hints (Nat.le_trans hlen hn2) hr hF hb
    (fun H hO hS => hsp _ H a ns hlen hO hS)
section
variable {X : Cx}
/-- repr of data that is told by its values -/
theorem call_reprD (hgd : X.A.guards = some []) (hu : X.A.units + 64 < cLine) :
    CallR X (.builtin "repr") (fun xs H Q => ∃ (v : V) (d : PyData), xs = [v] ∧ Dp X.K H v d ∧
      isDisplay d = true ∧ d.showable = true ∧ d.hasDict = false ∧ d.depth ≤ 60 ∧ d.shown.length ≤ sizeLine ∧
      Q (.str d.shown) H) := by
  intro pins s σ H xs us Q I r h
  obtain ⟨v, d, rfl, hd, hi, hs, hn, hp, hz, q⟩ := h
  obtain ⟨u, rfl, rx⟩ := vals1 r
  obtain ⟨as, rd⟩ := Dp.reads I d v u hd rx
  obtain ⟨a, rfl⟩ := isRef_of_reads rd hi
  refine repr_of_reads' rd hs (PyData.noDict_hsm hn) hgd (by omega) (fun _ _ e => e) ?_ hz
  intro h' u tk hk
  exact ⟨.str d.shown, H, I.kept hk, ⟨u, rfl⟩, q⟩
end
end Lv

/-! further rules and what is said of heaps -/
namespace Lv
open PySem PySem.Spec PyProof.Rows L2
section
variable {X : Cx}
/-- powers of great numbers -/
def CPowW (i j : Int) : Prop := 0 ≤ j ∧ (Builtin.Int.intBits i : Int) * j ≤ 2 ^ 27
theorem op_powW : OpR X (binaryOp .Pow) (rI CPowW fun i j => .int (i ^ j.toNat)) :=
  opI fun _ _ _ _ _ _ _ hc q => pow_int hc.1 hc.2 q
theorem bits_le {i : Int} {n : Nat} (h : i.natAbs < 2 ^ n) (h0 : 0 < n) : (Builtin.Int.intBits i : Int) ≤ n := by
  have := PySem.Flt.log2_lt_of h0 h
  unfold Builtin.Int.intBits
  split <;> omega
theorem vals_get : ∀ {xs : List V} {us : List Value}, xs.length = us.length →
    (∀ (j : Nat) (u : Value), us[j]? = some u → ∃ x, xs[j]? = some x ∧ RelV x u) → Vals xs us
  | [], [], _, _ => .nil
  | [], _ :: _, h, _ => nomatch h
  | _ :: _, [], h, _ => nomatch h
  | x :: xs, u :: us, h, g => by
    obtain ⟨y, hy, r⟩ := g 0 u rfl
    cases hy
    refine .cons r (vals_get (Nat.succ.inj h) fun j v hv => ?_)
    exact g (j + 1) v hv
/-- the signs of a text as texts -/
def sgs (z : Str) : List V := z.cps.toList.map fun c => V.str ⟨#[c]⟩
/-- list(text) -/
theorem call_listS (hc : X.calm = true) : CallR X (.type "list") (fun xs H Q => ∃ z : Str, xs = [.str z] ∧
    z.length ≤ sizeLine ∧ ∀ l, H l = none → Q (.ref l) (upd H l (.lst (sgs z)))) := by
  intro pins s σ H xs us Q I r h
  obtain ⟨z, rfl, hz, q⟩ := h
  obtain ⟨u, rfl, t, rfl⟩ := vals1 r
  refine PySem.call_list_str (I.ok.hd hc) z t (fun h' tk acc c kp ho hit => ?_) hz
  obtain ⟨acc⟩ := acc
  refine ⟨.ref s.heap.objs.size, _, I.laid (t' := tk) kp (Nat.le_refl _)
    (show ObjOk X.prog X.w _ h' _ (.lst (sgs z)) from ⟨?_, acc, c, ?_, ho⟩), rfl, q _ (I.hok.fresh (Nat.le_refl _))⟩
  · unfold sgs
    rw [List.length_map]
    exact hz
  · refine vals_get ?_ ?_
    · unfold sgs
      have := hit.1
      simp at this ⊢
      exact this.symm
    · intro j v hv
      obtain ⟨c, u, hc, rfl⟩ := hit.2 j v (by simpa using hv)
      refine ⟨.str ⟨#[c]⟩, ?_, u, rfl⟩
      unfold sgs
      rw [List.getElem?_map, Array.getElem?_toList, hc]
      rfl
end
section
variable {X : Cx}
theorem call_intI : CallR X (.type "int") (fun xs H Q => ∃ i, xs = [.int i] ∧ Q (.int i) H) :=
  fun pins s σ H xs us Q I r h => call_int1 pins s σ H xs us Q I r (.inl h)
theorem call_intB : CallR X (.type "int") (fun xs H Q => ∃ k, xs = [.bl k] ∧ Q (.int (if k then 1 else 0)) H) :=
  fun pins s σ H xs us Q I r h => call_int1 pins s σ H xs us Q I r (.inr h)
end
section
variable {X : Cx}
/-- tuple(list) -/
def rTupL (K : PySem.W.Frag) : List V → Hp → VK → Prop := fun xs H Q => ∃ p ys, xs = [.ref p] ∧ SqL K H p ys ∧ ∀ l, H l = none → Q (.ref l) (upd H l (.tup ys))
theorem call_tupL : CallR X (.type "tuple") (rTupL X.K) := fun pins s σ H xs us Q I r h => by
  obtain ⟨p, ys, e, h1, h2⟩ := h
  exact call_tuple_of pins s σ H xs us Q I r ⟨p, ys, e, .inl ⟨h1, h2⟩⟩
/-- len of a list or a tuple -/
def rLenQ (K : PySem.W.Frag) : List V → Hp → VK → Prop := fun xs H Q => ∃ p ys, xs = [.ref p] ∧ (SqL K H p ys ∨ SqT K H p ys) ∧ Q (.int ys.length) H
theorem call_lenQ : CallR X (.builtin "len") (rLenQ X.K) := call_len_seq
/-- sep.join(list) -/
def rJoin (K : PySem.W.Frag) : V → List V → Hp → VK → Prop := fun x xs H Q => ∃ a p, ∃ ys : List Str, x = .str a ∧ xs = [.ref p] ∧ (SqL K H p (ys.map V.str) ∨ SqT K H p (ys.map V.str)) ∧
  (ys.map (·.length)).sum + ys.length * a.length ≤ 16777216 ∧ Q (.str (Txt.join a ys)) H
theorem pe_joinN {o e : Expr} {to te : TE} {apos pos : Pos} (ho : PE X o to) (he : PE X e te) (hs : starEach [e] X.env = [(false, eval e X.env)] := by rfl)
    (hbase : attributeBase o "join" X.env (eval o X.env) = eval o X.env := by rfl) (hline : (apos.endLine == pos.line) = true := by rfl) :
    PE X (.Call (.Attribute o "join" apos) [e] [] pos) (tM1 (rJoin X.K) to te) := pe_join ho he hs hbase hline
/-- dict(list of pairs) -/
def rDictPs (K : PySem.W.Frag) : List V → Hp → VK → Prop := fun xs H Q => ∃ (a : Addr) (ps : List Addr) (kvs : List (Key × V)), xs = [.ref a] ∧ SqL K H a (ps.map V.ref) ∧
  Paired (fun p kv => SqT K H p [kV kv.1, kv.2]) ps kvs ∧ ∀ p, H p = none → Q (.ref p) (upd H p (.dK (mergeK [] kvs)))
theorem call_dictPs (hc : X.calm = true) : CallR X (.type "dict") (rDictPs X.K) := call_dictP hc
end
theorem tupL {K : PySem.W.Frag} {H : Hp} {a : Addr} {xs : List V} {Q : VK} (h : SqL K H a xs) (q : ∀ p, H p = none → Q (.ref p) (upd H p (.tup xs))) : rTupL K [.ref a] H Q := ⟨a, xs, rfl, h, q⟩
theorem lenL {K : PySem.W.Frag} {H : Hp} {a : Addr} {xs : List V} {Q : VK} (h : SqL K H a xs) (q : Q (.int xs.length) H) : rLenQ K [.ref a] H Q := ⟨a, xs, rfl, .inl h, q⟩
theorem lenT {K : PySem.W.Frag} {H : Hp} {a : Addr} {xs : List V} {Q : VK} (h : SqT K H a xs) (q : Q (.int xs.length) H) : rLenQ K [.ref a] H Q := ⟨a, xs, rfl, .inr h, q⟩
theorem joinL' {K : PySem.W.Frag} {H : Hp} {a : Addr} {s : Str} {ys : List Str} {Q : VK} (h : SqL K H a (ys.map V.str)) (hl : (ys.map (·.length)).sum + ys.length * s.length ≤ 16777216)
    (q : Q (.str (Txt.join s ys)) H) : rJoin K (.str s) [.ref a] H Q := ⟨s, a, ys, rfl, rfl, .inl h, hl, q⟩
theorem tyl {K : PySem.W.Frag} {H : Hp} {a : Addr} {xs : List V} (h : SqL K H a xs) : tyV K "list" (.ref a) H := .inl ⟨rfl, xs, h⟩
theorem sql_of {K : PySem.W.Frag} {H : Hp} {a : Addr} {xs : List V} (h : H a = some (.lst xs)) : SqL K H a xs := .inl (.inl h)
theorem sqt_of {K : PySem.W.Frag} {H : Hp} {a : Addr} {xs : List V} (h : H a = some (.tup xs)) : SqT K H a xs := .inl (.inl h)
theorem sz100 {n : Nat} (h : n ≤ 100000) : n ≤ sizeLine := Nat.le_trans h (by decide)
theorem sz100' {n : Nat} (h : n < 100000) : n < sizeLine := Nat.lt_of_lt_of_le h (by decide)
theorem ixl {K : PySem.W.Frag} {H : Hp} {a : Addr} {xs : List V} {i : Int} {v : V} {Q : VK} (h : SqL K H a xs) (e : atI xs i = some v) (q : Q v H) :
    rIxL K (.ref a) (.int i) H Q := ⟨a, xs, i, v, rfl, rfl, h, e, q⟩
theorem setl {H : Hp} {a : Addr} {xs : List V} {i : Int} {j : Nat} {v : V} {Q : Hp → Prop} (h : H a = some (.lst xs)) (e : ixN xs.length i = some j)
    (q : Q (upd H a (.lst (xs.set j v)))) : rSetL (.ref a) (.int i) v H Q := ⟨a, xs, i, j, rfl, rfl, h, e, q⟩
theorem ixl_nat {K : PySem.W.Frag} {H : Hp} {a : Addr} {xs : List V} {j : Nat} {v : V} {Q : VK} (h : SqL K H a xs) (e : xs[j]? = some v) (q : Q v H) :
    rIxL K (.ref a) (.int j) H Q := ⟨a, xs, j, v, rfl, rfl, h, atI_nat e, q⟩
/-- of which built-in kind a value is; objects are tracked ones -/
inductive Kn (H : Hp) : V → String → Prop where
  | non : Kn H .non "NoneType"
  | bl (b : Bool) : Kn H (.bl b) "bool"
  | int (i : Int) : Kn H (.int i) "int"
  | str (z : Str) : Kn H (.str z) "str"
  | lst {a : Addr} {xs : List V} (h : H a = some (.lst xs)) : Kn H (.ref a) "list"
  | tup {a : Addr} {xs : List V} (h : H a = some (.tup xs)) : Kn H (.ref a) "tuple"
  | dK {a : Addr} {kvs : List (Key × V)} (h : H a = some (.dK kvs)) : Kn H (.ref a) "dict"
theorem Kn.ty {K : PySem.W.Frag} {H : Hp} {v : V} {t : String} (k : Kn H v t) : TyX K H v (.type t) := by
  cases k with
  | non => exact .base .non
  | bl b => exact .base (.bl b)
  | int i => exact .base (.int i)
  | str z => exact .base (.str z)
  | lst h => exact .base (.lst h)
  | tup h => exact .base (.tup h)
  | dK h => exact .base (.dK h)
theorem Kn.same {H H' : Hp} {v : V} {t : String} (e : Same H H') (k : Kn H v t) : Kn H' v t := by
  cases k with
  | non => exact .non
  | bl b => exact .bl b
  | int i => exact .int i
  | str z => exact .str z
  | lst h => exact .lst (e _ _ h)
  | tup h => exact .tup (e _ _ h)
  | dK h => exact .dK (e _ _ h)
/-- isinstance of such a value -/
theorem isi_kn {K : PySem.W.Frag} {H : Hp} {v : V} {t n : String} {b : Bool} {Q : VK} (k : Kn H v t)
    (hb : kitB t n = some b) (q : Q (.bl b) H) : rIsi K [v, .ty n] H Q :=
  ⟨v, .ty n, .type t, .type n, b, rfl, .ty n, k.ty, kit_ty hb, q⟩
theorem kit_bool : ∀ t ∈ ["NoneType", "int", "str", "list", "tuple", "dict"], kitB t "bool" = some false := by decide +kernel
theorem kit_int : ∀ t ∈ ["NoneType", "str", "list", "tuple", "dict"], kitB t "int" = some false := by decide +kernel
theorem kit_str : ∀ t ∈ ["NoneType", "bool", "int", "list", "tuple", "dict"], kitB t "str" = some false := by decide +kernel
theorem kit_tup : ∀ t ∈ ["NoneType", "bool", "int", "str", "list", "dict"], kitB t "tuple" = some false := by decide +kernel
theorem kit_self : ∀ t ∈ ["NoneType", "bool", "int", "str", "list", "tuple", "dict"], kitB t t = some true := by decide +kernel
theorem Kn.mem {H : Hp} {v : V} {t : String} (k : Kn H v t) : t ∈ ["NoneType", "bool", "int", "str", "list", "tuple", "dict"] := by
  cases k <;> decide
theorem same_new {H : Hp} {p : Addr} {o : HO} (h : H p = none) : Same H (upd H p o) := fun b x e => by
  rw [upd_ne (ne_of_none e h)]
  exact e
theorem same_mut {H H' : Hp} {p : Addr} {o : HO} (e : Same H H') (h : H p = none) : Same H (upd H' p o) := fun b x q => by
  rw [upd_ne (ne_of_none q h)]
  exact e _ _ q
/-! ### dice -/
/-- a list of three ints -/
def Dc (H : Hp) (d : Addr) : Prop := ∃ x y z : Int, H d = some (.lst [.int x, .int y, .int z])
/-- all but the dice is kept, and the dice are dice -/
structure Gr (d : Addr) (H H' : Hp) : Prop where
  pre : Dc H d
  keep : ∀ a o, a ≠ d → H a = some o → H' a = some o
  dice : Dc H' d
theorem Gr.refl {d : Addr} {H : Hp} (h : Dc H d) : Gr d H H := ⟨h, fun _ _ _ h => h, h⟩
theorem Gr.trans {d : Addr} {H H1 H2 : Hp} (a : Gr d H H1) (b : Gr d H1 H2) : Gr d H H2 :=
  ⟨a.pre, fun x o n h => b.keep x o n (a.keep x o n h), b.dice⟩
theorem Gr.roll {d : Addr} {H : Hp} {x y z : Int} (h : Dc H d) : Gr d H (upd H d (.lst [.int x, .int y, .int z])) :=
  ⟨h, fun a o n h => by rw [upd_ne n]; exact h, x, y, z, upd_same⟩
theorem Dc.same {d : Addr} {H H' : Hp} (h : Dc H d) (e : Same H H') : Dc H' d :=
  let ⟨x, y, z, q⟩ := h
  ⟨x, y, z, e _ _ q⟩
theorem Gr.same {d : Addr} {H H' : Hp} (h : Dc H d) (e : Same H H') : Gr d H H' := ⟨h, fun a o _ q => e a o q, h.same e⟩
theorem Dc.ne {d p : Addr} {H : Hp} (h : Dc H d) (n : H p = none) : p ≠ d := fun e => by
  obtain ⟨x, y, z, q⟩ := h
  rw [e, q] at n
  cases n
theorem Dc.ne_tup {d p : Addr} {H : Hp} {xs : List V} (h : Dc H d) (n : H p = some (.tup xs)) : p ≠ d := fun e => by
  obtain ⟨x, y, z, q⟩ := h
  rw [e, q] at n
  cases n
/-- what was free and is not the dice came later -/
theorem Gr.back {d p : Addr} {H H' : Hp} (g : Gr d H H') (h : H' p = none) : H p = none := by
  have ne := g.dice.ne h
  cases q : H p with
  | none => rfl
  | some o =>
    rw [g.keep p o ne q] at h
    cases h
/-- a thing that was not there before changes -/
theorem Gr.mut {d p : Addr} {H H' : Hp} {o : HO} (g : Gr d H H') (h : H p = none) (ne : p ≠ d) : Gr d H (upd H' p o) := by
  refine ⟨g.pre, fun a u n q => ?_, ?_⟩
  · rw [upd_ne (ne_of_none q h)]
    exact g.keep a u n q
  · obtain ⟨x, y, z, q⟩ := g.dice
    exact ⟨x, y, z, by rw [upd_ne ne.symm]; exact q⟩
theorem Gr.new {d p : Addr} {H : Hp} {o : HO} (h : Dc H d) (n : H p = none) : Gr d H (upd H p o) := Gr.same h (same_new n)
theorem Gr.rd {d p : Addr} {H H' : Hp} {u : HO} (g : Gr d H H') (ne : p ≠ d) (h : Rd H p u) : Rd H' p u := by
  rcases h with h | ⟨o, h⟩
  · exact .inl (g.keep _ _ ne h)
  · exact .inr ⟨o, g.keep _ _ ne h⟩
theorem Gr.sql {K : PySem.W.Frag} {d p : Addr} {H H' : Hp} {xs : List V} (g : Gr d H H') (ne : p ≠ d) (h : SqL K H p xs) : SqL K H' p xs := by
  rcases h with h | h
  · exact .inl (g.rd ne h)
  · exact .inr h
theorem Gr.sqt {K : PySem.W.Frag} {d p : Addr} {H H' : Hp} {xs : List V} (g : Gr d H H') (ne : p ≠ d) (h : SqT K H p xs) : SqT K H' p xs := by
  rcases h with h | h
  · exact .inl (g.rd ne h)
  · exact .inr h
theorem Kn.gr {d : Addr} {H H' : Hp} {v : V} {t : String} (g : Gr d H H') (k : Kn H v t) : Kn H' v t := by
  obtain ⟨x, y, z, hd⟩ := g.dice
  obtain ⟨x', y', z', h0⟩ := g.pre
  cases k with
  | non => exact .non
  | bl b => exact .bl b
  | int i => exact .int i
  | str z => exact .str z
  | @lst a xs h =>
    by_cases e : a = d
    · rw [e]
      exact .lst hd
    · exact .lst (g.keep _ _ e h)
  | @tup a xs h =>
    by_cases e : a = d
    · rw [e, h0] at h
      cases h
    · exact .tup (g.keep _ _ e h)
  | @dK a kvs h =>
    by_cases e : a = d
    · rw [e, h0] at h
      cases h
    · exact .dK (g.keep _ _ e h)
end Lv

/-! comprehensions whose elements leave all as it was, and such that roll dice -/
namespace Lv
open PySem PySem.Spec PyProof.Rows L2
section
variable {J : It} {n : Nat} {G : Hp → Prop} {Y : Nat → Hp → V → Hp → Prop} {g : TG} {tt : TT} {te : TE}
  {vs : List Nat} {σ : L2.St} {H1 : Hp} {Q : VK}
/-- the body of a comprehension's reading, behind what it walks -/
def LcB (J : It) (g : TG) (tt : TT) (te : TE) (vs : List Nat) (σ : L2.St) (Q : VK) (H1 : Hp) : Prop :=
  ∀ D, H1 D = none → ∃ W : Nat → Nat → Hp → Prop, (∃ m, W 0 m (upd H1 D (.lst []))) ∧ ∀ i m H, W i m H →
    (J.stop i H ∧ Q (.ref D) H) ∨ (J.go i H ∧ ∃ Nx : Hp → Prop, (∀ H', Nx H' → ∃ m', m' < m ∧ W (i + 1) m' H') ∧
      ∀ x H', J.yld i H x H' → g x (wipe σ vs) H' fun σ2 H2 => wipe σ2 vs = wipe σ vs ∧ tt σ2 H2 fun b H3 =>
        if b = true then te σ2 H3 fun y H4 => ∃ acc, H4 D = some (.lst acc) ∧ acc.length < sizeLine ∧
          Nx (upd H4 D (.lst (acc ++ [y]))) else Nx H3)
theorem tLc_eq {wi : TI} {H : Hp} : tLc wi g tt te vs σ H Q = wi σ H fun J H1 => LcB J g tt te vs σ Q H1 := rfl
/-- each element is f i, and all stays as it was -/
theorem lc_same (w : Walk J n G Y) (f : Nat → V) (hn : n ≤ sizeLine) (hG : ∀ H, Same H1 H → G H)
    (hs : ∀ i x H H', i < n → Same H1 H → Y i H x H' → ∀ R : VK, (∀ H4, Same H H4 → R (f i) H4) →
      g x (wipe σ vs) H' fun σ2 H2 => wipe σ2 vs = wipe σ vs ∧ tt σ2 H2 fun b H3 => b = true ∧ te σ2 H3 R)
    (mono : ∀ (x : V) (σ' : L2.St) (H' : Hp) (A B : L2.St → Hp → Prop), (∀ s h, A s h → B s h) → g x σ' H' A → g x σ' H' B)
    (monoT : ∀ (σ' : L2.St) (H' : Hp) (A B : Bool → Hp → Prop), (∀ b h, A b h → B b h) → tt σ' H' A → tt σ' H' B)
    (hd : ∀ H D, Same H1 H → H1 D = none → H D = some (.lst ((List.range n).map f)) → Q (.ref D) H) :
    LcB J g tt te vs σ Q H1 := by
  intro D hD
  refine lc_it w (fun i H => Same H1 H ∧ H D = some (.lst ((List.range i).map f))) ⟨same_new hD, upd_same⟩
    (fun i H _ h => hG H h.1) ?_ (fun H h => hd H D h.1 hD h.2)
  rintro i x H H' hi ⟨hS, hL⟩ hy
  have := hs i x H H' hi hS hy
    (fun y H4 => ∃ acc, H4 D = some (.lst acc) ∧ acc.length < sizeLine ∧
      (Same H1 (upd H4 D (.lst (acc ++ [y]))) ∧ upd H4 D (.lst (acc ++ [y])) D = some (.lst ((List.range (i + 1)).map f))))
    (fun H4 h4 => ⟨_, h4 _ _ hL, by rw [List.length_map, List.length_range]; omega, same_mut (hS.trans h4) hD, by
      rw [upd_same, List.range_succ, List.map_append]
      rfl⟩)
  refine mono _ _ _ _ _ ?_ this
  rintro s h ⟨e, h2⟩
  refine ⟨e, monoT _ _ _ _ ?_ h2⟩
  rintro b h3 ⟨rfl, h4⟩
  rw [if_pos rfl]
  exact h4
/-- elements that are drawn: each has P -/
theorem lc_gr {d : Addr} (w : Walk J n G Y) (P : Nat → V → Prop) (hn : n ≤ sizeLine) (h0 : Dc H1 d) (hG : ∀ H, Gr d H1 H → G H)
    (hs : ∀ i x H H', i < n → Gr d H1 H → Y i H x H' → ∀ R : VK, (∀ y H4, P i y → Gr d H H4 → R y H4) →
      g x (wipe σ vs) H' fun σ2 H2 => wipe σ2 vs = wipe σ vs ∧ tt σ2 H2 fun b H3 => b = true ∧ te σ2 H3 R)
    (mono : ∀ (x : V) (σ' : L2.St) (H' : Hp) (A B : L2.St → Hp → Prop), (∀ s h, A s h → B s h) → g x σ' H' A → g x σ' H' B)
    (monoT : ∀ (σ' : L2.St) (H' : Hp) (A B : Bool → Hp → Prop), (∀ b h, A b h → B b h) → tt σ' H' A → tt σ' H' B)
    (hd : ∀ H D ys, Gr d H1 H → H1 D = none → D ≠ d → ys.length = n → (∀ i y, ys[i]? = some y → P i y) →
      H D = some (.lst ys) → Q (.ref D) H) :
    LcB J g tt te vs σ Q H1 := by
  intro D hD
  have ne := h0.ne hD
  refine lc_it w (fun i H => Gr d H1 H ∧ ∃ ys : List V, ys.length = i ∧ (∀ j y, ys[j]? = some y → P j y) ∧ H D = some (.lst ys))
    ⟨Gr.new h0 hD, [], rfl, (fun j y e => by simp at e), upd_same⟩ (fun i H _ h => hG H h.1) ?_
    (fun H h => ?_)
  · rintro i x H H' hi ⟨hS, ys, hl, hp, hL⟩ hy
    have := hs i x H H' hi hS hy
      (fun y H4 => ∃ acc, H4 D = some (.lst acc) ∧ acc.length < sizeLine ∧ (Gr d H1 (upd H4 D (.lst (acc ++ [y]))) ∧
        ∃ zs : List V, zs.length = i + 1 ∧ (∀ j z, zs[j]? = some z → P j z) ∧ upd H4 D (.lst (acc ++ [y])) D = some (.lst zs)))
      (fun y H4 hy h4 => ⟨ys, h4.keep _ _ ne hL, by omega, (hS.trans h4).mut hD ne, ys ++ [y], by
        rw [List.length_append, hl]
        rfl, fun j z hz => ?_, upd_same⟩)
    · refine mono _ _ _ _ _ ?_ this
      rintro s h ⟨e, h2⟩
      refine ⟨e, monoT _ _ _ _ ?_ h2⟩
      rintro b h3 ⟨rfl, h4⟩
      rw [if_pos rfl]
      exact h4
    · by_cases hj : j < ys.length
      · rw [List.getElem?_append_left hj] at hz
        exact hp j z hz
      · rw [List.getElem?_append_right (by omega)] at hz
        have e : j = i := by
          cases hq : j - ys.length with
          | zero => omega
          | succ m =>
            rw [hq] at hz
            exact nomatch hz
        subst e
        rw [hl, Nat.sub_self] at hz
        cases hz
        exact hy
  · obtain ⟨hS, ys, hl, hp, hL⟩ := h
    exact hd H D ys hS hD ne hl hp hL
end
section
variable {J : It} {n : Nat} {G : Hp → Prop} {Y : Nat → Hp → V → Hp → Prop} {g : TG} {tb : TS} {D : Ends} {σ : L2.St} {H : Hp}
/-- the body of a for's reading, behind what it walks -/
def ForB (J : It) (g : TG) (tb : TS) (D : Ends) (σ : L2.St) (H : Hp) : Prop :=
  ∃ W : Nat → Nat → L2.St → Hp → Prop, (∃ m, W 0 m σ H) ∧ ∀ i m σ H, W i m σ H →
    (J.stop i H ∧ D.nx σ H) ∨ (J.go i H ∧ ∃ N : L2.St → Hp → Prop, (∀ σ' H', N σ' H' → ∃ m', m' < m ∧ W (i + 1) m' σ' H') ∧
      ∀ x H', J.yld i H x H' → g x σ H' fun σ2 H2 => tb { D with nx := N, ct := N, bk := D.nx } σ2 H2)
theorem tFor_eq {wi : TI} : tFor wi g tb D σ H = wi σ H fun J H1 => ForB J g tb D σ H1 := rfl
/-- a for by its invariant -/
theorem forB (w : Walk J n G Y) (Pv : Nat → L2.St → Hp → Prop) (h0 : Pv 0 σ H) (hG : ∀ i σ H, i ≤ n → Pv i σ H → G H)
    (hs : ∀ i x σ H H', i < n → Pv i σ H → Y i H x H' → g x σ H' fun σ2 H2 => tb { D with nx := Pv (i + 1), ct := Pv (i + 1), bk := D.nx } σ2 H2)
    (hd : ∀ σ H, Pv n σ H → D.nx σ H) : ForB J g tb D σ H := for_it w Pv h0 hG hs hd
end
theorem mono_name {i : Nat} (x : V) (σ' : L2.St) (H' : Hp) (A B : L2.St → Hp → Prop) (h : ∀ s h, A s h → B s h) (q : gName i x σ' H' A) : gName i x σ' H' B := h _ _ q
theorem mono_yes (σ' : L2.St) (H' : Hp) (A B : Bool → Hp → Prop) (h : ∀ b h, A b h → B b h) (q : tYes σ' H' A) : tYes σ' H' B := h _ _ q
end Lv

/-! texts made of drawn signs -/
namespace Lv
open PySem PySem.Spec PyProof.Rows L2
/-- a text of one sign -/
abbrev sg (c : Nat) : Str := ⟨#[c]⟩
theorem sgs_eq (z : Str) : sgs z = z.cps.toList.map fun c => V.str (sg c) := rfl
theorem ex_cs {P : Nat → Prop} : ∀ {ys : List V}, (∀ (i : Nat) (y : V), ys[i]? = some y → ∃ c, y = V.str (sg c) ∧ P c) →
    ∃ cs : List Nat, ys = (cs.map sg).map V.str ∧ cs.length = ys.length ∧ ∀ c ∈ cs, P c
  | [], _ => ⟨[], rfl, rfl, fun c h => nomatch h⟩
  | y :: ys, h => by
    obtain ⟨c, rfl, pc⟩ := h 0 y rfl
    obtain ⟨cs, rfl, e, p⟩ := ex_cs (ys := ys) fun i y hy => h (i + 1) y hy
    refine ⟨c :: cs, rfl, by simp, fun x hx => ?_⟩
    rcases List.mem_cons.mp hx with rfl | hx
    · exact pc
    · exact p x hx
theorem joinL_nil : ∀ ps : List (List Nat), TL.joinL [] ps = ps.flatten
  | [] => rfl
  | [p] => by simp [TL.joinL]
  | p :: q :: r => by
    show p ++ ([] ++ TL.joinL [] (q :: r)) = _
    rw [joinL_nil (q :: r)]
    rfl
theorem tl_joinSg (cs : List Nat) : TL.tl (Txt.join (Str.ofString "") (cs.map sg)) = cs := by
  rw [TL.join_eq, TL.tl_join, show TL.tl (Str.ofString "") = [] from rfl, joinL_nil, List.map_map]
  induction cs with
  | nil => rfl
  | cons c cs ih =>
    show [c] ++ (cs.map (TL.tl ∘ sg)).flatten = c :: cs
    rw [ih]
    rfl
theorem sum_ones : ∀ cs : List Nat, ((cs.map sg).map (·.length)).sum = cs.length
  | [] => rfl
  | c :: cs => by
    show 1 + ((cs.map sg).map (·.length)).sum = cs.length + 1
    rw [sum_ones cs]
    omega
theorem len_tl (z : Str) : z.length = (TL.tl z).length := by
  show z.cps.size = z.cps.toList.length
  rw [Array.length_toList]
theorem inV_swap (x a b : V) : inV x [a, b] = inV x [b, a] := by
  unfold inV
  simp [Bool.or_comm]
end Lv

/-! repr of lists of truths -/
namespace Lv
open PySem PySem.Spec PyProof.Rows L2
/-- what repr asks of data -/
def RpOk (d : PyData) : Prop := isDisplay d = true ∧ d.showable = true ∧ d.hasDict = false ∧ d.depth ≤ 60 ∧ d.shown.length ≤ sizeLine
def rRp (K : PySem.W.Frag) : List V → Hp → VK → Prop := fun xs H Q => ∃ (v : V) (d : PyData), xs = [v] ∧ Dp K H v d ∧ RpOk d ∧ Q (.str d.shown) H
theorem call_rp {X : Cx} (hgd : X.A.guards = some []) (hu : X.A.units + 64 < cLine) : CallR X (.builtin "repr") (rRp X.K) := by
  intro pins s σ H xs us Q I r h
  obtain ⟨v, d, rfl, hd, ⟨h1, h2, h3, h4, h5⟩, q⟩ := h
  exact call_reprD hgd hu pins s σ H _ us Q I r ⟨v, d, rfl, hd, h1, h2, h3, h4, h5, q⟩
def dB (bs : List Bool) : PyData := .list (bs.map PyData.bool)
theorem shownB : ∀ bs : List Bool, ((PyData.shownAll (bs.map PyData.bool)).map (·.length)).sum + 2 * (PyData.shownAll (bs.map PyData.bool)).length ≤ 7 * bs.length
  | [] => by simp [PyData.shownAll]
  | b :: bs => by
    have := shownB bs
    rw [List.map_cons, PyData.shownAll, List.map_cons, List.sum_cons, List.length_cons, List.length_cons]
    have : (PyData.bool b).shown.length ≤ 5 := by cases b <;> decide +kernel
    omega
theorem showB : ∀ bs : List Bool, PyData.showableAll (bs.map PyData.bool) = true
  | [] => by simp [PyData.showableAll]
  | b :: bs => by simp [PyData.showableAll, PyData.showable, showB bs]
theorem dictB : ∀ bs : List Bool, PyData.hasDictAll (bs.map PyData.bool) = false
  | [] => by simp [PyData.hasDictAll]
  | b :: bs => by simp [PyData.hasDictAll, PyData.hasDict, dictB bs]
theorem depthB : ∀ bs : List Bool, PyData.depthAll (bs.map PyData.bool) ≤ 10
  | [] => by simp [PyData.depthAll]
  | b :: bs => by
    have := depthB bs
    rw [List.map_cons, PyData.depthAll]
    simp [PyData.depth]
    omega
theorem dB_ok {bs : List Bool} (h : bs.length ≤ 1000) : RpOk (dB bs) := by
  refine ⟨rfl, ?_, ?_, ?_, ?_⟩
  · simp only [dB, PyData.showable]
    exact showB bs
  · simp only [dB, PyData.hasDict]
    exact dictB bs
  · have := depthB bs
    simp only [dB, PyData.depth]
    omega
  · have h1 := shownB bs
    have h2 := listText_len_le (PyData.shownAll (bs.map PyData.bool))
    simp only [dB, PyData.shown]
    exact sz100 (by omega)
theorem dpB {K : PySem.W.Frag} {H : Hp} : ∀ bs : List Bool, DpAll K H (bs.map V.bl) (bs.map PyData.bool)
  | [] => .nil
  | b :: bs => .cons (.bl b) (dpB bs)
theorem qeq {x y : Str} {H : Hp} {Q : VK} (h : x = y) (q : Q (.bl true) H) : Q (.bl (decide (V.str x = V.str y))) H := by
  subst h
  rw [decide_eq_true rfl]
  exact q
theorem qne {x y : Str} {H : Hp} {Q : VK} (h : x = y) (q : Q (.bl false) H) : Q (.bl (!decide (V.str x = V.str y))) H := by
  subst h
  rw [decide_eq_true rfl]
  exact q
/-- repr of a list of truths -/
theorem rp_bools {K : PySem.W.Frag} {H : Hp} {p : Addr} {Q : VK} (bs : List Bool) (hp : SqL K H p (bs.map V.bl)) (hn : bs.length ≤ 1000) (q : Q (.str (dB bs).shown) H) :
    rRp K [.ref p] H Q := ⟨.ref p, dB bs, rfl, .lst hp (dpB bs), dB_ok hn, q⟩
/-- repr(p) != repr([..]) of equal truths, and repr(p) == repr([..]) -/
theorem rp_ne {K : PySem.W.Frag} {H : Hp} {p : Addr} {n : Nat} {A B : Hp → Prop} (bs cs : List Bool) (hp : SqL K H p (bs.map V.bl)) (hn : bs.length ≤ 1000) (hs : n ≤ sizeLine) (e : bs = cs)
    (h : ∀ q, H q = none → B (upd H q (.lst (cs.map V.bl)))) :
    rRp K [.ref p] H fun x H1 => n ≤ sizeLine ∧ ∀ q, H1 q = none → rRp K [.ref q] (upd H1 q (.lst (cs.map V.bl))) fun y H2 =>
      scal x y = true ∧ if (!decide (x = y)) = true then A H2 else B H2 := by
  subst e
  refine rp_bools bs hp hn ⟨hs, fun q hq => rp_bools bs (sql_of upd_same) hn ⟨rfl, ?_⟩⟩
  rw [decide_eq_true rfl]
  exact iteF (h q hq)
theorem rp_eq {K : PySem.W.Frag} {H : Hp} {p : Addr} {n : Nat} {Q : VK} (bs cs : List Bool) (hp : SqL K H p (bs.map V.bl)) (hn : bs.length ≤ 1000) (hs : n ≤ sizeLine) (e : bs = cs)
    (h : ∀ q, H q = none → Q (.bl true) (upd H q (.lst (cs.map V.bl)))) :
    rRp K [.ref p] H fun x H1 => n ≤ sizeLine ∧ ∀ q, H1 q = none → rRp K [.ref q] (upd H1 q (.lst (cs.map V.bl))) fun y H2 =>
      scal x y = true ∧ Q (.bl (decide (x = y))) H2 := by
  subst e
  refine rp_bools bs hp hn ⟨hs, fun q hq => rp_bools bs (sql_of upd_same) hn ⟨rfl, ?_⟩⟩
  rw [decide_eq_true rfl]
  exact h q hq
end Lv

/-! what the words' defs and the law's dice promise -/
namespace Lv
open PySem PySem.Spec PyProof.Rows L2
section
variable {K : PySem.W.Frag}
/-- is_integer -/
def intV : V → Bool
  | .int i => decide ((if i < 0 then -i else i) < 10 ^ 60)
  | _ => false
def sp_is_integer : Sp := fun vs H Q _ => ∃ (v : V) (t : String), vs = [v] ∧ Kn H v t ∧ Q (.bl (intV v)) H
/-- is_name -/
def lowC (c : Nat) : Bool := !decide ([c] < (Str.ofString "a").cps.toList) && !decide ((Str.ofString "z").cps.toList < [c])
theorem range_map {α : Type} (f : Nat → α) (l : List Nat) : ((List.range l.length).map fun i => f (l[i]?.getD 0)) = l.map f := by
  apply List.ext_getElem
  · simp
  · intro i h1 h2
    have h3 : i < l.length := by simpa using h2
    simp [h3]
def isNm (z : Str) : Bool := decide ((1 : Int) ≤ z.length) && decide ((z.length : Int) ≤ 8) && !inV (.str z) [.str "gives", .str "to"] && z.cps.toList.all lowC
def nameV : V → Bool
  | .str z => isNm z
  | _ => false
def sp_is_name : Sp := fun vs H Q _ => ∃ (v : V) (t : String), vs = [v] ∧ Kn H v t ∧ (∀ z, v = .str z → z.length ≤ sizeLine) ∧ ∀ H', Same H H' → Q (.bl (nameV v)) H'
theorem kit_ntup {H : Hp} {v : V} {t : String} (k : Kn H v t) (n : t ≠ "tuple") : kitB t "tuple" = some false := by
  cases k with
  | tup h => exact absurd rfl n
  | _ => decide +kernel
/-- is_names -/
def namesV (xs : List V) (lo hi : Int) : Bool := decide (lo ≤ (xs.length : Int)) && decide ((xs.length : Int) ≤ hi) && xs.all nameV
/-- a value told to is_names: of which kind it is, and if it is a tuple, its items -/
inductive Told (H : Hp) : V → List V → Bool → Prop where
  | tup {a : Addr} {xs : List V} (h : H a = some (.tup xs)) (k : ∀ x ∈ xs, ∃ t, Kn H x t) (z : ∀ y, V.str y ∈ xs → y.length ≤ sizeLine) : Told H (.ref a) xs true
  | oth {v : V} {t : String} (k : Kn H v t) (n : t ≠ "tuple") : Told H v [] false
def sp_is_names : Sp := fun vs H Q _ => ∃ (v : V) (xs : List V) (b : Bool) (lo hi : Int), vs = [v, .int lo, .int hi] ∧ hi ≤ 1000 ∧ Told H v xs b ∧ ∀ H', Same H H' → Q (.bl (b && namesV xs lo hi)) H'
def sp_is_type : Sp := fun vs H Q _ => ∃ (v : V) (xs : List V) (b : Bool), vs = [v] ∧ Told H v xs b ∧ ∀ H', Same H H' → Q (.bl (b && namesV xs 1 401)) H'
def sp_is_front : Sp := fun vs H Q _ => ∃ (v : V) (xs : List V) (b : Bool), vs = [v] ∧ Told H v xs b ∧ ∀ H', Same H H' → Q (.bl (b && namesV xs 0 400)) H'
theorem seqIx {j n : Nat} (h : j < n) : seqIndex? (j : Int) n = some j := by
  unfold seqIndex?
  simp
  omega
/-- _law_dice: three ints, whatever they are -/
def sp_law_dice (K : PySem.W.Frag) : Sp := fun vs H Q _ => ∃ (a : Addr) (ns : List Int) (k : Nat), vs = [.ref a, .int k] ∧ SqL K H a (ns.map V.int) ∧ k ≤ 100 ∧
  ∀ p x y z, H p = none → Q (.ref p) (upd H p (.lst [.int x, .int y, .int z]))
/-- _law_roll: a number below the bound -/
def sp_law_roll : Sp := fun vs H Q _ => ∃ (d : Addr) (n : Int), vs = [.ref d, .int n] ∧ 0 < n ∧ n < 1073741824 ∧ Dc H d ∧
  ∀ r x y z : Int, 0 ≤ r → r < n → Q (.int r) (upd H d (.lst [.int x, .int y, .int z]))
/-- _law_pick: one of the items -/
def sp_law_pick (K : PySem.W.Frag) : Sp := fun vs H Q _ => ∃ (d : Addr) (v : V), vs = [.ref d, v] ∧ Dc H d ∧
  ((∃ (p : Addr) (xs : List V), v = .ref p ∧ p ≠ d ∧ SqL K H p xs ∧ xs ≠ [] ∧ xs.length < 1073741824 ∧ ∀ y H', y ∈ xs → Gr d H H' → Q y H') ∨
   ∃ z : Str, v = .str z ∧ z.length ≤ sizeLine ∧ 0 < z.length ∧ z.length < 1073741824 ∧ ∀ c H', c ∈ z.cps.toList → Gr d H H' → Q (.str ⟨#[c]⟩) H')
/-- _law_some of a text: signs of it, some of them -/
def sp_law_some : Sp := fun vs H Q _ => ∃ (d : Addr) (z : Str) (n : Int), vs = [.ref d, .str z, .int n] ∧ Dc H d ∧ 0 ≤ n ∧ z.length ≤ 1000 ∧
  ∀ p H' (ys : List V), Gr d H H' → H p = none → p ≠ d → H' p = some (.lst ys) → (∀ y ∈ ys, y ∈ sgs z) → ys.length = min n.toNat z.length → Q (.ref p) H'
def inv_some (d l p : Addr) (z : Str) (n : Int) (H : Hp) : Nat → L2.St → Hp → Prop := fun i σ H' =>
  ∃ (x5 : Option V) (ls fs : List V), σ = [some (.ref d), some (.str z), some (.int n), some (.ref l), some (.ref p), x5] ∧ Gr d H H' ∧
      H' l = some (.lst ls) ∧ H' p = some (.lst fs) ∧ ls.length + i = z.length ∧ fs.length = i ∧ (∀ y ∈ ls, y ∈ sgs z) ∧ ∀ y ∈ fs, y ∈ sgs z
abbrev abc : Str := "abcdefghijklmnopqrstuvwxyz"
def sp_law_names : Sp := fun vs H Q _ => ∃ (d : Addr) (n : Int), vs = [.ref d, .int n] ∧ Dc H d ∧ 0 ≤ n ∧
  ∀ p H' (ws : List Str), Gr d H H' → H p = none → p ≠ d → H' p = some (.lst (ws.map V.str)) → (∀ w ∈ ws, isNm w = true) → ws.length = min n.toNat 26 → Q (.ref p) H'
def inv_names (d l p : Addr) (n : Int) (ys : List V) (H : Hp) : Nat → L2.St → Hp → Prop := fun i σ H' =>
  ∃ (x4 x5 x6 x7 : Option V) (ws : List Str), σ = [some (.ref d), some (.int n), some (.ref p), some (.str abc), x4, x5, x6, x7] ∧ Gr d H H' ∧
      H' l = some (.lst ys) ∧ H' p = some (.lst (ws.map V.str)) ∧ ws.length = i ∧ ∀ w ∈ ws, isNm w = true
theorem abc_low : ∀ c ∈ abc.cps.toList, lowC c = true := by decide +kernel
theorem isNm_of {z : Str} (h1 : 1 ≤ z.length) (h2 : z.length ≤ 8) (h3 : inV (.str z) [.str "gives", .str "to"] = false) (h4 : ∀ c ∈ TL.tl z, lowC c = true) : isNm z = true := by
  unfold isNm
  rw [decide_eq_true (show (1 : Int) ≤ z.length by omega), decide_eq_true (show (z.length : Int) ≤ 8 by omega), h3, show z.cps.toList.all lowC = true from List.all_eq_true.mpr h4]
  rfl
theorem isNm_one : ∀ c ∈ abc.cps.toList, isNm (sg c) = true := by decide +kernel
def sp_law_odd_sign : Sp := fun vs H Q _ => ∃ (d : Addr), vs = [.ref d] ∧ Dc H d ∧ ∀ c H', lowC c = false → Gr d H H' → Q (.str ⟨#[c]⟩) H'
theorem pick_new {H : Hp} {d p : Addr} {xs : List V} {Q : VK} {E : XK} (hd : Dc H d) (hp : H p = none) (hne : xs ≠ []) (hl : xs.length < 1073741824)
    (q : ∀ y H', y ∈ xs → Gr d H H' → Q y H') : sp_law_pick K [.ref d, .ref p] (upd H p (.lst xs)) Q E :=
  ⟨d, _, rfl, (Gr.new hd hp).dice, .inl ⟨p, xs, rfl, hd.ne hp, sql_of upd_same, hne, hl, fun y H' hy g => q y H' hy ((Gr.new hd hp).trans g)⟩⟩
theorem roll_new {H : Hp} {d : Addr} {n : Int} {Q : VK} {E : XK} (hd : Dc H d) (h0 : 0 < n) (h1 : n < 1073741824)
    (q : ∀ (r : Int) H', 0 ≤ r → r < n → Gr d H H' → Q (.int r) H') : sp_law_roll [.ref d, .int n] H Q E :=
  ⟨d, n, rfl, h0, h1, hd, fun r x y z a b => q r _ a b (Gr.roll hd)⟩
theorem isint {H : Hp} {v : V} {t : String} {Q : VK} {E : XK} (k : Kn H v t) (q : Q (.bl (intV v)) H) : sp_is_integer [v] H Q E := ⟨v, t, rfl, k, q⟩
def sp_right : Sp := fun vs H Q _ => ∃ (d : Addr), vs = [.ref d] ∧ Dc H d ∧ ∀ H', Gr d H H' → Q (.bl true) H'
theorem isname {H : Hp} {v : V} {t : String} {Q : VK} {E : XK} (k : Kn H v t) (z : ∀ y, v = .str y → y.length ≤ sizeLine) (q : ∀ H', Same H H' → Q (.bl (nameV v)) H') : sp_is_name [v] H Q E :=
  ⟨v, t, rfl, k, z, q⟩
theorem isnameS {H : Hp} {y : Str} {Q : VK} {E : XK} (z : y.length ≤ sizeLine) (q : ∀ H', Same H H' → Q (.bl (isNm y)) H') : sp_is_name [.str y] H Q E :=
  isname (.str y) (fun x e => by cases e; exact z) q
/-- items of a tuple that are told -/
structure Itm (H : Hp) (xs : List V) : Prop where
  kn : ∀ x ∈ xs, ∃ t, Kn H x t
  sz : ∀ y, V.str y ∈ xs → y.length ≤ sizeLine
theorem Itm.nil {H : Hp} : Itm H [] := ⟨(fun x h => nomatch h), (fun y h => nomatch h)⟩
theorem Itm.cons {H : Hp} {x : V} {xs : List V} {t : String} (k : Kn H x t) (z : ∀ y, x = .str y → y.length ≤ sizeLine) (r : Itm H xs) : Itm H (x :: xs) := by
  refine ⟨fun y h => ?_, fun y h => ?_⟩
  · rcases List.mem_cons.mp h with rfl | h
    · exact ⟨t, k⟩
    · exact r.kn y h
  · rcases List.mem_cons.mp h with h | h
    · exact z y h.symm
    · exact r.sz y h
theorem Itm.str {H : Hp} {y : Str} {xs : List V} (z : y.length ≤ sizeLine) (r : Itm H xs) : Itm H (.str y :: xs) := r.cons (.str y) (fun x e => by cases e; exact z)
theorem Itm.same {H H' : Hp} {xs : List V} (s : Same H H') (r : Itm H xs) : Itm H' xs := ⟨fun x h => (r.kn x h).imp fun _ k => k.same s, r.sz⟩
theorem Itm.gr {d : Addr} {H H' : Hp} {xs : List V} (s : Gr d H H') (r : Itm H xs) : Itm H' xs := ⟨fun x h => (r.kn x h).imp fun _ k => k.gr s, r.sz⟩
theorem istype {H : Hp} {p : Addr} {xs : List V} {Q : VK} {E : XK} (h : H p = some (.tup xs)) (i : Itm H xs) (q : ∀ H', Same H H' → Q (.bl (namesV xs 1 401)) H') : sp_is_type [.ref p] H Q E :=
  ⟨_, xs, true, rfl, .tup h i.kn i.sz, fun H' s => by rw [Bool.true_and]; exact q H' s⟩
theorem isfront {H : Hp} {p : Addr} {xs : List V} {Q : VK} {E : XK} (h : H p = some (.tup xs)) (i : Itm H xs) (q : ∀ H', Same H H' → Q (.bl (namesV xs 0 400)) H') : sp_is_front [.ref p] H Q E :=
  ⟨_, xs, true, rfl, .tup h i.kn i.sz, fun H' s => by rw [Bool.true_and]; exact q H' s⟩
theorem notype {H : Hp} {v : V} {t : String} {Q : VK} {E : XK} (k : Kn H v t) (n : t ≠ "tuple") (q : ∀ H', Same H H' → Q (.bl false) H') : sp_is_type [v] H Q E :=
  ⟨_, [], false, rfl, .oth k n, fun H' s => by rw [Bool.false_and]; exact q H' s⟩
theorem nofront {H : Hp} {v : V} {t : String} {Q : VK} {E : XK} (k : Kn H v t) (n : t ≠ "tuple") (q : ∀ H', Same H H' → Q (.bl false) H') : sp_is_front [v] H Q E :=
  ⟨_, [], false, rfl, .oth k n, fun H' s => by rw [Bool.false_and]; exact q H' s⟩
theorem due_new {c : Bool} {H : Hp} {x : V} {a b : Str} {R : VK} (hx : flatV x = true) (h : ∀ H', Same H H' → R (.bl (c && !inV x [.str a, .str b])) H') :
    if c = true then 2 ≤ sizeLine ∧ ∀ p, H p = none → rIn K true x (.ref p) (upd H p (.tup [.str a, .str b])) R else R (.bl false) H := by
  cases c with
  | true => exact iteT ⟨by decide, fun p hp => ⟨p, _, rfl, .inr (sqt_of upd_same), hx, rfl, h _ (same_new hp)⟩⟩
  | false => exact iteF (h _ (Same.refl _))
theorem ne_not {a b : Str} {A B : Prop} (e : a = b) (h : B) : if (!decide (V.str a = V.str b)) = true then A else B := by
  rw [decide_eq_true (congrArg V.str e)]
  exact iteF h
theorem names1 (z : Str) : namesV [.str z] 1 401 = isNm z := by
  simp [namesV, nameV]
theorem names0 (z : Str) : namesV [.str z] 0 400 = isNm z := by
  simp [namesV, nameV]
theorem names_bad {xs : List V} {lo hi : Int} {x : V} (h : x ∈ xs) (n : nameV x = false) : namesV xs lo hi = false := by
  unfold namesV
  have : xs.all nameV = false := by
    rw [List.all_eq_false]
    exact ⟨x, h, by rw [n]; exact Bool.false_ne_true⟩
  rw [this, Bool.and_false]
theorem slT {H : Hp} {a : Addr} {xs : List V} {lo hi : Option Int} {Q : VK} (h : H a = some (.tup xs))
    (q : ∀ p H', Same H H' → H' p = some (.tup (cutV xs lo hi)) → Q (.ref p) H') : rSlA K (.ref a) lo hi H Q := by
  refine ⟨a, xs, rfl, sqt_of h, fun e => q a H (Same.refl _) ?_, fun _ p hp => q p _ (same_new hp) upd_same⟩
  rw [h]
  unfold cutV
  rw [e.1, e.2]
  simp
theorem catT {H : Hp} {a b : Addr} {xs ys : List V} {Q : VK} (ha : H a = some (.tup xs)) (hb : H b = some (.tup ys)) (hl : xs.length + ys.length ≤ sizeLine)
    (q : ∀ p H', Same H H' → H' p = some (.tup (xs ++ ys)) → Q (.ref p) H') : rCatA K (.ref a) (.ref b) H Q := by
  refine ⟨a, b, xs, ys, rfl, rfl, sqt_of ha, sqt_of hb, hl, fun e => q b H (Same.refl _) ?_, fun _ e => q a H (Same.refl _) ?_, fun _ _ p hp => q p _ (same_new hp) upd_same⟩
  · rw [hb, e, List.nil_append]
  · rw [ha, e, List.append_nil]
theorem isNm_len {z : Str} (h : isNm z = true) : 1 ≤ z.length ∧ z.length ≤ 8 := by
  unfold isNm at h
  simp only [Bool.and_eq_true, decide_eq_true_eq] at h
  omega
theorem itmW {H : Hp} : ∀ {ws : List Str}, (∀ w ∈ ws, isNm w = true) → Itm H (ws.map V.str)
  | [], _ => Itm.nil
  | w :: ws, h => (itmW fun x hx => h x (List.mem_cons_of_mem _ hx)).str (sz100 (by have := isNm_len (h w List.mem_cons_self); omega))
theorem names_all {ws : List Str} {lo hi : Int} (h : ∀ w ∈ ws, isNm w = true) (h1 : lo ≤ ws.length) (h2 : ws.length ≤ hi) : namesV (ws.map V.str) lo hi = true := by
  unfold namesV
  rw [List.length_map, decide_eq_true h1, decide_eq_true h2]
  simp only [Bool.true_and, List.all_eq_true, List.mem_map]
  rintro x ⟨w, hw, rfl⟩
  exact h w hw
theorem sum_le8 : ∀ {ws : List Str}, (∀ w ∈ ws, isNm w = true) → (ws.map (·.length)).sum ≤ 8 * ws.length
  | [], _ => Nat.le_refl _
  | w :: ws, h => by
    have h1 := sum_le8 fun x hx => h x (List.mem_cons_of_mem _ hx)
    have h2 := isNm_len (h w List.mem_cons_self)
    rw [List.map_cons, List.sum_cons, List.length_cons]
    omega
theorem names_len {xs : List V} {lo hi : Int} (h : ¬ (lo ≤ xs.length ∧ xs.length ≤ hi)) : namesV xs lo hi = false := by
  unfold namesV
  by_cases h1 : lo ≤ (xs.length : Int)
  · rw [decide_eq_false (show ¬ ((xs.length : Int) ≤ hi) from fun h2 => h ⟨h1, h2⟩), Bool.and_false, Bool.false_and]
  · rw [decide_eq_false h1, Bool.false_and, Bool.false_and]
theorem rep_len (n : Nat) (ws : List Str) : ((List.replicate n ws).flatten).length = n * ws.length := by
  induction n with
  | zero => simp
  | succ n ih => rw [List.replicate_succ, List.flatten_cons, List.length_append, ih, Nat.succ_mul]; omega
theorem cut_to {xs : List V} (k : Nat) : cutV xs none (some (k : Int)) = xs.take k := by
  unfold cutV
  rw [HT.sIx_none, HT.sIx_nat, List.drop_zero, Nat.sub_zero]
  by_cases h : k ≤ xs.length
  · rw [Nat.min_eq_left h]
  · rw [Nat.min_eq_right (by omega), List.take_of_length_le (by omega), List.take_of_length_le (by omega)]
theorem cut_mid {xs : List V} (i k : Nat) : ∀ x ∈ cutV xs (some (i : Int)) (some (k : Int)), x ∈ xs := by
  intro x hx
  unfold cutV at hx
  exact List.mem_of_mem_drop (List.mem_of_mem_take hx)
theorem cut_len {xs : List V} {lo hi : Option Int} : (cutV xs lo hi).length ≤ xs.length := by
  unfold cutV
  rw [List.length_take, List.length_drop]
  omega
theorem slTo {H : Hp} {a : Addr} {ws : List Str} {Q : VK} (k : Nat) (h : H a = some (.tup (ws.map V.str)))
    (q : ∀ p H', Same H H' → H' p = some (.tup ((ws.take k).map V.str)) → Q (.ref p) H') : rSlA K (.ref a) none (some (k : Int)) H Q := by
  refine slT h fun p H' s f => q p H' s ?_
  rw [f, cut_to, List.map_take]
end
end Lv

/-! tuples of names: equality, repr -/
namespace Lv
open PySem PySem.Spec PyProof.Rows L2
/-- a tuple of texts as data -/
def dS (ws : List Str) : PyData := .tuple (ws.map PyData.str)
theorem dpS {K : PySem.W.Frag} {H : Hp} : ∀ ws : List Str, DpAll K H (ws.map V.str) (ws.map PyData.str)
  | [] => .nil
  | w :: ws => .cons (.str w) (dpS ws)
theorem eqvS : ∀ xs ys : List Str, PyData.eqvAll (xs.map PyData.str) (ys.map PyData.str) = decide (xs = ys)
  | [], [] => by simp [PyData.eqvAll]
  | x :: xs, [] => by simp [PyData.eqvAll]
  | [], y :: ys => by simp [PyData.eqvAll]
  | x :: xs, y :: ys => by
    rw [List.map_cons, List.map_cons, PyData.eqvAll, eqvS xs ys, PyData.eqv]
    by_cases h : x = y <;> by_cases h2 : xs = ys <;> simp [h, h2]
def Pl (z : Str) : Prop := ∀ c ∈ z.cps.toList, c < 256
theorem pl_of {z : Str} (h : isNm z = true) : Pl z := by
  intro c hc
  unfold isNm at h
  simp only [Bool.and_eq_true] at h
  have := List.all_eq_true.mp h.2 c hc
  unfold lowC at this
  simp only [Bool.and_eq_true, Bool.not_eq_true', decide_eq_false_iff_not] at this
  have h2 := this.2
  by_cases hc2 : c ≤ 122
  · omega
  · exact absurd (show (Str.ofString "z").cps.toList < [c] from List.Lex.rel (show 122 < c by omega)) h2
theorem strOk_pl {z : Str} (h : Pl z) : PyData.strOk z = true := by
  show z.cps.all (· < 0x110000) = true
  rw [Array.all_eq_true']
  intro c hc
  have := h c (by simpa using hc)
  simp
  omega
theorem shapedS {ws : List Str} (h : ∀ w ∈ ws, Pl w) : SeqAt.shaped (dS ws) = true := by
  have h1 : ∀ {ws : List Str}, (∀ w ∈ ws, Pl w) → PyData.canLayAll0 (ws.map PyData.str) = true := by
    intro ws
    induction ws with
    | nil => intro _; simp [PyData.canLayAll0]
    | cons w ws ih =>
      intro h
      rw [List.map_cons, PyData.canLayAll0, ih fun x hx => h x (List.mem_cons_of_mem _ hx), PyData.canLay0, strOk_pl (h w List.mem_cons_self)]
      rfl
  have h2 : ∀ {ws : List Str}, PyData.depthAll (ws.map PyData.str) ≤ 10 := by
    intro ws
    induction ws with
    | nil => simp [PyData.depthAll]
    | cons w ws ih =>
      rw [List.map_cons, PyData.depthAll]
      simp [PyData.depth]
      omega
  unfold SeqAt.shaped
  have h3 := h2 (ws := ws)
  simp only [dS, PyData.canLay0, PyData.depth, h1 h, Bool.true_and]
  exact decide_eq_true (by omega)
section
variable {K : PySem.W.Frag} {H : Hp} {a b : Addr} {xs ys : List Str} {Q : VK}
theorem eqT (ha : SqT K H a (xs.map V.str)) (hb : SqT K H b (ys.map V.str)) (px : ∀ w ∈ xs, Pl w) (py : ∀ w ∈ ys, Pl w) (q : Q (.bl (decide (xs = ys))) H) : rEqD K (.ref a) (.ref b) H Q := by
  refine ⟨dS xs, dS ys, .tup ha (dpS xs), .tup hb (dpS ys), shapedS px, shapedS py, ?_⟩
  simp only [dS, PyData.eqv, eqvS]
  exact q
theorem neT (ha : SqT K H a (xs.map V.str)) (hb : SqT K H b (ys.map V.str)) (px : ∀ w ∈ xs, Pl w) (py : ∀ w ∈ ys, Pl w) (q : Q (.bl (!decide (xs = ys))) H) : rNeD K (.ref a) (.ref b) H Q := by
  refine ⟨dS xs, dS ys, .tup ha (dpS xs), .tup hb (dpS ys), shapedS px, shapedS py, ?_⟩
  simp only [dS, PyData.eqv, eqvS]
  exact q
end
/-! ### repr of a tuple of texts -/
theorem rlen {w : Str} (h : Pl w) : (reprText w).length ≤ 10 * w.length + 2 := StrLaws.reprText_len w fun c hc => Nat.lt_trans (h c hc) (by decide)
theorem shownS : ∀ {ws : List Str}, (∀ w ∈ ws, Pl w ∧ w.length ≤ 100) → ((PyData.shownAll (ws.map PyData.str)).map (·.length)).sum + 2 * (PyData.shownAll (ws.map PyData.str)).length ≤ 1004 * ws.length
  | [], _ => by simp [PyData.shownAll]
  | w :: ws, h => by
    have h1 := shownS fun x hx => h x (List.mem_cons_of_mem _ hx)
    have h2 := h w List.mem_cons_self
    have h3 := rlen h2.1
    rw [List.map_cons, PyData.shownAll, List.map_cons, List.sum_cons, List.length_cons, List.length_cons, PyData.shown]
    omega
theorem dS_ok {ws : List Str} (hn : ws.length ≤ 1000) (h : ∀ w ∈ ws, Pl w ∧ w.length ≤ 100) : RpOk (dS ws) := by
  have h1 : ∀ ws : List Str, PyData.showableAll (ws.map PyData.str) = true := by
    intro ws
    induction ws with
    | nil => simp [PyData.showableAll]
    | cons w ws ih => simp [PyData.showableAll, PyData.showable, ih]
  have h2 : ∀ ws : List Str, PyData.hasDictAll (ws.map PyData.str) = false := by
    intro ws
    induction ws with
    | nil => simp [PyData.hasDictAll]
    | cons w ws ih => simp [PyData.hasDictAll, PyData.hasDict, ih]
  have h3 : ∀ ws : List Str, PyData.depthAll (ws.map PyData.str) ≤ 10 := by
    intro ws
    induction ws with
    | nil => simp [PyData.depthAll]
    | cons w ws ih =>
      rw [List.map_cons, PyData.depthAll]
      simp [PyData.depth]
      omega
  refine ⟨rfl, ?_, ?_, ?_, ?_⟩
  · simp only [dS, PyData.showable]
    exact h1 ws
  · simp only [dS, PyData.hasDict]
    exact h2 ws
  · have := h3 ws
    simp only [dS, PyData.depth]
    omega
  · have h4 := shownS h
    have h5 := tupleText_len_le (PyData.shownAll (ws.map PyData.str))
    simp only [dS, PyData.shown]
    exact Nat.le_trans (show _ ≤ 1004003 by omega) (by decide)
theorem rp_tup {K : PySem.W.Frag} {H : Hp} {p : Addr} {Q : VK} {ws : List Str} (hp : SqT K H p (ws.map V.str)) (hn : ws.length ≤ 1000) (h : ∀ w ∈ ws, Pl w ∧ w.length ≤ 100) (q : Q (.str (dS ws).shown) H) :
    rRp K [.ref p] H Q := ⟨.ref p, dS ws, rfl, .tup hp (dpS ws), dS_ok hn h, q⟩
theorem nmW {ws : List Str} (h : ∀ w ∈ ws, isNm w = true) : ∀ w ∈ ws, Pl w ∧ w.length ≤ 100 := fun w hw => ⟨pl_of (h w hw), by have := isNm_len (h w hw); omega⟩
theorem plW {ws : List Str} (h : ∀ w ∈ ws, isNm w = true) : ∀ w ∈ ws, Pl w := fun w hw => pl_of (h w hw)
end Lv

/-! what the defs over types and fronts promise -/
namespace Lv
open PySem PySem.Spec PyProof.Rows L2
structure Ty (xs : List Str) : Prop where
  nm : ∀ w ∈ xs, isNm w = true
  lo : 1 ≤ xs.length
  hi : xs.length ≤ 401
structure Fn (ys : List Str) : Prop where
  nm : ∀ w ∈ ys, isNm w = true
  hi : ys.length ≤ 400
theorem Ty.v {xs : List Str} (h : Ty xs) : namesV (xs.map V.str) 1 401 = true := names_all h.nm (by have := h.lo; omega) (by have := h.hi; omega)
theorem Fn.v {xs : List Str} (h : Fn xs) : namesV (xs.map V.str) 0 400 = true := names_all h.nm (by omega) (by have := h.hi; omega)
abbrev blank : Str := " "
abbrev none' : Str := ""
def tx (xs : List Str) : Str := Txt.join blank xs
def begW (xs ys : List Str) : Bool := decide (ys.length < xs.length) && decide (xs.take ys.length = ys)
def sp_words_of : Sp := fun vs H Q _ => ∃ (v : V) (t : String), vs = [v] ∧ Kn H v t ∧ ((∀ z, v ≠ .str z) → Q .non H) ∧
  ∀ z, v = .str z → z.length + 2 ≤ sizeLine ∧ (none' ∈ Txt.split z blank → ∀ H', Same H H' → Q .non H') ∧
    (none' ∉ Txt.split z blank → ∀ p H', Same H H' → H p = none → H' p = some (.lst ((Txt.split z blank).map V.str)) → Q (.ref p) H')
def sp_begins_in : Sp := fun vs H Q _ => ∃ (a b : Addr) (xs ys : List Str), vs = [.ref a, .ref b] ∧ H a = some (.tup (xs.map V.str)) ∧ H b = some (.tup (ys.map V.str)) ∧ (∀ w ∈ xs, Pl w) ∧ (∀ w ∈ ys, Pl w) ∧
  ∀ H', Same H H' → Q (.bl (begW xs ys)) H'
def sp_require : Sp := fun vs H Q _ => ∃ (a b : Addr) (xs ys : List Str), vs = [.ref a, .ref b] ∧ H a = some (.tup (xs.map V.str)) ∧ H b = some (.tup (ys.map V.str)) ∧ Ty xs ∧ Fn ys ∧ ∀ H', Same H H' → Q .non H'
def sp_begins : Sp := fun vs H Q _ => ∃ (a b : Addr) (xs ys : List Str), vs = [.ref a, .ref b] ∧ H a = some (.tup (xs.map V.str)) ∧ H b = some (.tup (ys.map V.str)) ∧ Ty xs ∧ Fn ys ∧ ∀ H', Same H H' → Q (.bl (begW xs ys)) H'
def sp_tail : Sp := fun vs H Q _ => ∃ (a b : Addr) (xs ys : List Str), vs = [.ref a, .ref b] ∧ H a = some (.tup (xs.map V.str)) ∧ H b = some (.tup (ys.map V.str)) ∧ Ty xs ∧ Fn ys ∧ begW xs ys = true ∧
  ∀ p H', Same H H' → H' p = some (.tup ((xs.drop ys.length).map V.str)) → Q (.ref p) H'
def sp_write_type : Sp := fun vs H Q _ => ∃ (a : Addr) (xs : List Str), vs = [.ref a] ∧ H a = some (.tup (xs.map V.str)) ∧ Ty xs ∧ ∀ H', Same H H' → Q (.str (tx xs)) H'
def sp_read_type : Sp := fun vs H Q _ => ∃ (xs : List Str), vs = [.str (tx xs)] ∧ Ty xs ∧ ∀ p H', Same H H' → H' p = some (.tup (xs.map V.str)) → Q (.ref p) H'
theorem in_empty (l : List Str) : inV (.str none') (l.map V.str) = decide (none' ∈ l) := by
  unfold inV
  rw [List.any_map]
  induction l with
  | nil => simp
  | cons a l ih =>
    rw [List.any_cons, ih]
    show (eqV (.str a) (.str none') || _) = _
    by_cases h : a = none'
    · subst h
      simp [eqV]
    · have h' : ¬ none' = a := fun e => h e.symm
      by_cases h2 : none' ∈ l <;> simp [eqV, h, h', h2]
theorem cut_from {xs : List V} (k : Nat) : cutV xs (some (k : Int)) none = xs.drop k := by
  unfold cutV
  rw [HT.sIx_none, HT.sIx_nat]
  by_cases h : k ≤ xs.length
  · rw [Nat.min_eq_left h, List.take_of_length_le (by rw [List.length_drop]; omega)]
  · rw [Nat.min_eq_right (by omega), List.drop_of_length_le (Nat.le_refl _), List.drop_of_length_le (by omega)]
    simp
theorem slFrom {K : PySem.W.Frag} {H : Hp} {a : Addr} {ws : List Str} {Q : VK} (k : Nat) (h : H a = some (.tup (ws.map V.str)))
    (q : ∀ p H', Same H H' → H' p = some (.tup ((ws.drop k).map V.str)) → Q (.ref p) H') : rSlA K (.ref a) (some (k : Int)) none H Q := by
  refine slT h fun p H' s f => q p H' s ?_
  rw [f, cut_from, List.map_drop]
theorem tx_len {xs : List Str} (h : Ty xs) : (tx xs).length ≤ 10000 := by
  have hj : ∀ ws : List Str, (∀ w ∈ ws, isNm w = true) → (TL.joinL (TL.tl blank) (ws.map TL.tl)).length ≤ 9 * ws.length := by
    intro ws
    induction ws with
    | nil => intro _; simp [TL.joinL]
    | cons w ws ih =>
      intro h
      have h1 := isNm_len (h w List.mem_cons_self)
      have h2 := ih fun x hx => h x (List.mem_cons_of_mem _ hx)
      rw [len_tl] at h1
      cases ws with
      | nil =>
        show (TL.tl w).length ≤ 9
        omega
      | cons v r =>
        show (TL.tl w ++ (TL.tl blank ++ TL.joinL (TL.tl blank) ((v :: r).map TL.tl))).length ≤ _
        rw [List.length_append, List.length_append, List.length_cons]
        have : (TL.tl blank).length = 1 := rfl
        omega
  have h1 := hj xs h.nm
  have h2 := h.hi
  rw [len_tl]
  unfold tx
  rw [TL.join_eq, TL.tl_join]
  omega
theorem nm_noblank {w : Str} (h : isNm w = true) : 32 ∉ TL.tl w := by
  intro hc
  unfold isNm at h
  simp only [Bool.and_eq_true] at h
  have := List.all_eq_true.mp h.2 32 hc
  revert this
  decide +kernel
theorem tx_split {xs : List Str} (h : Ty xs) : Txt.split (tx xs) blank = xs := by
  refine TL.split_join (s := 32) (S := []) rfl (by decide +kernel) ?_ fun p hp => nm_noblank (h.nm p hp)
  intro e
  have := h.lo
  rw [e] at this
  simp at this
theorem tx_ne {xs : List Str} (h : Ty xs) : none' ∉ Txt.split (tx xs) blank := by
  rw [tx_split h]
  intro hm
  exact absurd (h.nm _ hm) (by decide +kernel)
end Lv

/-! comprehensions with a test -/
namespace Lv
open PySem PySem.Spec PyProof.Rows L2
section
variable {J : It} {G : Hp → Prop} {g : TG} {tt : TT} {te : TE} {vs : List Nat} {σ : L2.St} {H1 : Hp} {Q : VK}
theorem lc_filt {xs : List V} (w : Walk J xs.length G (YAt xs)) (P : V → Bool) (hn : xs.length ≤ sizeLine) (hG : ∀ H, Same H1 H → G H)
    (hs : ∀ x H, x ∈ xs → Same H1 H → ∀ (C : VK) (C' : Hp → Prop), (P x = true → ∀ H4, Same H H4 → C x H4) → (P x = false → ∀ H4, Same H H4 → C' H4) →
      g x (wipe σ vs) H fun σ2 H2 => wipe σ2 vs = wipe σ vs ∧ tt σ2 H2 fun b H3 => if b = true then te σ2 H3 C else C' H3)
    (hd : ∀ H D, Same H1 H → H1 D = none → H D = some (.lst (xs.filter P)) → Q (.ref D) H) : LcB J g tt te vs σ Q H1 := by
  intro D hD
  refine lc_it w (fun i H => Same H1 H ∧ H D = some (.lst ((xs.take i).filter P))) ⟨same_new hD, upd_same⟩ (fun i H _ h => hG H h.1) ?_ (fun H h => hd H D h.1 hD ?_)
  · rintro i x H H' hi ⟨hS, hL⟩ ⟨rfl, hx⟩
    have hlen : ((xs.take i).filter P).length < sizeLine := Nat.lt_of_le_of_lt (List.length_filter_le ..) (by rw [List.length_take]; omega)
    refine hs x H' (List.mem_of_getElem? hx) hS _ _ (fun hp H4 h4 => ⟨_, h4 _ _ hL, hlen, same_mut (hS.trans h4) hD, ?_⟩) (fun hp H4 h4 => ⟨hS.trans h4, ?_⟩)
    · rw [upd_same, List.take_add_one, hx, List.filter_append]
      simp [hp]
    · rw [h4 _ _ hL, List.take_add_one, hx, List.filter_append]
      simp [hp]
  · have := h.2
    rw [List.take_length] at this
    exact this
end
theorem ixt_nat {K : PySem.W.Frag} {H : Hp} {a : Addr} {xs : List V} {j : Nat} {v : V} {Q : VK} (h : SqT K H a xs) (e : xs[j]? = some v) (q : Q v H) :
    rIxT K (.ref a) (.int j) H Q := ⟨a, xs, j, v, rfl, rfl, h, atI_nat e, q⟩
theorem catL {H : Hp} {a b : Addr} {xs ys : List V} {Q : VK} (ha : H a = some (.lst xs)) (hb : H b = some (.lst ys)) (hl : xs.length + ys.length ≤ sizeLine)
    (q : ∀ p, H p = none → Q (.ref p) (upd H p (.lst (xs ++ ys)))) : rCat (.ref a) (.ref b) H Q := ⟨a, b, xs, ys, rfl, rfl, ha, hb, hl, q⟩
end Lv

/-! laws whose defs make lambdas: the tables of their code objects are told of -/
namespace Lv
open PySem PySem.Spec PyProof.Rows L2 LamX
/-- the law's call; cs: the code objects and their tables -/
theorem lawGT {P : Program} {w : World} {K : PySem.W.Frag} {mg mb : Str → Option Value} {k : Nat} {fa a : Addr} {cs : List (Addr × Addr)}
    {fd : FuncData} {x : Str} {sp : Sp} {s₁ : Shared} {vs : List Value} {ns : List Int}
    (hK : K.In s₁.heap) (hG : s₁.heap.Ns mainGlobals mg) (hB : s₁.heap.Ns builtinsNs mb)
    (hB2 : ∀ x : Str, x ≠ "__name__" → mb x = bootBuiltins x) (hL : s₁.heap.NoLimit) (hg : s₁.gens = #[])
    (hT : ∀ p ∈ cs, s₁.heap.get? p.2 = some { cls := .none, data := .fields #[] }) (nT : ∀ p ∈ cs, K.lookup p.2 = none)
    (hC : ∀ p ∈ cs, PySem.W.CodeHd s₁.heap p.1 p.2)
    (hbm : ∃ (bm : Addr) (ob : Obj), mg "__builtins__" = some (.ref bm) ∧ bm ≠ builtinsNs ∧ s₁.heap.get? bm = some ob ∧
      ob.cls = .type "module" ∧ ob.dict = some builtinsNs ∧ ob.data = .plain)
    (ha : s₁.heap.get? a = some { cls := .type "list", data := .seq vs.toArray }) (hi : IntsAre vs ns)
    (hl : ns.length ≤ sizeLine) (hr : Room k callerA)
    (F : ∀ base : Heap, K.In base → base.Ns mainGlobals mg → (∀ p ∈ cs, TabB base mg p.1 p.2) → FnG P w K mg base CX0 k fa fd [x] sp)
    (hbind : ∀ (s : Shared) (u : Value), BindsTo s fd ⟨[u], []⟩ [(x, u)])
    (hsp : ∀ H : Hp, (∀ p ∈ cs, H p.2 = some (.tbl #[])) → SqL K H a (ns.map V.int) → sp [.ref a] H (fun v _ => v = .bl true) E0) :
    codeAny (model P w) callerA (.call (.ref fa) ⟨[.ref a], []⟩)
      (fun r s' => r = .ok (.ret (.bool true)) ∧ OldK s₁.heap s'.heap ∧ s'.os = s₁.os ∧ AllBare s'.gens) s₁ := by
  have rv := vals_ints hi
  have lenV := hi.length
  let o₁ : Obj := { cls := .type "list", data := .seq vs.toArray }
  have atT : ∀ b, b ∈ cs.map (·.2) → s₁.heap.get? b = some { cls := .none, data := .fields #[] } := by
    intro b hb
    obtain ⟨p, hp, rfl⟩ := List.mem_map.mp hb
    exact hT p hp
  -- the heap that is told of: the tables, and the script where it is none of the text's own
  let H : Hp := fun b => if b ∈ cs.map (·.2) then some (.tbl #[]) else
    if b = a ∧ K.lookup a = none then some (.frz o₁ (.lst (ns.map V.int))) else none
  have HT : ∀ b, b ∈ cs.map (·.2) → H b = some (.tbl #[]) := fun b hb => if_pos hb
  have Hc : ∀ b u, H b = some u → (b ∈ cs.map (·.2) ∧ u = .tbl #[]) ∨
      (b = a ∧ K.lookup a = none ∧ b ∉ cs.map (·.2) ∧ u = .frz o₁ (.lst (ns.map V.int))) := by
    intro b u e
    by_cases hb : b ∈ cs.map (·.2)
    · rw [HT b hb] at e
      cases e
      exact .inl ⟨hb, rfl⟩
    · have e' : (if b = a ∧ K.lookup a = none then some (HO.frz o₁ (.lst (ns.map V.int))) else none) = some u := (if_neg hb).symm.trans e
      by_cases h2 : b = a ∧ K.lookup a = none
      · rw [if_pos h2] at e'
        cases e'
        exact .inr ⟨h2.1, h2.2, hb, rfl⟩
      · rw [if_neg h2] at e'
        cases e'
  have an : a ∉ cs.map (·.2) := fun z => by
    have q := atT a z
    rw [ha] at q
    exact nomatch congrArg Obj.data (Option.some.inj q)
  have hS : SqL K H a (ns.map V.int) := by
    cases hk : K.lookup a with
    | none => exact .inl (.inr ⟨o₁, (if_neg an).trans (if_pos ⟨rfl, hk⟩)⟩)
    | some o =>
      have e := hK a o hk
      rw [ha] at e
      cases e
      exact .inr ⟨_, vs.toArray, _, hk, rfl, rfl, rfl, by rw [List.size_toArray, lenV]; exact hl, by simpa using rv⟩
  have hok : HOk P w H s₁.heap := by
    intro b u e
    rcases Hc b u e with ⟨hb, rfl⟩ | ⟨rfl, _, _, rfl⟩
    · exact atT b hb
    · exact ⟨ha, by rw [List.length_map]; exact hl, vs, _, rv, ha⟩
  -- what is neither a list nor an empty record is not told of
  have free : ∀ {b : Addr} {o : Obj}, s₁.heap.get? b = some o → (∀ z n, o.data ≠ .seq z n) → o.data ≠ .fields #[] → H b = none := by
    intro b o e h1 h2
    cases q : H b with
    | none => rfl
    | some u =>
      rcases Hc b u q with ⟨hb, _⟩ | ⟨rfl, _⟩
      · rw [atT b hb] at e
        cases e
        exact absurd rfl h2
      · rw [ha] at e
        cases e
        exact absurd rfl (h1 _ _)
  have ns2 : ∀ {b : Addr} {m : Str → Option Value}, s₁.heap.Ns b m → (hidT s₁.heap H).Ns b m := by
    rintro b m ⟨o, es, ep, e, d, r⟩
    exact ⟨o, es, ep, hidT_get e (free e (fun z n q => by rw [d] at q; cases q) (fun q => by rw [d] at q; cases q)), d, r⟩
  have hKb : K.In (hidT s₁.heap H) := by
    intro b o e
    refine hidT_get (hK b o e) ?_
    cases q : H b with
    | none => rfl
    | some u =>
      rcases Hc b u q with ⟨hb, _⟩ | ⟨rfl, z, _⟩
      · obtain ⟨p, hp, rfl⟩ := List.mem_map.mp hb
        rw [nT p hp] at e
        cases e
      · rw [z] at e
        cases e
  have hM : Mod K mg (hidT s₁.heap H) := by
    refine ⟨hKb, ns2 hG, ⟨mb, ns2 hB, hB2⟩, ?_⟩
    obtain ⟨mc, h1, h2⟩ := hL
    exact ⟨mc, ns2 h1, h2⟩
  have TB : ∀ p ∈ cs, TabB (hidT s₁.heap H) mg p.1 p.2 := by
    intro p hp
    have hTp := hT p hp
    refine ⟨?_, ?_, ?_⟩
    · obtain ⟨o, us, file, tf, flags, tg, inF, text, tt, e1, r1, r2, rest⟩ := hC p hp
      refine ⟨o, us, file, tf, flags, tg, inF, text, tt, hidT_get e1 (free e1 ?_ ?_), r1, r2, rest⟩
      · intro z n q
        rw [r2] at q
        cases q
      · intro q
        rw [r2] at q
        cases q
        simp at rest
    · obtain ⟨bm, ob, b1, b2, b3, b4, b5, b6⟩ := hbm
      refine ⟨bm, ob, b1, b2, ?_, ?_, hidT_get b3 (free b3 ?_ ?_), b4, b5, b6⟩
      · rintro rfl
        obtain ⟨o, es, ep, e, hd, _⟩ := hG
        rw [e] at b3
        cases b3
        rw [hd] at b6
        cases b6
      · rintro rfl
        rw [hTp] at b3
        cases b3
        cases b6
      · intro z n q
        rw [b6] at q
        cases q
      · intro q
        rw [b6] at q
        cases q
    · intro z
      obtain ⟨o, es, ep, e, hd, _⟩ := hG
      rw [z, hTp] at e
      cases e
      cases hd
  have e0 : Env0 P w K mg (hidT s₁.heap H) callerA [] s₁ H := by
    refine ⟨rfl, hM, fun b o e => of_hidT e, Nat.le_of_eq (hidT_size _ _), trivial, ?_, hok, .of_eq hg⟩
    intro b hb
    exact absurd (show b ∈ ([] : List Addr) from hb) (by simp)
  have hH : ∀ p ∈ cs, H p.2 = some (.tbl #[]) := fun p hp => HT _ (List.mem_map.mpr ⟨p, hp, rfl⟩)
  have run := (F _ hKb (ns2 hG) TB).run callerA rfl [] s₁ H ⟨[.ref a], []⟩ [.ref a] [.ref a] _ _ hr e0
    (hbind s₁ (.ref a)) (.cons rfl .nil) (hsp H hH hS)
  refine codeAny_mono run ?_
  rintro (er | (_ | _ | _ | u)) s' h
  · exact False.elim h
  · exact False.elim h
  · exact False.elim h
  · exact False.elim h
  obtain ⟨v, H', os, bare, un, hok', r', q⟩ := h
  obtain rfl : v = V.bl true := q
  obtain rfl : u = Value.bool true := r'
  have old : ∀ b o, b ∉ cs.map (·.2) → s₁.heap.get? b = some o → s'.heap.get? b = some o := by
    intro b o nb e
    cases q : H b with
    | none => exact un.keep b o e q (fun z => absurd (show b ∈ ([] : List Addr) from z) (by simp)) (by simp)
    | some u =>
      rcases Hc b u q with ⟨hb, _⟩ | ⟨rfl, _, _, rfl⟩
      · exact absurd hb nb
      · obtain ⟨e1, _⟩ := hok b _ q
        obtain ⟨e2, _⟩ := hok' b _ (un.frzs b o₁ _ q)
        rw [e] at e1
        cases e1
        exact e2
  have grown : ∀ p ∈ cs, ∃ more : Array Value, s'.heap.get? p.2 = some { cls := .none, data := .fields more } := by
    intro p hp
    obtain ⟨more, z⟩ := un.tbls p.2 #[] (hH p hp)
    exact ⟨_, hok' p.2 _ z⟩
  refine ⟨rfl, ⟨?_, ?_⟩, os, bare⟩
  · intro b o e
    by_cases hb : b ∈ cs.map (·.2)
    · obtain ⟨p, hp, rfl⟩ := List.mem_map.mp hb
      obtain ⟨more, hm⟩ := grown p hp
      rw [hT p hp] at e
      cases e
      exact .inr (.inl ⟨((hC p hp).tab (hT p hp)).isCodeTable, rfl, #[], more, rfl, by rw [Array.empty_append]; exact hm⟩)
    · exact .inl (old b o hb e)
  · intro b o e
    by_cases hb : b ∈ cs.map (·.2)
    · obtain ⟨p, hp, rfl⟩ := List.mem_map.mp hb
      obtain ⟨more, hm⟩ := grown p hp
      exact ⟨_, hm⟩
    · exact ⟨o, old b o hb e⟩
/-- the code object and the table of the def that x names -/
def TabOf (mg : Str → Option Value) (h : Heap) (x : Str) : Prop := ∃ (f : Addr) (o : Obj) (fd : FuncData) (c P : Addr), mg x = some (.ref f) ∧ h.get? f = some o ∧ o.data = .func fd ∧ fd.code = .ref c ∧
  PySem.W.CodeHd h c P ∧ h.get? P = some { cls := .none, data := .fields #[] }
theorem walkGT {l : PySem.W.OpenLaw} {n k : Nat} {q : Program} {loose : List Str}
    {XP : (Str → Option Value) → Heap → Prop} {YP : World → Heap → Prop} {d : DefRec}
    {K : Params → PySem.W.Frag} {sp : PySem.W.Frag → List (Addr × Addr) → Sp} {x : Str}
    (hn : l.most = some n) (hn2 : n ≤ sizeLine) (hdf : d.params.defaults = []) (hr : Room k callerA)
    (hY : ∀ (w : World) (h : Heap), YP w h → (K w.params).In h)
    (F : ∀ (w : World) (mg : Str → Option Value) (fa : Addr) (h : Heap), (K w.params).In h →
      h.Ns mainGlobals mg → mg d.name = some (.ref fa) → (∀ y, ((recsOf q).any fun e => e.name == y) = true → TabOf mg h y) →
      ∃ (fd : FuncData) (cs : List (Addr × Addr)), (∀ p ∈ cs, h.get? p.2 = some { cls := .none, data := .fields #[] }) ∧
        (∀ p ∈ cs, (K w.params).lookup p.2 = none) ∧ (∀ p ∈ cs, PySem.W.CodeHd h p.1 p.2) ∧
        (∀ (s : Shared) (u : Value), BindsTo s fd ⟨[u], []⟩ [(x, u)]) ∧
        ∀ base : Heap, (K w.params).In base → base.Ns mainGlobals mg → (∀ p ∈ cs, TabB base mg p.1 p.2) →
          FnG l.prog w (K w.params) mg base CX0 k fa fd [x] (sp (K w.params) cs))
    (hsp : ∀ (K : PySem.W.Frag) (cs : List (Addr × Addr)) (H : Hp) (a : Addr) (ns : List Int), ns.length ≤ n →
      (∀ p ∈ cs, H p.2 = some (.tbl #[])) → SqL K H a (ns.map V.int) → sp K cs [.ref a] H (fun v _ => v = .bl true) E0) :
    PySem.W.WalkO q loose XP YP l.row.toRowW d [] (fun f vs => PySem.call f vs) := by
  refine Att.attach_call hn hdf ?_
  intro w s₀ s₁ mg mb fa o pm cd doc a vs ns G Y ho hd hcd hmg hobj hints hlen hg
  have tab : ∀ y, ((recsOf q).any fun e => e.name == y) = true → TabOf mg s₁.heap y := by
    intro y hy
    obtain ⟨dL, hm, hn1⟩ := List.any_eq_true.mp hy
    obtain ⟨f, o', fd', c, P, h1, h2, h3, h4, h5, h6⟩ := G.T.tab dL hm
    rw [beq_iff_eq.mp hn1] at h1
    exact ⟨f, o', fd', c, P, h1, h2, h3, h4, PySem.W.CodeHd.of h5 h6, h6.2⟩
  obtain ⟨fd, cs, t1, t2, t3, hb, hF⟩ := F w mg fa _ (hY w _ Y) G.T.g hmg tab
  exact lawGT (hY w _ Y) G.T.g G.T.b G.T.builtins G.T.nolimit hg t1 t2 t3 G.T.bmain hobj hints (Nat.le_trans hlen hn2) hr hF hb
    (fun H hH hS => hsp _ cs H a ns hlen hH hS)
section
variable {P : Program} {w : World} {K : PySem.W.Frag} {mg : Str → Option Value} {base : Heap}
/-- okG, the code object's address told -/
theorem okGL {x qual : Str} {st : Stmt} {f c : Addr} {fd : FuncData} {N ps : List Str} {k : Nat} {sp : Sp}
    (F : Fun K x qual st f fd) (hc : fd.code = .ref c) (S : FnScope N ps (defScope st))
    (len : ∀ vs H Q E, sp vs H Q E → vs.length = ps.length)
    (hbody : ∀ (A : Around) (outer : List Env) (s : Shared) (H : Hp) (vs : List V) (Q : VK) (E : XK),
      (A.deeper (envOfC qual (defScope st) s.heap.objs.size f (.ref c))).guards = some [] →
      Room k (A.deeper (envOfC qual (defScope st) s.heap.objs.size f (.ref c))) → sp vs H Q E →
      ∃ t, PSs (cxOf CX0 P w K mg base N qual (defScope st) f (.ref c) A outer s H E).nox (defBody st) t ∧
        t { nx := fun _ H' => Q .non H', rt := Q } (L2.start N vs) H) :
    FnG P w K mg base CX0 (k + 1) f fd ps sp := by
  obtain ⟨oc, od, kV, doc, pm, an, cdv, ct, osl, rfl, lk, hcd⟩ := F.ex
  have e : cdv = .ref c := hc
  subst e
  have F' : Fun K x qual st f (PySem.W.fnOf x qual (defArgs st) (defBody st) (defScope st) .none kV doc pm an (.ref c) ct) := ⟨⟨oc, od, kV, doc, pm, an, .ref c, ct, osl, rfl, lk, hcd⟩, F.kp⟩
  refine ⟨len, fun A hgd outer s H args us vs Q E hr e0 hb hv hsp => ?_⟩
  have kept := fun b o (z : base.get? b = some o) => (e0.bs b o z).1
  have hK : K.In s.heap := e0.mod.kin.keeps kept
  have hL : s.heap.NoLimit := e0.mod.nolimit.keeps kept
  refine codeAny_call_function hr.depth (hK _ _ lk) rfl S.co S.gen rfl (PySem.W.codeRec_of hK hcd)
    (hb _ _ _ _ ?_)
  have kinds : ∀ y ∈ ps.zip us, (defScope st).names.lookup y.1 = some .local ∨
      ((defScope st).names.lookup y.1 = some .cell ∧
        ((cellsFrom (s.heap.objs.size + 1) (defScope st).names []).lookup y.1).isSome = true) := by
    rintro ⟨n, v⟩ hy
    rcases S.par n (List.of_mem_zip hy).1 with z | z
    · exact .inl z
    · exact .inr ⟨z, PySem.W.cellsFrom_some _ _ _ (.inl z)⟩
  refine wpAny_newFunctionEnv_cells S.kind kinds ?_
  rintro env rfl s1 x
  refine ⟨hL.keeps x.toInCall.keep, codeAny_func ?_⟩
  obtain ⟨t, ht, hq⟩ := hbody A outer s H vs Q E hgd (hr.deeper _) hsp
  have I := inv_start (CX := CX0) (E := E) S hr.hd e0 (len _ _ _ _ hsp) hv x
  refine wpAny_mono (ht.nox.run [] s1 (L2.start N vs) H _ I hq) ?_ (fun e s' z => z)
  rintro (_ | _ | _ | u) s' hs
  · obtain ⟨σ', H', J, q⟩ := hs
    exact ⟨V.non, H', J.os, J.bare, J.base, J.hok, (rfl : L2.RelV V.non Value.none), q⟩
  · obtain ⟨_, _, _, q⟩ := hs
    exact False.elim q
  · obtain ⟨_, _, _, q⟩ := hs
    exact False.elim q
  · obtain ⟨v, σ', H', J, rv, q⟩ := hs
    exact ⟨v, H', J.os, J.bare, J.base, J.hok, rv, q⟩
end
/-! ### heaps with tables -/
theorem tab_gr {H H' : Hp} {d : Addr} {T : List (Addr × Str)} (t : Tabs T H) (g : Gr d H H') : Tabs T H' := by
  intro p hp
  obtain ⟨ps, h1, h2, h3⟩ := t p hp
  obtain ⟨x, y, z, hd⟩ := g.pre
  have n1 : p.1 ≠ d := fun e => by
    rw [e, hd] at h1
    cases h1
  refine ⟨ps, g.keep _ _ n1 h1, h2, fun pos cv hc => ?_⟩
  obtain ⟨c, e, hcO⟩ := h3 pos cv hc
  refine ⟨c, e, g.keep _ _ (fun e => ?_) hcO⟩
  rw [e, hd] at hcO
  unfold CodeO at hcO
  cases hcO
/-- all but dice and tables is kept; the dice are dice, the tables tables -/
structure Gt (T : List (Addr × Str)) (d : Addr) (H H' : Hp) : Prop where
  pre : Dc H d
  keep : ∀ a o, a ≠ d → (∀ ps, o ≠ .tbl ps) → H a = some o → H' a = some o
  dice : Dc H' d
  tabs : Tabs T H'
section
variable {T : List (Addr × Str)} {d : Addr} {H H1 H2 : Hp}
theorem Gt.refl (h : Dc H d) (t : Tabs T H) : Gt T d H H := ⟨h, fun _ _ _ _ h => h, h, t⟩
theorem Gt.trans (a : Gt T d H H1) (b : Gt T d H1 H2) : Gt T d H H2 := ⟨a.pre, fun x o n z h => b.keep x o n z (a.keep x o n z h), b.dice, b.tabs⟩
theorem Gt.gr (a : Gt T d H H1) (g : Gr d H1 H2) : Gt T d H H2 := ⟨a.pre, fun x o n z h => g.keep x o n (a.keep x o n z h), g.dice, tab_gr a.tabs g⟩
theorem Gt.same (a : Gt T d H H1) (s : Same H1 H2) : Gt T d H H2 := a.gr (Gr.same a.dice s)
theorem Dc.extN (h : Dc H d) (e : ExtN H H1) : Dc H1 d := by
  obtain ⟨x, y, z, q⟩ := h
  exact ⟨x, y, z, e _ _ q fun ps e => nomatch e⟩
theorem Gt.ext (a : Gt T d H H1) (e : ExtN H1 H2) (t : Tabs T H2) : Gt T d H H2 := ⟨a.pre, fun x o n z h => e _ _ (a.keep x o n z h) z, a.dice.extN e, t⟩
theorem Gt.tup (a : Gt T d H H1) {p : Addr} {xs : List V} (h : H p = some (.tup xs)) : H1 p = some (.tup xs) := a.keep _ _ (a.pre.ne_tup h) (fun ps e => nomatch e) h
theorem Gt.lst (a : Gt T d H H1) {p : Addr} {xs : List V} (ne : p ≠ d) (h : H p = some (.lst xs)) : H1 p = some (.lst xs) := a.keep _ _ ne (fun ps e => nomatch e) h
end
/-- a table that is told of, by what the text has written -/
theorem tab_at {K : PySem.W.Frag} {h : Heap} {mg : Str → Option Value} {x : Str} {f c P : Addr} {oc e : Value} {od dd : Option Addr} {fd : FuncData} {osl sl : Array (Option Value)} {vs : Array Value}
    (hK : K.In h) (hm : mg x = some (.ref f)) (l : K.lookup f = some ⟨oc, od, .func fd, osl⟩) (hc : fd.code = .ref c) (lc : K.lookup c = some ⟨e, dd, .fields vs, sl⟩) (hv : vs[11]? = some (.ref P)) (t : TabOf mg h x) :
    h.get? P = some { cls := .none, data := .fields #[] } ∧ PySem.W.CodeHd h c P := by
  obtain ⟨f', o, fd', c', P', h1, h2, h3, h4, h5, h6⟩ := t
  rw [hm] at h1
  cases h1
  rw [hK _ _ l] at h2
  cases h2
  cases h3
  rw [hc] at h4
  cases h4
  have h5' := h5
  obtain ⟨o, us, file, tf, flags, tg, inF, text, tt, e1, r1, r2, r3, rest⟩ := h5'
  rw [hK _ _ lc] at e1
  cases e1
  cases r2
  rw [hv] at r3
  cases r3
  exact ⟨h6, h5⟩
/-- an own error's class, made with a text alone -/
structure XCl (K : PySem.W.Frag) (mg : Str → Option Value) (x : Str) (C : Addr) : Prop where
  g : mg x = some (.ref C)
  ex : PySem.W.excIn K C [.type "ValueError", .type "Exception", .type "BaseException", .type "object"] "ValueError.__new__" = true
  kp : PySem.W.keepIn K (.ref C) = true
  sb : PySem.W.subIn K (.ref C) (.type "BaseException") = some true
  ty : PySem.W.typeIn K (.ref C) = some (.type "type")
  ec : ExcC K C
theorem kit_same {K : PySem.W.Frag} {C : Addr} : PySem.W.kitOne K (.ref C) (.ref C) = some true := by
  unfold PySem.W.kitOne
  rw [if_pos (beq_self_eq_true _)]
theorem kit_sub {K : PySem.W.Frag} {D C : Addr} {b : Bool} (n : (Value.ref D == Value.ref C) = false) (ht : PySem.W.typeIn K (.ref C) = some (.type "type")) (hs : PySem.W.subIn K (.ref D) (.ref C) = some b) (hc : PySem.W.isClsIn K C = true) :
    PySem.W.kitOne K (.ref D) (.ref C) = some b := by
  unfold PySem.W.kitOne
  rw [if_neg (by rw [n]; exact Bool.false_ne_true)]
  unfold PySem.W.isClsIn at hc
  unfold PySem.W.kitCls
  simp only [ht, hs, hc]
  rfl
end Lv

/-! lists and tuples of names beside dice -/
namespace Lv
open PySem PySem.Spec PyProof.Rows L2
section
variable {K : PySem.W.Frag}
/-- a list of names that is not the dice -/
structure Wd (H : Hp) (d l : Addr) (ws : List Str) : Prop where
  at_ : H l = some (.lst (ws.map V.str))
  ne : l ≠ d
  nm : ∀ w ∈ ws, isNm w = true
  lo : 1 ≤ ws.length
  hi : ws.length ≤ 100
theorem Wd.gr {H H' : Hp} {d l : Addr} {ws : List Str} (h : Wd H d l ws) (g : Gr d H H') : Wd H' d l ws := ⟨g.keep _ _ h.ne h.at_, h.ne, h.nm, h.lo, h.hi⟩
theorem pick_l {H : Hp} {d l : Addr} {ws : List Str} {Q : VK} {E : XK} (hd : Dc H d) (h : H l = some (.lst (ws.map V.str))) (ne : l ≠ d) (lo : 1 ≤ ws.length) (hi : ws.length < 1073741824)
    (q : ∀ w H', w ∈ ws → Gr d H H' → Q (.str w) H') : sp_law_pick K [.ref d, .ref l] H Q E := by
  refine ⟨d, _, rfl, hd, .inl ⟨l, _, rfl, ne, sql_of h, ?_, ?_, fun y H' hy g => ?_⟩⟩
  · intro e
    rw [List.map_eq_nil_iff] at e
    rw [e] at lo
    simp at lo
  · rw [List.length_map]
    omega
  · obtain ⟨w, hw, rfl⟩ := List.mem_map.mp hy
    exact q w H' hw g
theorem pick_w {H : Hp} {d l : Addr} {ws : List Str} {Q : VK} {E : XK} (hd : Dc H d) (h : Wd H d l ws) (q : ∀ w H', isNm w = true → w ∈ ws → Gr d H H' → Q (.str w) H') : sp_law_pick K [.ref d, .ref l] H Q E := by
  refine ⟨d, _, rfl, hd, .inl ⟨l, _, rfl, h.ne, sql_of h.at_, ?_, ?_, fun y H' hy g => ?_⟩⟩
  · intro e
    rw [List.map_eq_nil_iff] at e
    have := h.lo
    rw [e] at this
    simp at this
  · rw [List.length_map]
    have := h.hi
    omega
  · obtain ⟨w, hw, rfl⟩ := List.mem_map.mp hy
    exact q w H' (h.nm w hw) hw g
theorem ex_ws {ys : List V} : (∀ (i : Nat) (y : V), ys[i]? = some y → ∃ w, y = V.str w ∧ isNm w = true) → ∃ ws : List Str, ys = ws.map V.str ∧ ∀ w ∈ ws, isNm w = true := by
  induction ys with
  | nil => intro _; exact ⟨[], rfl, fun w h => nomatch h⟩
  | cons y ys ih =>
    intro h
    obtain ⟨w, rfl, hw⟩ := h 0 y rfl
    obtain ⟨ws, rfl, hws⟩ := ih fun i y hy => h (i + 1) y hy
    refine ⟨w :: ws, rfl, fun x hx => ?_⟩
    rcases List.mem_cons.mp hx with rfl | hx
    · exact hw
    · exact hws x hx
theorem cut_ij {xs : List V} {i j : Nat} (h : i + j ≤ xs.length) : cutV xs (some (i : Int)) (some ((i + j : Nat) : Int)) = (xs.drop i).take j := by
  unfold cutV
  rw [HT.sIx_nat, HT.sIx_nat, Nat.min_eq_left h, Nat.min_eq_left (show i ≤ xs.length by omega)]
  congr 1
  omega
theorem joinL_app (S : List Nat) : ∀ (a b : List (List Nat)), a ≠ [] → b ≠ [] → TL.joinL S (a ++ b) = TL.joinL S a ++ (S ++ TL.joinL S b)
  | [], _, h, _ => absurd rfl h
  | [p], [], _, h => absurd rfl h
  | [p], q :: r, _, _ => rfl
  | p :: p' :: r, b, _, hb => by
    show p ++ (S ++ TL.joinL S (p' :: r ++ b)) = p ++ (S ++ TL.joinL S (p' :: r)) ++ (S ++ TL.joinL S b)
    rw [joinL_app S (p' :: r) b (by simp) hb]
    simp [List.append_assoc]
theorem tx_app {a b : List Str} (ha : a ≠ []) (hb : b ≠ []) : tx a ++ blank ++ tx b = tx (a ++ b) := by
  apply TL.ext_tl
  rw [TL.tl_append, TL.tl_append]
  unfold tx
  rw [TL.join_eq, TL.join_eq, TL.join_eq, TL.tl_join, TL.tl_join, TL.tl_join, List.map_append, joinL_app _ _ _ (by simpa using ha) (by simpa using hb), List.append_assoc]
theorem keepO {H H' : Hp} {d b : Addr} {o u : HO} (hb : H b = some u) (hd : H d = none) (g : Gr d (upd H d o) H') : H' b = some u := by
  have ne := ne_of_none hb hd
  exact g.keep _ _ ne (by rw [upd_ne ne]; exact hb)
theorem scr {H H' : Hp} {d s : Addr} {o : HO} {xs : List V} (h : SqL K H s xs) (hd : H d = none) (g : Gr d (upd H d o) H') : SqL K H' s xs := by
  rcases h with (h | ⟨u, h⟩) | h
  · exact .inl (.inl (keepO h hd g))
  · exact .inl (.inr ⟨u, keepO h hd g⟩)
  · exact .inr h
end
end Lv

/-! comprehensions whose elements make lambdas; lists of texts -/
namespace Lv
open PySem PySem.Spec PyProof.Rows L2 LamX
section
variable {T : List (Addr × Str)} {d : Addr} {H H1 H2 : Hp}
theorem tabs_upd {p : Addr} {o : HO} {xs : List V} (t : Tabs T H) (h : H p = some (.lst xs)) : Tabs T (upd H p o) := by
  intro x hx
  obtain ⟨ps, h1, h2, h3⟩ := t x hx
  have n1 : x.1 ≠ p := fun e => by
    rw [e, h] at h1
    cases h1
  refine ⟨ps, by rw [upd_ne n1]; exact h1, h2, fun pos cv hc => ?_⟩
  obtain ⟨c, e, hcO⟩ := h3 pos cv hc
  refine ⟨c, e, ?_⟩
  rw [upd_ne (fun e2 => ?_)]
  · exact hcO
  · rw [e2, h] at hcO
    unfold CodeO at hcO
    cases hcO
theorem Gt.mut {p : Addr} {o : HO} {xs : List V} (g : Gt T d H H1) (h : H p = none) (ne : p ≠ d) (hl : H1 p = some (.lst xs)) : Gt T d H (upd H1 p o) := by
  refine ⟨g.pre, fun a u n z q => ?_, ?_, tabs_upd g.tabs hl⟩
  · rw [upd_ne (ne_of_none q h)]
    exact g.keep a u n z q
  · obtain ⟨x, y, z, q⟩ := g.dice
    exact ⟨x, y, z, by rw [upd_ne ne.symm]; exact q⟩
theorem Gt.kn {v : V} {t : String} (g : Gt T d H H1) (k : Kn H v t) : Kn H1 v t := by
  cases k with
  | non => exact .non
  | bl b => exact .bl b
  | int i => exact .int i
  | str z => exact .str z
  | @lst a xs h =>
    by_cases e : a = d
    · subst e
      obtain ⟨x, y, z, q⟩ := g.dice
      exact .lst q
    · exact .lst (g.lst e h)
  | tup h => exact .tup (g.tup h)
  | @dK a kvs h =>
    refine .dK (g.keep _ _ (fun e => ?_) (fun ps z => nomatch z) h)
    subst e
    obtain ⟨x, y, z, q⟩ := g.pre
    rw [q] at h
    cases h
theorem Gt.told {v : V} {xs : List V} {b : Bool} (g : Gt T d H H1) (t : Told H v xs b) : Told H1 v xs b := by
  cases t with
  | tup h k z => exact .tup (g.tup h) (fun x hx => (k x hx).imp fun _ q => g.kn q) z
  | oth k n => exact .oth (g.kn k) n
theorem told_ext {v : V} {xs : List V} {b : Bool} (e : ExtN H H1) (t : Told H v xs b) : Told H1 v xs b := by
  have kn : ∀ {v : V} {t : String}, Kn H v t → Kn H1 v t := by
    intro v t k
    cases k with
    | non => exact .non
    | bl b => exact .bl b
    | int i => exact .int i
    | str z => exact .str z
    | lst h => exact .lst (e _ _ h fun ps z => nomatch z)
    | tup h => exact .tup (e _ _ h fun ps z => nomatch z)
    | dK h => exact .dK (e _ _ h fun ps z => nomatch z)
  cases t with
  | tup h k z => exact .tup (e _ _ h fun ps z => nomatch z) (fun x hx => (k x hx).imp fun _ q => kn q) z
  | oth k n => exact .oth (kn k) n
end
section
variable {J : It} {n : Nat} {G : Hp → Prop} {Y : Nat → Hp → V → Hp → Prop} {g : TG} {tt : TT} {te : TE} {vs : List Nat} {σ : L2.St} {Q : VK} {H1 : Hp}
theorem lc_gt {T : List (Addr × Str)} {d : Addr} (w : Walk J n G Y) (P : Nat → V → Prop) (hn : n ≤ sizeLine) (h0 : Dc H1 d) (hT : Tabs T H1) (hG : ∀ H, Gt T d H1 H → G H)
    (hs : ∀ i x H H', i < n → Gt T d H1 H → Y i H x H' → ∀ R : VK, (∀ y H4, P i y → Gt T d H H4 → R y H4) →
      g x (wipe σ vs) H' fun σ2 H2 => wipe σ2 vs = wipe σ vs ∧ tt σ2 H2 fun b H3 => b = true ∧ te σ2 H3 R)
    (mono : ∀ (x : V) (σ' : L2.St) (H' : Hp) (A B : L2.St → Hp → Prop), (∀ s h, A s h → B s h) → g x σ' H' A → g x σ' H' B)
    (monoT : ∀ (σ' : L2.St) (H' : Hp) (A B : Bool → Hp → Prop), (∀ b h, A b h → B b h) → tt σ' H' A → tt σ' H' B)
    (hd : ∀ H D ys, Gt T d H1 H → H1 D = none → D ≠ d → ys.length = n → (∀ i y, ys[i]? = some y → P i y) →
      H D = some (.lst ys) → Q (.ref D) H) :
    LcB J g tt te vs σ Q H1 := by
  intro D hD
  have ne := h0.ne hD
  refine lc_it w (fun i H => Gt T d H1 H ∧ ∃ ys : List V, ys.length = i ∧ (∀ j y, ys[j]? = some y → P j y) ∧ H D = some (.lst ys))
    ⟨(Gt.refl h0 hT).same (same_new hD), [], rfl, (fun j y e => by simp at e), upd_same⟩ (fun i H _ h => hG H h.1) ?_
    (fun H h => ?_)
  · rintro i x H H' hi ⟨hS, ys, hl, hp, hL⟩ hy
    have := hs i x H H' hi hS hy
      (fun y H4 => ∃ acc, H4 D = some (.lst acc) ∧ acc.length < sizeLine ∧ (Gt T d H1 (upd H4 D (.lst (acc ++ [y]))) ∧
        ∃ zs : List V, zs.length = i + 1 ∧ (∀ j z, zs[j]? = some z → P j z) ∧ upd H4 D (.lst (acc ++ [y])) D = some (.lst zs)))
      (fun y H4 hy h4 => ⟨ys, h4.lst ne hL, by omega, (hS.trans h4).mut hD ne (h4.lst ne hL), ys ++ [y], by
        rw [List.length_append, hl]
        rfl, fun j z hz => ?_, upd_same⟩)
    · refine mono _ _ _ _ _ ?_ this
      rintro s h ⟨e, h2⟩
      refine ⟨e, monoT _ _ _ _ ?_ h2⟩
      rintro b h3 ⟨rfl, h4⟩
      rw [if_pos rfl]
      exact h4
    · by_cases hj : j < ys.length
      · rw [List.getElem?_append_left hj] at hz
        exact hp j z hz
      · rw [List.getElem?_append_right (by omega)] at hz
        have e : j = i := by
          cases hq : j - ys.length with
          | zero => omega
          | succ m =>
            rw [hq] at hz
            exact nomatch hz
        subst e
        rw [hl, Nat.sub_self] at hz
        cases hz
        exact hy
  · obtain ⟨hS, ys, hl, hp, hL⟩ := h
    exact hd H D ys hS hD ne hl hp hL
end
theorem Dc.ne_lst3 {d p r1 r2 r3 : Addr} {H : Hp} (h : Dc H d) (n : H p = some (.lst [.ref r1, .ref r2, .ref r3])) : p ≠ d := fun e => by
  obtain ⟨x, y, z, q⟩ := h
  rw [e, q] at n
  cases n
/-- a list of texts as data -/
def dLs (ws : List Str) : PyData := .list (ws.map PyData.str)
theorem shapedL {ws : List Str} (h : ∀ w ∈ ws, Pl w) : SeqAt.shaped (dLs ws) = true := by
  have h0 := shapedS h
  unfold SeqAt.shaped at *
  simp only [dS, dLs, PyData.canLay0, PyData.depth] at *
  exact h0
theorem eqLs {K : PySem.W.Frag} {H : Hp} {a b : Addr} {xs ys : List Str} {Q : VK} (ha : SqL K H a (xs.map V.str)) (hb : SqL K H b (ys.map V.str)) (px : ∀ w ∈ xs, Pl w) (py : ∀ w ∈ ys, Pl w) (q : Q (.bl (decide (xs = ys))) H) : rEqD K (.ref a) (.ref b) H Q := by
  refine ⟨dLs xs, dLs ys, .lst ha (dpS xs), .lst hb (dpS ys), shapedL px, shapedL py, ?_⟩
  simp only [dLs, PyData.eqv, eqvS]
  exact q
/-- a text times an int -/
def rMulS : R2 := fun x y H Q => ∃ (z : Str) (n : Int), x = .str z ∧ y = .int n ∧ MulOk z n ∧ Q (.str (Txt.mul z n)) H
theorem op_mulS {X : Cx} : OpR X (binaryOp .Mult) rMulS := by
  intro pins s σ H x y v u Q I rx ry h
  obtain ⟨z, n, rfl, rfl, hz, q⟩ := h
  obtain ⟨t, rfl⟩ := rx
  obtain ⟨t', rfl⟩ := ry
  exact SB.mul hz fun t' k => ⟨.str (Txt.mul z n), H, I.tok _, ⟨_, rfl⟩, q⟩
/-- all the same text -/
theorem all_str {ys : List V} {z : Str} (h : ∀ (i : Nat) (y : V), ys[i]? = some y → y = .str z) : ys = (List.replicate ys.length z).map V.str := by
  apply List.ext_getElem
  · simp
  · intro i h1 h2
    rw [h i _ (List.getElem?_eq_getElem h1)]
    simp
end Lv

/-! an own error over ValueError: def __init__(self, f): super().__init__(f'..{f}..'); self.f = f -/
namespace PySem
namespace PeX
open PySem.W PySem.Calls PyProof.Rows PySem.HandSPX
/-- where the rows of __init__ stand -/
structure Ps where
  a1 : Pos
  a2 : Pos
  p0 : Pos
  p1 : Pos
  p2 : Pos
  k1 : Pos
  n1 : Pos
  v1 : Pos
  k2 : Pos
  j : Pos
  c : Pos
  x : Pos
  q1 : Pos
  q2 : Pos
  q3 : Pos
  q4 : Pos
def iA (f : Str) (p : Ps) : Arguments := { posonlyargs := [], args := [{ arg := "self", annotation := none, pos := p.a1 }, { arg := f, annotation := none, pos := p.a2 }], vararg := none, kwonlyargs := [], kw_defaults := [], kwarg := none, defaults := [] }
def iB (f a b : Str) (p : Ps) : List Stmt := [
  .Expr (.Call (.Attribute (.Call (.Name "super" p.p0) [] [] p.p1) "__init__" p.p2)
    [.JoinedStr [.Constant (.str a) 0 p.k1, .FormattedValue (.Name f p.n1) (-1) none p.v1, .Constant (.str b) 0 p.k2] p.j] [] p.c) p.x,
  .Assign [.Attribute (.Name "self" p.q1) f p.q2] (.Name f p.q3) p.q4]
def iS (f : Str) : Scope := { kind := .function, names := [(PySem.Str.ofString "self", .local), (f, .local), (PySem.Str.ofString "__class__", .free), (PySem.Str.ofString "super", .globalImplicit)], isGenerator := false, isCoroutine := false, more := [] }
/-- what the written part says of the class c at C, and of its __init__, at fI -/
structure Txt (P : Program) (K : Frag) (mg : Str → Option Value) (c q f a b : Str) (C fI : Addr) : Prop where
  gC : mg c = some (.ref C)
  cls : ∃ nm q N bs bm sn sub ab col dd k0 k1 k2 k3 k5, K.lookup C = some (excClassObj nm q C N bs bm true sn sub ab col dd k0 k1 k2 k3 k5 "ValueError.__new__") ∧ refsVE bm = true
  sa : findIn K (.ref C) "__setattr__" = some (some (.builtin "object.__setattr__"))
  ga : findIn K (.ref C) "__getattribute__" = some (some (.builtin "BaseException.__getattribute__"))
  gg : findIn K (.ref C) "__getattr__" = some none
  noN : findIn K (.ref C) f = some none
  iC : findIn K (.ref C) "__init__" = some (some (.ref fI))
  tC : typeIn K (.ref fI) = some (.type "function")
  kC : keepIn K (.ref C) = true
  exC : subIn K (.ref C) (.type "BaseException") = some true
  veC : subIn K (.ref C) (.type "ValueError") = some true
  tyC : typeIn K (.ref C) = some (.type "type")
  hdC : hasDictIn K C = true
  sup : ks_superIn K C C "__init__" = some (some (.builtin "ValueError.__init__"))
  op : nsIn K cStatics "thirdparty.any" = some none
  msub : mroIn K C (.ref C) = some true
  nsup : mg "super" = none
  top : (P.main.scope.names.lookup ("super" : Str)).isSome = false
  fn : ∃ (oc : Value) (od : Option Addr) (doc pm : Value) (an : Option Addr) (cda : Addr) (ct : Value) (osl : Array (Option Value)) (p : Ps) (cc : Addr) (cl : Value) (cld : Option Addr) (csl : Array (Option Value)) (ccl : Value) (cdd : Option Addr) (vs : Array Value) (ccs : Array (Option Value)) (file : Str) (tf : Tok),
    K.lookup fI = some ⟨oc, od, .func (ksFn "__init__" q (iA f p) (iB f a b p) (iS f) .none .none doc pm an (.ref cda) ct cc), osl⟩ ∧ codeIn K (.ref cda) q = true ∧
    K.lookup cc = some ⟨cl, cld, .cell (some (.ref C)), csl⟩ ∧ K.lookup cda = some ⟨ccl, cdd, .fields vs, ccs⟩ ∧ vs[2]? = some (.str file tf) ∧ ((P.main.file : Str) == file) = true ∧ (p.p2.endLine == p.c.line) = true
/-- a field's name is no other name of __init__ -/
structure Fld (f : Str) : Prop where
  n1 : (f == ("self" : Str)) = false
  n2 : (f == ("__class__" : Str)) = false
  n3 : (f == ("super" : Str)) = false
  n4 : (f == ("__debug__" : Str)) = false
/-- what __init__ leaves of a fresh exception at x -/
structure InitEnd (f : Str) (h h' : Heap) (x C dx t1 : Addr) (v : Value) : Prop where
  keep : ∀ b o, b ≠ x → h.get? b = some o → h'.get? b = some o
  obj : h'.get? x = some { cls := .ref C, dict := some dx, data := .fields #[.ref t1, .none, .none, .none, .bool false, .none] }
  dbig : h.objs.size ≤ dx
  dne : dx ≠ x
  ns : h'.Ns1 dx (fun y => if y = f then some v else none)
theorem kept_but {K : Frag} {h h' : Heap} {x : Addr} (X : K.In h) (hx : K.lookup x = none) (k : ∀ b o, b ≠ x → h.get? b = some o → h'.get? b = some o) : K.In h' := fun a o e =>
  k a o (fun z => by rw [z, hx] at e; cases e) (X a o e)
section
variable {prog : Program} {w : World} {A : Around} {E : Value → Shared → Prop} {R : Result → Shared → Prop} {s : Shared} {K : Frag} {mg mb : Str → Option Value} {C fI : Addr} {c q a b : Str}
theorem call_tree {o : Expr} {name : Str} {apos pos : Pos} {e : Expr} {env : Env} (hpos : (apos.endLine == pos.line) = true) (hs : starEach [e] env = [(false, eval e env)]) :
    eval (.Call (.Attribute o name apos) [e] [] pos) env = (do
      let ov ← attributeBase o name env (eval o env)
      standAt apos.atName
      let (f, first) ← holding [ov] (getMethod ov name (do return (← importBound o env).getD true))
      callWith pos f first (backTo pos (starEach [e] env)) []) := by
  have hf : methodCallForm ([e].length + ([] : List Keyword).length) (backTo pos (starEach [e] env)) (backToKw pos (keywordEach [] env)) = true := by
    rw [hs]
    rfl
  have hm : methodCallPos (methodCallForm ([e].length + ([] : List Keyword).length) (backTo pos (starEach [e] env)) (backToKw pos (keywordEach [] env))) o env apos pos = pure pos := by
    unfold methodCallPos
    rw [hpos, Bool.or_true, if_pos rfl]
  rw [hf] at hm
  rw [arm_eval_Call]
  unfold methodCall
  simp only [hf, hm, calleeOf, if_true, pure_bind]
  rfl
theorem call_wrap {u x t0 N : Addr} {nm qn : Str} {bs bm sub : List Value} {hd ab : Bool} {sn : List Str} {col : Option Bool} {dd : Option Addr} {k0 k1 k2 k3 k5 : Option Value} {rest : List Value} {Q : Value → Shared → Prop}
    (hu : s.heap.get? u = some (kxs_mw "ValueError.__init__" x)) (hC : s.heap.get? C = some (excClassObj nm qn C N bs bm hd sn sub ab col dd k0 k1 k2 k3 k5 "ValueError.__new__")) (he : s.heap.get? x = some (excObj C t0 none .none)) (hz : rest.length ≤ sizeLine)
    (fin : ∀ h', (∀ b o, b ≠ x → s.heap.get? b = some o → h'.get? b = some o) → h'.get? x = some (excObj C s.heap.objs.size none .none) → Q .none { s with heap := h' }) : wpAny (model prog w) A (call (.ref u) rest) Q E s := by
  obtain ⟨hh, g, d, tk, os⟩ := s
  have FB := F.excBase_ValueError
  have go := fun (A : Around) (P : Fin → Shared → Prop) (E : Value → Shared → Prop) (h : ∀ h', (∀ b o, b ≠ x → hh.get? b = some o → h'.get? b = some o) → h'.get? x = some (excObj C hh.objs.size none .none) → P (.done (.ret .none)) ⟨h', g, d, tk, os⟩) =>
    exc_init_tree (M := model prog w) (A := A) (E := E) (P := P) (g := g) (d := d) (t := tk) (os := os) (cls := .ref C) (t0 := t0) (dv := none) (c2 := .none) (c3 := .none) (b4 := .bool false) (rest := rest) he hz fun h' k e _ => h h' k e
  refine wpAny_call (codeAny_of_tree ?_)
  show wpAny _ _ (callAny (.ref u) _) _ _ _
  unfold callAny
  repeat (first | (with_reducible refine wpAny_load hu ?_) | (refine check_bound_init (rest := rest) FB.toExcCallFacts hC he rfl ?_) | wp_step)
  all_goals (try exact ⟨plainId_quiet FB.init.plain _, codeAny_builtin FB.initEntry (go _ _ _ fun h' k e => fin h' k e)⟩)
theorem init (T : Txt prog K mg c q "line" a b C fI) {x t0 : Addr} {v : Value} (X : K.In s.heap) (hlim : s.heap.NoLimit) (hG : s.heap.Ns mainGlobals mg) (hB : s.heap.Ns builtinsNs mb) (hsu : mb "super" = some (.type "super"))
    (hx : s.heap.get? x = some (excO C t0)) (hnx : K.lookup x = none) (hroom : A.depth < recursionLimit)
    (za : a.length ≤ 100) (zb : b.length ≤ 100)
    (hfm : ∀ (A : Around) (s : Shared) (Q : Value → Shared → Prop) (E : Value → Shared → Prop), (∀ (y : Str) (t' k : Nat), y.length ≤ 100000 → Q (.str y t') { s with toks := k }) → wpAny (model prog w) A (formatField v Str.empty) Q E s)
    (hq : ∀ h' tk dx t1, InitEnd "line" s.heap h' x C dx t1 v → R (.ok (.ret .none)) { s with heap := h', toks := tk }) :
    codeAny (model prog w) A (.call (.ref fI) ⟨[.ref x, v], []⟩) R s := by
  obtain ⟨oc, od, doc, pm, an, cda, ct, osl, p, cc, cl, cld, csl, ccl, cdd, vs, ccs, file, tf, ho, hcd, hcell, hcode, hvs, hfile, hpos⟩ := T.fn
  obtain ⟨nm, qn, N, bs, bm, sn, sub, ab, col, dd, k0, k1, k2, k3, k5, hC, hbm⟩ := T.cls
  have hcl : clsIn K C = some { name := nm, bases := bs, mro := .ref C :: bm, ns := N, qualname := qn, hasDict := true, slotNames := sn, subclasses := sub, abstract := ab, collection := col, hasDel := false } := by unfold clsIn; rw [hC] <;> rfl
  have hsup := T.sup
  unfold ks_superIn at hsup
  rw [hcl] at hsup
  obtain ⟨hp, g, dr, tk, os⟩ := s
  refine ks_codeAny_call_defAt (fd := ksFn "__init__" q (iA "line" p) (iB "line" a b p) (iS "line") .none .none doc pm an (.ref cda) ct cc) (body := iB "line" a b p) (binds := [("self", .ref x), ("line", v)]) hroom (X _ _ ho) rfl hlim (codeRec_of X hcd) rfl
    (BindsTo.of_eq (by first | rfl | with_unfolding_all rfl)) (show ∀ x ∈ (iS "line").names, x.2 ≠ .cell by decide) (fun y hy => by
      rcases List.mem_cons.mp hy with rfl | hy
      · rfl
      · rcases List.mem_cons.mp hy with rfl | hy
        · rfl
        · exact nomatch hy) (fun h₁ hns k => ?_)
  have X₁ : K.In h₁ := X.keeps k
  have hx₁ := k _ _ hx
  have hC₁ := X₁ _ _ hC
  refine ks_wpAt_execs_cons (ks_wpAt_Expr_any (ks_wpAt_MethodCall ?_ (call_tree hpos rfl)))
  refine ks_wpAt_super_base rfl rfl rfl rfl (X₁ _ _ ho) rfl rfl rfl (X₁ _ _ hcode) rfl hvs hfile T.top ?_
  refine ks_loadName_global rfl rfl (loadGlobal_builtin (hG.keeps k) T.nsup (hB.keeps k) hsu ⟨rfl, ?_⟩)
  refine wpAny_loadName_free rfl rfl rfl ⟨_, X₁ _ _ hcell, rfl⟩ ?_
  refine wpAny_loadName_local rfl rfl hns rfl ?_
  refine ks_wpAny_isType_cls hC₁ rfl ⟨rfl, ?_⟩
  refine ks_wpAny_call_super hC₁ rfl hx₁ rfl (fun c e => nomatch e) (looks_mroIn X₁ T.msub) (fun h₂ e₂ k₂ => ?_)
  have X₂ : K.In h₂ := X₁.keeps k₂
  have hx₂ := k₂ _ _ hx₁
  have I₂ : InstAt h₂ x (excO C t0) C none := ⟨hx₂, rfl, rfl, trivial⟩
  refine kxs_getMethod kxs_ValueError e₂ (looks_opaque X₂ T.op) (l₀ := .ref C :: bm) (fun A Q E s k q => wpAny_bind ((looks_clsIn X₂ hcl) A _ E s k (wpAny_pure q))) rfl X₂ hsup (I₂.type.andThen (looks_subIn X₂ T.veC)) (ks_ne X₂ I₂ hcl) rfl ?_
  have k₃ : ∀ b o, h₂.get? b = some o → (h₂.push (kxs_mw "ValueError.__init__" x)).get? b = some o := fun b o e => Heap.get?_push_of_some _ e
  have e₃ : (h₂.push (kxs_mw "ValueError.__init__" x)).get? h₂.objs.size = some (kxs_mw "ValueError.__init__" x) := Heap.get?_push_at rfl rfl
  have k₃₃ : ∀ b o, h₁.get? b = some o → (h₂.push (kxs_mw "ValueError.__init__" x)).get? b = some o := fun b o e => k₃ b o (k₂ b o e)
  have hns₃ := hns.keeps k₃₃
  refine kxs_callWith (i := "ValueError.__init__") (x := x) rfl (evalArgs_plain ?_)
  refine spliced_cons ?_
  refine wpAny_JoinedStr (pos := p.j) ?_
  refine Constant_str ⟨_, _, rfl, ?_, ?_⟩
  · show (Str.empty ++ a).length ≤ sizeLine
    rw [strLen_append]
    exact Nat.le_trans (show _ ≤ 100 by show 0 + a.length ≤ 100; omega) (by decide)
  refine wpAny_FormattedValue_plain (wpAny_Name (wpAny_loadName_local rfl rfl hns₃ rfl ?_) (by decide))
  refine hfm _ _ _ _ fun y t' k' hy => ⟨y, t', rfl, ?_, ?_⟩
  · rw [strLen_append, strLen_append]
    exact Nat.le_trans (show _ ≤ 100100 by show 0 + a.length + y.length ≤ 100100; omega) (by decide)
  refine Constant_str ⟨_, _, rfl, ?_, ?_⟩
  · rw [strLen_append, strLen_append, strLen_append]
    exact Nat.le_trans (show _ ≤ 100200 by show 0 + a.length + y.length + b.length ≤ 100200; omega) (by decide)
  refine ⟨?_, ?_⟩
  · rw [strLen_append, strLen_append, strLen_append]
    exact Nat.le_trans (show _ ≤ 100200 by show 0 + a.length + y.length + b.length ≤ 100200; omega) (by decide)
  refine spliced_nil ⟨e₃, ?_⟩
  refine call_wrap e₃ (k₃ _ _ (X₂ _ _ hC)) (k₃ _ _ hx₂) (show 1 ≤ sizeLine by decide) fun h₄ k₄ hx₄ => ?_
  have X₄ : K.In h₄ := kept_but (X₂.keeps k₃) hnx k₄
  have xL : hp.objs.size ≠ x := Nat.ne_of_gt (Heap.lt_size hx)
  have hns₄ : h₄.Ns hp.objs.size (fun x_1 => List.lookup x_1 [(("self" : Str), Value.ref x), (("line" : Str), v)].reverse) := hns₃.at fun o e => k₄ _ o xL e
  show wpAt _ _ _ (execs _ _) _ _ _
  refine ks_wpAt_execs_cons (ks_wpAt_Assign_Attr (wpAt_of_wpAny ?_))
  refine wpAny_Name (wpAny_loadName_local rfl rfl hns₄ rfl ?_) (by decide)
  refine wpAny_Name (wpAny_loadName_local rfl rfl hns₄ rfl ?_) (by decide)
  refine set_plain X₄ (ox := excObj C (h₂.push (kxs_mw "ValueError.__init__" x)).objs.size none .none) (od := none) ⟨hx₄, rfl, rfl, trivial⟩ T.sa ?_
  refine exc_osa X₄ hx₄ hcl (show refsVE (.ref C :: bm) = true from hbm) rfl T.noN (fun h₅ tk₅ dx k₅ dn dne hx₅ hn₅ => ?_)
  show wpAt _ _ _ (execs _ _) _ _ _
  refine wpAt_of_wpAny (wpAny_execs_nil (hq h₅ tk₅ dx _ ⟨fun b o hb e => k₅ b o hb (k₄ b o hb (k₃₃ b o (k b o e))), hx₅, ?_, dne, hn₅⟩))
  have z : hp.objs.size < h₄.objs.size := hns₄.lt
  exact Nat.le_of_lt (Nat.lt_of_lt_of_le z dn)
/-- a made one -/
structure OwnMade (f : Str) (h h' : Heap) (e C d : Addr) (v : Value) : Prop where
  keep : ∀ b o, h.get? b = some o → h'.get? b = some o
  new : h.objs.size ≤ e
  obj : ∃ oe vs, h'.get? e = some oe ∧ oe.cls = .ref C ∧ oe.dict = some d ∧ oe.data = .fields vs ∧ vs[1]? = some .none
  dbig : h.objs.size ≤ d
  dne : d ≠ e
  ns : h'.Ns1 d (fun y => if y = f then some v else none)
theorem made (T : Txt prog K mg c q "line" a b C fI) {v : Value} (X : K.In s.heap) (hlim : s.heap.NoLimit) (hG : s.heap.Ns mainGlobals mg) (hB : s.heap.Ns builtinsNs mb) (hsu : mb "super" = some (.type "super")) (hroom : A.depth + 1 < recursionLimit)
    (za : a.length ≤ 100) (zb : b.length ≤ 100)
    (hfm : ∀ (A : Around) (s : Shared) (Q : Value → Shared → Prop) (E : Value → Shared → Prop), (∀ (y : Str) (t' k : Nat), y.length ≤ 100000 → Q (.str y t') { s with toks := k }) → wpAny (model prog w) A (formatField v Str.empty) Q E s)
    (hq : ∀ h' tk e d, OwnMade "line" s.heap h' e C d v → R (.ok (.ret (.ref e))) { s with heap := h', toks := tk }) :
    codeAny (model prog w) A (.call (.ref C) ⟨[v], []⟩) R s := by
  obtain ⟨nm, qn, N, bs, bm, sn, sub, ab, col, dd, k0, k1, k2, k3, k5, hC, hbm⟩ := T.cls
  obtain ⟨hp, g, dr, tk, os⟩ := s
  have k : ∀ b o, hp.get? b = some o → ((hp.push (kdv_tup [v])).push (excO C hp.objs.size)).get? b = some o := fun b o e => Heap.get?_push_of_some _ (Heap.get?_push_of_some _ e)
  have hget : ((hp.push (kdv_tup [v])).push (excO C hp.objs.size)).get? (hp.objs.size + 1) = some (excO C hp.objs.size) := by heap_get
  have hnx : K.lookup (hp.objs.size + 1) = none := by
    cases e : K.lookup (hp.objs.size + 1) with
    | none => rfl
    | some o =>
      have z : hp.get? (hp.objs.size + 1) = some o := X _ _ e
      exact absurd (Nat.lt_of_succ_lt (Heap.lt_size z)) (Nat.lt_irrefl _)
  refine call_own F.excBase_ValueError (fun X => refsVE_contains X bm hbm) (X _ _ hC) (looks_findIn X T.iC) (fun self => bind_fn X self T.tC) (show 1 ≤ sizeLine by decide) ?_
  refine init (s := ⟨(hp.push (kdv_tup [v])).push (excO C hp.objs.size), g, dr, tk, os⟩) T (X.keeps k) (hlim.keeps k) (hG.keeps k) (hB.keeps k) hsu hget hnx ?_ za zb hfm fun h' tk' dx t1 M => ?_
  · show A.depth + 1 < recursionLimit
    exact hroom
  · obtain ⟨k', hx, dn, dne, hns⟩ := M
    have old : ∀ b o, hp.get? b = some o → h'.get? b = some o := fun b o e => k' b o (Nat.ne_of_lt (Nat.lt_succ_of_lt (Heap.lt_size e))) (k b o e)
    have z : hp.objs.size + 1 + 1 ≤ dx := by
      first
        | (simpa only [Heap.size_push] using dn)
        | exact dn
        | (have q := dn; rw [Heap.size_push, Heap.size_push] at q; exact q)
    exact ⟨rfl, hq h' tk' (hp.objs.size + 1) dx ⟨old, Nat.le_succ _, ⟨_, _, hx, rfl, rfl, rfl, rfl⟩, Nat.le_trans (Nat.le_trans (Nat.le_succ _) (Nat.le_succ _)) z, dne, hns⟩⟩
end
end PeX
end PySem
namespace Lv
open PySem PySem.Spec PyProof.Rows L2
theorem relO_one {f0 : Str} {v : V} {v' : Value} (r : RelV v v') (f : Str) : RelO (List.lookup f [(f0, v)]) (if f = f0 then some v' else none) := by
  by_cases hw : f = f0
  · subst hw
    rw [if_pos rfl]
    have q : List.lookup f [(f, v)] = some v := by simp [List.lookup]
    rw [q]
    exact r
  · rw [if_neg hw]
    have qw : (f == f0) = false := by simpa using hw
    have q2 : List.lookup f [(f0, v)] = none := by simp [List.lookup, qw]
    rw [q2]
    trivial
section
variable {X : Cx} {C fI : Addr} {c q a b : Str}
/-- C(None): the error keeps None -/
def tMkN (C : Addr) (ta : TA) : L2.St → Hp → XK → Prop := fun σ H Q => ta σ H fun vs H1 => vs = [.non] ∧ ∀ d, H1 d = none → Q (.ref C) (some d) (upd H1 d (.xd [(("line" : Str), .non)]))
theorem pmk_none {x : Expr} {ta : TA} {p pos : Pos} {k : Nat} (T : PySem.PeX.Txt X.prog X.K X.mg c q "line" a b C fI) (za : a.length ≤ 100) (zb : b.length ≤ 100) (hr : Room k X.A) (ha : PA X [x] ta) (hg : Gl X c) (hdb : (c == ("__debug__" : Str)) = false)
    (he : starEach (x :: []) X.env = (false, eval x X.env) :: starEach [] X.env := by rfl) (hpl : (backTo pos (starEach [] X.env)).any (·.1) = false := by rfl) :
    PMk X (.Call (.Name c p) [x] [] pos) (tMkN C ta) := by
  intro pins s σ H Q I h
  refine wpAny_Call_Name_kw (ld_glob I hg T.gC ?_ hdb)
  refine PySem.W.callWith_K (h₀ := X.base) I.ok.mod.kin T.kC (thn (ha.run pos pins s σ H _ I h) fun us s1 hh => ?_) he hpl
  obtain ⟨vs, H1, I1, r1, ev, q1⟩ := hh
  subst ev
  refine ⟨I1.kIn, ?_⟩
  cases r1 with
  | cons rv rn =>
    rename_i v' us'
    cases rn
    obtain rfl : v' = Value.none := rv
    show wpAny _ _ (call (.ref C) [Value.none]) _ _ _
    have hlim := I1.nolimit
    have hG := I1.mod.glob.keeps I1.bk
    obtain ⟨mb, hB0, hB1⟩ := I1.mod.blt
    have hB := hB0.keeps I1.bk
    have hsu : mb "super" = some (.type "super") := (hB1 _ (by decide)).trans (by decide +kernel)
    obtain ⟨hp, g, dr, tk, os⟩ := s1
    refine wpAny_call (PySem.PeX.made T I1.kIn hlim hG hB hsu (by have := hr.dp; omega) za zb (fun A s Q E h => wpAny_formatField_none (h _ _ _ (by decide))) fun h' tk' e d M => ?_)
    show MkP X pins σ Q (.ref e) ⟨h', g, dr, tk', os⟩
    obtain ⟨oe, fv, hoe, hc, hd, hdat, h1⟩ := M.obj
    have hns := M.ns
    obtain ⟨G', g1, g2⟩ := restrict h' fun b => decide (b ≠ e)
    have gk : ∀ b, b ≠ e → G'.get? b = h'.get? b := fun b hb => g1 b (decide_eq_true hb)
    have ge : G'.get? e = none := g2 e (by simp)
    have old : ∀ b o, hp.get? b = some o → G'.get? b = some o := fun b o q => (gk b (Nat.ne_of_lt (Nat.lt_of_lt_of_le (Heap.lt_size q) M.new))).trans (M.keep b o q)
    have ob : ObjOk X.prog X.w (upd H1 d (.xd [(("line" : Str), .non)])) G' d (.xd [(("line" : Str), .non)]) :=
      ⟨_, hns.at (fun o q => (gk d M.dne).trans q), fun f => relO_one (v := .non) rfl f⟩
    have J : L2.Inv X pins σ (upd H1 d (.xd [(("line" : Str), .non)])) ⟨G', g, dr, tk', os⟩ := I1.laid (t' := tk') old M.dbig ob
    refine ⟨e, oe, fv, ⟨G', g, dr, tk', os⟩, _, .ref C, some d, rfl, J, fun b o q => ?_, ge, hoe, ⟨hc, hd⟩, hdat, h1, ?_, rfl, I1.bare, raises_own T.exC T.tyC, q1 d (I1.hok.fresh M.dbig)⟩
    · by_cases hb : b = e
      · have q' : G'.get? b = some o := q
        rw [hb, ge] at q'; cases q'
      · exact (gk b hb).symm.trans q
    · rw [upd_ne (Ne.symm M.dne)]
      exact I1.hok.fresh M.new
end
end Lv

/-! try with several clauses, with `as` or without; no exception leaves -/
namespace Lv
open PySem PySem.Spec PyProof.Rows L2
/-- an exception that a try of X has caught -/
structure Got (X : Cx) (pins : List (Addr × Obj)) (σ : L2.St) (H : Hp) (a : Addr) (cls : Value) (d : Option Addr) (s : Shared) : Prop where
  ex : ∃ (B : Heap) (t : Shared), L2.Inv X pins σ H t ∧ (∀ b o, t.heap.get? b = some o → b ∉ frs X.stack → B.get? b = some o) ∧ t.heap.UpToSlots s.heap ∧
    HandSPX.FlyingZ B (X.env :: X.outer) a (Zc cls d) s.heap ∧ s.os = t.os ∧ AllBare s.gens
  na : H a = none
section
variable {X : Cx} {pins : List (Addr × Obj)} {σ : L2.St} {H : Hp} {a : Addr} {cls : Value} {d : Option Addr} {s : Shared}
theorem Got.inv (g : Got X pins σ H a cls d s) : L2.Inv X pins σ H s := by
  obtain ⟨B, t, I, nb, up, fl, os, ag⟩ := g.ex
  exact I.landed nb fl.1 up os ag
theorem Got.suite (g : Got X pins σ H a cls d s) (hf : X.env.frame = some X.env.locals) :
    ∃ oe, Zc cls d oe ∧ (∃ vs, oe.data = .fields vs) ∧ s.heap.get? a = some oe ∧ L2.Inv (X.suite a ((a, oe) :: (X.pn ++ pins))) [] σ H s := by
  obtain ⟨B, t, I, nb, up, fl, os, ag⟩ := id g.ex
  obtain ⟨oe, vs, ge, ze, de⟩ := fl.there
  have out : a ∉ (X.env :: X.outer).filterMap (·.frame) := by
    intro m
    obtain ⟨_, o2, e2, no⟩ := fl.2.2.1.mem m
    cases ge.symm.trans e2
    exact no vs de
  refine ⟨oe, ze, ⟨vs, de⟩, ge, g.inv.suite ge de g.na ?_ ?_⟩
  · rintro rfl
    exact out (List.mem_filterMap.mpr ⟨_, .head _, hf⟩)
  · intro m
    obtain ⟨e1, m1, q1⟩ := List.mem_filterMap.mp m
    exact out (List.mem_filterMap.mpr ⟨e1, .tail _ m1, q1⟩)
theorem Got.land {M : Model} {A : Around} {E : Value → Shared → Prop} {Q : Unit → Shared → Prop} (g : Got X pins σ H a cls d s) (h : ∀ s', Got X pins σ H a cls d s' → Q () s') :
    wpAny M A (setFlight (.ref a) none) Q E s := by
  obtain ⟨B, t, I, nb, up, fl, os, ag⟩ := g.ex
  exact HandSPX.lands_againZ fl fun h4 f4 u4 => h _ ⟨⟨B, t, I, nb, up.trans u4, f4, os, ag⟩, g.na⟩
theorem Got.test {x : Str} {c : Value} {b : Bool} {np pos' : Pos} {R : Except Value Flow → Shared → Prop} (g : Got X pins σ H a cls d s) (hf : X.env.frame = some X.env.locals) (hc : Names X x c)
    (hb : PySem.W.exmOne X.K cls c = some b) (h : R (.ok (if b then .brk else .next)) s) :
    codeAny (model X.prog X.w) (X.A.mark (some (.ref a))) (.handlers (.ref a) [.ExceptHandler (some (.Name x np)) none [] pos'] X.env) R s := by
  obtain ⟨oe, ze, _, ge, S⟩ := g.suite hf
  refine codeAny_handlers_test ?_
  have look : PySem.W.Looks (model X.prog X.w) s.heap (typeOf (.ref a)) cls := fun _ _ _ _ k q => wpAny_typeOf_ref (k _ _ ge) (ze.1.symm ▸ q)
  have nxt := (PySem.W.exm_one (M := model X.prog X.w) g.inv.kIn look hb).here (A := X.A.mark (some (.ref a))) (s := s) (Q := fun b s₂ => R (.ok (if b then .brk else .next)) s₂)
    (E := notedBy (model X.prog X.w) (X.A.mark (some (.ref a))) X.env fun x s₂ => R (.error x) s₂) h
  rcases hc with ⟨hg, hd, hm | ⟨hm, hv, hn⟩⟩
  · exact ld_glob S hg hm nxt hd
  · exact ld_blt S hg hm hv nxt hn hd
theorem sp_try {D : Ends} {f : Flow} {xe : Value → Shared → Prop} {pn : List (Addr × Obj)} (h : SP (X.tr (X.pn ++ pins) xe) pn D f s) (ok : X.Ok) : SP X pins D f s := by
  cases f with
  | ret u => obtain ⟨v, σ1, H1, J, r, q⟩ := h; exact ⟨v, σ1, H1, J.ofTry ok, r, q⟩
  | _ => obtain ⟨σ1, H1, J, q⟩ := h; exact ⟨σ1, H1, J.ofTry ok, q⟩
theorem sp_out {D : Ends} {f : Flow} {q0 : Addr × Obj} {pn : List (Addr × Obj)} (h : SP (X.suite a (q0 :: (X.pn ++ pins))) pn D f s) (ok : X.Ok) : SP X pins D f s := by
  cases f with
  | ret u => obtain ⟨v, σ1, H1, J, r, q⟩ := h; exact ⟨v, σ1, H1, J.unsuite ok, r, q⟩
  | _ => obtain ⟨σ1, H1, J, q⟩ := h; exact ⟨σ1, H1, J.unsuite ok, q⟩
/-- the ends of a suite whose name goes -/
def gone (i : Nat) (D : Ends) : Ends := { nx := fun σ' H' => D.nx (σ'.set i none) H', rt := D.rt, bk := fun σ' H' => D.bk (σ'.set i none) H', ct := fun σ' H' => D.ct (σ'.set i none) H' }
theorem sp_gone {D : Ends} {f : Flow} {i : Nat} {n : Str} {pos' : Pos} {E : Value → Shared → Prop} (hN : X.N.Nodup) (hi : X.N[i]? = some n) (hl : X.env.kindOf n = some .local) (h : SP X pins (gone i D) f s) :
    wpAny (model X.prog X.w) X.A (do bindName X.env n .none; unbindBehindTheSuite X.env n pos') (fun _ s7 => SP X pins D f s7) E s := by
  cases f with
  | ret u => obtain ⟨v, σ1, H1, J, r, q⟩ := h; exact gone_ok J hN hi hl fun s7 J7 => ⟨v, _, _, J7, r, q⟩
  | _ => obtain ⟨σ1, H1, J, q⟩ := h; exact gone_ok J hN hi hl fun s7 J7 => ⟨_, _, J7, q⟩
end
abbrev ClW := Ends → Addr → Value → Option Addr → L2.St → Hp → Prop
/-- a clause, with the class it names and what its suite wishes -/
inductive Clause (X : Cx) : ExceptHandler → Value → ClW → Prop
  | plain {x : Str} {c : Value} {np pos' : Pos} {b₀ : Stmt} {suite : List Stmt} {ts : Addr → Value → Option Addr → TS} (hc : Names X x c)
      (hsu : ∀ (a : Addr) (oe : Obj) (cls : Value) (d : Option Addr) (pn : List (Addr × Obj)), Zc cls d oe → (∃ vs, oe.data = .fields vs) → PSs (X.suite a ((a, oe) :: pn)) (b₀ :: suite) (ts a cls d)) :
      Clause X (.ExceptHandler (some (.Name x np)) none (b₀ :: suite) pos') c (fun D a cls d σ H => ts a cls d D σ H)
  | named {x n : Str} {i : Nat} {c : Value} {np pos' : Pos} {b₀ : Stmt} {suite : List Stmt} {ts : Addr → Value → Option Addr → TS} (hN : X.N.Nodup) (hi : X.N[i]? = some n) (hl : X.env.kindOf n = some .local) (hc : Names X x c)
      (hsu : ∀ (a : Addr) (oe : Obj) (cls : Value) (d : Option Addr) (pn : List (Addr × Obj)), Zc cls d oe → (∃ vs, oe.data = .fields vs) → PSs (X.suite a ((a, oe) :: pn)) (b₀ :: suite) (ts a cls d)) :
      Clause X (.ExceptHandler (some (.Name x np)) (some n) (b₀ :: suite) pos') c (fun D a cls d σ H => ts a cls d (gone i D) (σ.set i (some (.ref a))) H)
inductive Clauses (X : Cx) : List ExceptHandler → List (Value × ClW) → Prop
  | nil : Clauses X [] []
  | cons {h : ExceptHandler} {c : Value} {f : ClW} {hs : List ExceptHandler} {l : List (Value × ClW)} : Clause X h c f → Clauses X hs l → Clauses X (h :: hs) ((c, f) :: l)
/-- what the clauses wish of an exception -/
def wCl (K : PySem.W.Frag) (D : Ends) : List (Value × ClW) → WX
  | [] => fun _ _ _ _ => False
  | (c, f) :: r => fun cls d σ H => (PySem.W.exmOne K cls c = some true ∧ ∀ a, H a = none → f D a cls d σ H) ∨ (PySem.W.exmOne K cls c = some false ∧ wCl K D r cls d σ H)
section
variable {X : Cx} {pins : List (Addr × Obj)} {σ : L2.St} {H : Hp} {a : Addr} {cls : Value} {d : Option Addr} {s : Shared}
theorem clause_yes {hd : ExceptHandler} {c : Value} {f : ClW} {D : Ends} {rest : List ExceptHandler} (k : Clause X hd c f) (hf : X.env.frame = some X.env.locals) (g : Got X pins σ H a cls d s)
    (hb : PySem.W.exmOne X.K cls c = some true) (w : f D a cls d σ H) : wpAny (model X.prog X.w) X.A (handleBy (.ref a) X.env (hd :: rest)) (SP X pins D) X.xe s := by
  have ok := g.inv.ok
  cases k with
  | plain hc hsu =>
    refine wpAny_handleBy_cons (g.test hf hc hb ?_) (nofun)
    refine codeAny_handlers_suite (g.land fun s4 g4 => ?_)
    obtain ⟨oe, ze, fe, _, S⟩ := g4.suite hf
    exact wpAny_mono ((hsu a oe cls d _ ze fe).run [] _ _ _ D S w) (fun fl s6 q => sp_out q ok) fun _ _ z => z.elim
  | @named x n i _ np pos' b₀ suite ts hN hi hl hc hsu =>
    refine wpAny_handleBy_cons (g.test hf hc hb ?_) (nofun)
    refine codeAny_handlers_suite_as (g.land fun s4 g4 => ?_)
    obtain ⟨oe, ze, fe, _, S⟩ := g4.suite hf
    refine store_ok (X := X.suite a ((a, oe) :: (X.pn ++ pins))) (v := .ref a) S hN hi (.inl hl) rfl (fun s5 S5 => ?_) (.inr hl)
    exact wpAny_mono ((hsu a oe cls d _ ze fe).run [] _ _ _ (gone i D) S5 w) (fun fl s6 q => sp_gone hN hi hl (sp_out q ok)) fun _ _ z => z.elim
theorem clause_no {hd : ExceptHandler} {c : Value} {f : ClW} {D : Ends} {rest : List ExceptHandler} (k : Clause X hd c f) (hf : X.env.frame = some X.env.locals) (g : Got X pins σ H a cls d s)
    (hb : PySem.W.exmOne X.K cls c = some false) (w : wpAny (model X.prog X.w) X.A (handleBy (.ref a) X.env rest) (SP X pins D) X.xe s) :
    wpAny (model X.prog X.w) X.A (handleBy (.ref a) X.env (hd :: rest)) (SP X pins D) X.xe s := by
  cases k with
  | plain hc hsu => exact wpAny_handleBy_cons (g.test hf hc hb w) (nofun)
  | named hN hi hl hc hsu => exact wpAny_handleBy_cons (g.test hf hc hb w) (nofun)
theorem clauses_run {hds : List ExceptHandler} {l : List (Value × ClW)} {D : Ends} (k : Clauses X hds l) (hf : X.env.frame = some X.env.locals) (g : Got X pins σ H a cls d s) (w : wCl X.K D l cls d σ H) :
    wpAny (model X.prog X.w) X.A (handleBy (.ref a) X.env hds) (SP X pins D) X.xe s := by
  induction k with
  | nil => exact w.elim
  | cons c r ih =>
    rcases w with ⟨e, w⟩ | ⟨e, w⟩
    · exact clause_yes c hf g e (w a g.na)
    · exact clause_no c hf g e (ih w)
end
/-- what a try wishes of what flies out of its body -/
abbrev caught (X : Cx) (pins : List (Addr × Obj)) (D : Ends) (hds : List ExceptHandler) : Value → Shared → Prop := fun e => wpAny (model X.prog X.w) X.A (noteFrame e X.env)
  (fun _ => wpAny (model X.prog X.w) X.A (setFlight e none) (fun _ => wpAny (model X.prog X.w) X.A (handleBy e X.env hds) (SP X pins D) X.xe) X.xe) X.xe
/-- try: body, with clauses -/
theorem ps_try_cl {X : Cx} {body : List Stmt} {h₀ : ExceptHandler} {hds : List ExceptHandler} {l : List (Value × ClW)} {pos : Pos} {tb : WX → TS} (hs : X.stack = X.env :: X.outer) (hf : X.env.frame = some X.env.locals)
    (hb : ∀ (W : WX) (pn : List (Addr × Obj)) (xe : Value → Shared → Prop), Takes (X.tr pn xe) W → PassesOwn (model X.prog X.w) X.A X.env xe → PSs (X.tr pn xe) body (tb W))
    (k : Clauses X (h₀ :: hds) l) : PS X (.Try body (h₀ :: hds) [] [] pos) (fun D σ H => tb (wCl X.K D l) D σ H) := by
  refine ⟨fun pins s σ H D I h => wpAny_Try_except ?_⟩
  have ok := I.ok
  have run := (hb (wCl X.K D l) (X.pn ++ pins) (caught X pins D (h₀ :: hds)) (fun u s' xx => ?_) PassesOwn.looking).run [] s σ H D (I.toTry _) h
  · refine wpAny_mono run (fun f s1 q => ?_) (fun e s1 he => he)
    have q' := sp_try q ok
    cases f with
    | next => exact wpAny_execs_nil q'
    | _ => exact q'
  · obtain ⟨a, B, t, _, σ1, H1, cls, d, rfl, J, nb, up, sky, na, os, ag, w⟩ := xx
    refine Sky.land Zc.steady (ok.frames.trans (congrArg some hs)) hf (hs ▸ sky) fun h3 f3 u3 => ?_
    exact clauses_run k hf ⟨⟨B, t, J.ofTry ok, nb, up.trans u3, f3, os, ag⟩, na⟩ w
end Lv
namespace PySem.W
open PySem PySem.Spec PySem.Calls PyProof.Rows
/-- a class above that of x -/
theorem isi_up {K : Frag} {x t c : Value} {G : Heap → Prop} (ty : ∀ (M : Model) (h : Heap), G h → Looks M h (typeOf x) t) (e : kitOne K t c = some true) : Answers (fun s => K.In s.heap ∧ G s.heap) x c true := by
  intro dep tk prog w A R s hh
  obtain ⟨hp, gn, dr, tt, os⟩ := s
  obtain ⟨⟨kin, g⟩, fin⟩ := hh
  have lt := ty (model prog w) hp g
  unfold Builtin.«isinstance.nested»
  refine wpAny_bind (lt.at ?_)
  unfold kitOne at e
  cases tc : (t == c) with
  | true =>
    rw [if_pos rfl]
    first
      | ((repeat lk); exact fin tt)
      | exact wpAny_bind (wpAny_rule (wpAny_pure (fin tt)))
  | false =>
    rw [if_neg Bool.false_ne_true]
    rw [tc, if_neg Bool.false_ne_true] at e
    obtain ⟨l1, l2, l3⟩ := kit_cls (M := model prog w) kin e
    refine wpAny_bind (l1.at ?_)
    rw [if_pos (by decide)]
    k_delta "plainIsInstance"
    refine wpAny_bind (wpAny_bind (l2.at ?_))
    rw [if_neg (by decide)]
    refine wpAny_bind (Looks.at (lt.andThen l3) ?_)
    rw [if_pos rfl]
    first
      | exact wpAny_pure (wpAny_pure (fin tt))
      | exact wpAny_pure (fin tt)
      | exact wpAny_bind (wpAny_pure (wpAny_pure (fin tt)))
end PySem.W
namespace Lv
open PySem PySem.Spec PyProof.Rows L2
/-- isinstance(e, c), e the caught error, c its class or one above it -/
def rIsT (K : PySem.W.Frag) (D a : Addr) : List V → Hp → VK → Prop := fun xs H Q => ∃ (c : V) (cv : Value), xs = [.ref a, c] ∧ (∀ u, RelV c u → u = cv) ∧ PySem.W.kitOne K (.ref D) cv = some true ∧ Q (.bl true) H
theorem call_isT {X : Cx} {a D : Addr} {d : Option Addr} {oe : Obj} {pn : List (Addr × Obj)} (hz : Zc (.ref D) d oe) : CallR (X.suite a ((a, oe) :: pn)) (.builtin "isinstance") (rIsT X.K D a) := by
  intro pins s σ H xs us Q I r h
  obtain ⟨c, cv, rfl, hcv, e, q⟩ := h
  obtain _ | ⟨rx, _ | ⟨rc, _ | _⟩⟩ := r
  cases rx
  obtain rfl := hcv _ rc
  have ge := (I.pin (a, oe) (List.mem_append.mpr (.inl (.head _)))).1
  refine call_isinstance (S := fun _ R s => (X.K.In s.heap ∧ s.heap.get? a = some oe) ∧ ∀ tk, R (.ok (.ret (.bool true))) { s with toks := tk })
    (fun prog w A R s hs => isinstance_outer (PySem.W.isi_up (G := fun h => h.get? a = some oe) (fun M h g _ _ _ _ k q => wpAny_typeOf_ref (k _ _ g) (hz.1.symm ▸ q)) e 0 _ prog w A R s hs) (nofun)) ⟨⟨I.kIn, ge⟩, fun tk => ?_⟩
  exact ⟨.bl true, H, I.kept (t' := tk) fun _ _ z => z, rfl, q⟩
/-- repr(None) -/
def rRpN : List V → Hp → VK → Prop := fun xs H Q => xs = [.non] ∧ Q (.str "None") H
theorem call_rpN {X : Cx} : CallR X (.builtin "repr") rRpN := by
  intro pins s σ H xs us Q I r h
  obtain ⟨rfl, q⟩ := h
  obtain _ | ⟨rx, _ | _⟩ := r
  cases rx
  exact PySem.P.repr_of_none ⟨.str _, H, I.tok _, ⟨_, rfl⟩, q⟩
end Lv

namespace K02
open PySem PySem.Spec PyProof.Rows L2 Lv
def P : Program := PySem.Challenge.pw_laterivals_k02_texts_of_types
def topS (i : Nat) : Stmt := PySem.Challenge.pw_laterivals_k02_texts_of_types.main.body.getD i (.Pass ⟨0, 0, 0, 0⟩)
abbrev s_is_name : Stmt := topS 8
abbrev s_is_names : Stmt := topS 9
abbrev s_is_type : Stmt := topS 10
abbrev s_words_of : Stmt := topS 11
abbrev s_write_type : Stmt := topS 12
abbrev s_read_type : Stmt := topS 13
abbrev s_law_dice : Stmt := topS 15
abbrev s_law_roll : Stmt := topS 16
abbrev s_law_pick : Stmt := topS 17
abbrev s_law_some : Stmt := topS 18
abbrev s_law_names : Stmt := topS 19
abbrev s_law_met : Stmt := topS 20
abbrev s_law_read : Stmt := topS 21
abbrev s_law_text_right : Stmt := topS 22
abbrev s_law_spoiled : Stmt := topS 23
abbrev s_law_right : Stmt := topS 24
abbrev s_law : Stmt := topS 25
theorem sc_is_name : FnScope ["value", "sign"] ["value"] (defScope s_is_name) :=
  ⟨rfl, rfl, rfl, by decide +kernel, rfl, by decide +kernel, by decide +kernel⟩
theorem sc_is_names : FnScope ["value", "least", "most", "name"] ["value", "least", "most"] (defScope s_is_names) :=
  ⟨rfl, rfl, rfl, by decide +kernel, rfl, by decide +kernel, by decide +kernel⟩
theorem sc_is_type : FnScope ["value"] ["value"] (defScope s_is_type) :=
  ⟨rfl, rfl, rfl, by decide +kernel, rfl, by decide +kernel, by decide +kernel⟩
theorem sc_words_of : FnScope ["text", "words"] ["text"] (defScope s_words_of) :=
  ⟨rfl, rfl, rfl, by decide +kernel, rfl, by decide +kernel, by decide +kernel⟩
theorem sc_write_type : FnScope ["names"] ["names"] (defScope s_write_type) :=
  ⟨rfl, rfl, rfl, by decide +kernel, rfl, by decide +kernel, by decide +kernel⟩
theorem sc_read_type : FnScope ["text", "words"] ["text"] (defScope s_read_type) :=
  ⟨rfl, rfl, rfl, by decide +kernel, rfl, by decide +kernel, by decide +kernel⟩
theorem sc_law_dice : FnScope ["_law_script", "_law_spot", "_law_cell", "_law_whole"] ["_law_script", "_law_spot"] (defScope s_law_dice) :=
  ⟨rfl, rfl, rfl, by decide +kernel, rfl, by decide +kernel, by decide +kernel⟩
theorem sc_law_roll : FnScope ["_law_dice_here", "_law_upto", "_law_found", "_law_one", "_law_two"] ["_law_dice_here", "_law_upto"] (defScope s_law_roll) :=
  ⟨rfl, rfl, rfl, by decide +kernel, rfl, by decide +kernel, by decide +kernel⟩
theorem sc_law_pick : FnScope ["_law_dice_here", "_law_items"] ["_law_dice_here", "_law_items"] (defScope s_law_pick) :=
  ⟨rfl, rfl, rfl, by decide +kernel, rfl, by decide +kernel, by decide +kernel⟩
theorem sc_law_some : FnScope ["_law_dice_here", "_law_items", "_law_many", "_law_left", "_law_found", "_law_turn"] ["_law_dice_here", "_law_items", "_law_many"] (defScope s_law_some) :=
  ⟨rfl, rfl, rfl, by decide +kernel, rfl, by decide +kernel, by decide +kernel⟩
theorem sc_law_names : FnScope ["_law_dice_here", "_law_many", "_law_found", "_law_letters", "_law_letter", "_law_more", "_law_word", "_law_turn"] ["_law_dice_here", "_law_many"] (defScope s_law_names) :=
  ⟨rfl, rfl, rfl, by decide +kernel, rfl, by decide +kernel, by decide +kernel⟩
theorem sc_law_met : FnScope ["_law_call", "e"] ["_law_call"] (defScope s_law_met) :=
  ⟨rfl, rfl, rfl, by decide +kernel, rfl, by decide +kernel, by decide +kernel⟩
theorem sc_law_read : FnScope ["_law_text", "_law_words", "_law_word", "_law_strange", "_law_sign"] ["_law_text"] (defScope s_law_read) :=
  ⟨rfl, rfl, rfl, by decide +kernel, rfl, by decide +kernel, by decide +kernel⟩
theorem sc_law_text_right : FnScope ["_law_text", "_law_due"] ["_law_text"] (defScope s_law_text_right) :=
  ⟨rfl, rfl, rfl, by decide +kernel, rfl, by decide +kernel, by decide +kernel⟩
theorem sc_law_spoiled : FnScope ["_law_dice_here", "_law_text", "_law_at", "_law_way", "_law_words", "_law_sign", "_law_spot"] ["_law_dice_here", "_law_text"] (defScope s_law_spoiled) :=
  ⟨rfl, rfl, rfl, by decide +kernel, rfl, by decide +kernel, by decide +kernel⟩
theorem sc_law_right : FnScope ["_law_dice_here", "_law_names_here", "_law_text", "_law_turn", "_law_other", "_law_odd"] ["_law_dice_here"] (defScope s_law_right) :=
  ⟨rfl, rfl, rfl, by decide +kernel, rfl, by decide +kernel, by decide +kernel⟩
theorem sc_law : FnScope ["_law_script", "_law_spot", "_law_dice_here", "_law_long", "_law_texts", "_law_text"] ["_law_script"] (defScope s_law) :=
  ⟨rfl, rfl, rfl, by decide +kernel, rfl, by decide +kernel, by decide +kernel⟩
/-- where the text's defs and constants stand; which names are still built-in -/
structure Tx (K : PySem.W.Frag) (mg : Str → Option Value) where
  f_is_name : Addr
  d_is_name : FuncData
  F_is_name : Fun K "is_name" "is_name" s_is_name f_is_name d_is_name
  b_is_name : Binds K d_is_name ["value"] []
  g_is_name : mg "is_name" = some (.ref f_is_name)
  f_is_names : Addr
  d_is_names : FuncData
  F_is_names : Fun K "is_names" "is_names" s_is_names f_is_names d_is_names
  b_is_names : Binds K d_is_names ["value", "least", "most"] []
  g_is_names : mg "is_names" = some (.ref f_is_names)
  f_is_type : Addr
  d_is_type : FuncData
  F_is_type : Fun K "is_type" "is_type" s_is_type f_is_type d_is_type
  b_is_type : Binds K d_is_type ["value"] []
  g_is_type : mg "is_type" = some (.ref f_is_type)
  f_words_of : Addr
  d_words_of : FuncData
  F_words_of : Fun K "words_of" "words_of" s_words_of f_words_of d_words_of
  b_words_of : Binds K d_words_of ["text"] []
  g_words_of : mg "words_of" = some (.ref f_words_of)
  f_write_type : Addr
  d_write_type : FuncData
  F_write_type : Fun K "write_type" "write_type" s_write_type f_write_type d_write_type
  b_write_type : Binds K d_write_type ["names"] []
  g_write_type : mg "write_type" = some (.ref f_write_type)
  f_read_type : Addr
  d_read_type : FuncData
  F_read_type : Fun K "read_type" "read_type" s_read_type f_read_type d_read_type
  b_read_type : Binds K d_read_type ["text"] []
  g_read_type : mg "read_type" = some (.ref f_read_type)
  f__law_dice : Addr
  d__law_dice : FuncData
  F__law_dice : Fun K "_law_dice" "_law_dice" s_law_dice f__law_dice d__law_dice
  b__law_dice : Binds K d__law_dice ["_law_script", "_law_spot"] []
  g__law_dice : mg "_law_dice" = some (.ref f__law_dice)
  f__law_roll : Addr
  d__law_roll : FuncData
  F__law_roll : Fun K "_law_roll" "_law_roll" s_law_roll f__law_roll d__law_roll
  b__law_roll : Binds K d__law_roll ["_law_dice_here", "_law_upto"] []
  g__law_roll : mg "_law_roll" = some (.ref f__law_roll)
  f__law_pick : Addr
  d__law_pick : FuncData
  F__law_pick : Fun K "_law_pick" "_law_pick" s_law_pick f__law_pick d__law_pick
  b__law_pick : Binds K d__law_pick ["_law_dice_here", "_law_items"] []
  g__law_pick : mg "_law_pick" = some (.ref f__law_pick)
  f__law_some : Addr
  d__law_some : FuncData
  F__law_some : Fun K "_law_some" "_law_some" s_law_some f__law_some d__law_some
  b__law_some : Binds K d__law_some ["_law_dice_here", "_law_items", "_law_many"] []
  g__law_some : mg "_law_some" = some (.ref f__law_some)
  f__law_names : Addr
  d__law_names : FuncData
  F__law_names : Fun K "_law_names" "_law_names" s_law_names f__law_names d__law_names
  b__law_names : Binds K d__law_names ["_law_dice_here", "_law_many"] []
  g__law_names : mg "_law_names" = some (.ref f__law_names)
  f__law_met : Addr
  d__law_met : FuncData
  F__law_met : Fun K "_law_met" "_law_met" s_law_met f__law_met d__law_met
  b__law_met : Binds K d__law_met ["_law_call"] []
  g__law_met : mg "_law_met" = some (.ref f__law_met)
  f__law_read : Addr
  d__law_read : FuncData
  F__law_read : Fun K "_law_read" "_law_read" s_law_read f__law_read d__law_read
  b__law_read : Binds K d__law_read ["_law_text"] []
  g__law_read : mg "_law_read" = some (.ref f__law_read)
  f__law_text_right : Addr
  d__law_text_right : FuncData
  F__law_text_right : Fun K "_law_text_right" "_law_text_right" s_law_text_right f__law_text_right d__law_text_right
  b__law_text_right : Binds K d__law_text_right ["_law_text"] []
  g__law_text_right : mg "_law_text_right" = some (.ref f__law_text_right)
  f__law_spoiled : Addr
  d__law_spoiled : FuncData
  F__law_spoiled : Fun K "_law_spoiled" "_law_spoiled" s_law_spoiled f__law_spoiled d__law_spoiled
  b__law_spoiled : Binds K d__law_spoiled ["_law_dice_here", "_law_text"] []
  g__law_spoiled : mg "_law_spoiled" = some (.ref f__law_spoiled)
  f__law_right : Addr
  d__law_right : FuncData
  F__law_right : Fun K "_law_right" "_law_right" s_law_right f__law_right d__law_right
  b__law_right : Binds K d__law_right ["_law_dice_here"] []
  g__law_right : mg "_law_right" = some (.ref f__law_right)
  f_law : Addr
  d_law : FuncData
  F_law : Fun K "law" "law" s_law f_law d_law
  b_law : Binds K d_law ["_law_script"] []
  g_law : mg "law" = some (.ref f_law)
  t_MAX_DEPTH : Tok
  m_MAX_DEPTH : mg "MAX_DEPTH" = some (.int (400) t_MAX_DEPTH)
  t_MAX_LETTERS : Tok
  m_MAX_LETTERS : mg "MAX_LETTERS" = some (.int (8) t_MAX_LETTERS)
  a_KEYWORDS : Addr
  m_KEYWORDS : mg "KEYWORDS" = some (.ref a_KEYWORDS)
  q_KEYWORDS : ∀ H : Hp, SqT K H a_KEYWORDS [.str "gives", .str "to"]
  n_abs : mg "abs" = none
  n_all : mg "all" = none
  n_int : mg "int" = none
  n_isinstance : mg "isinstance" = none
  n_len : mg "len" = none
  n_list : mg "list" = none
  n_max : mg "max" = none
  n_min : mg "min" = none
  n_range : mg "range" = none
  n_repr : mg "repr" = none
  n_str : mg "str" = none
  n_tuple : mg "tuple" = none
  c__law_text_right : Addr
  P__law_text_right : Addr
  k__law_text_right : d__law_text_right.code = .ref c__law_text_right
  c__law_right : Addr
  P__law_right : Addr
  k__law_right : d__law_right.code = .ref c__law_right
  c_law : Addr
  P_law : Addr
  k_law : d_law.code = .ref c_law
  pn__law_text_right__law_right : P__law_text_right ≠ P__law_right
  pn__law_text_right_law : P__law_text_right ≠ P_law
  pn__law_right_law : P__law_right ≠ P_law
  C_RivalError : Addr
  m_RivalError : mg "RivalError" = some (.ref C_RivalError)
  C_InvalidWord : Addr
  m_InvalidWord : mg "InvalidWord" = some (.ref C_InvalidWord)
  C_ParseError : Addr
  m_ParseError : mg "ParseError" = some (.ref C_ParseError)
  x_InvalidWord : XCl K mg "InvalidWord" C_InvalidWord
  fI_ParseError : Addr
  p_ParseError : PySem.PeX.Txt P K mg "ParseError" "ParseError.__init__" "line" "line " " cannot be read" C_ParseError fI_ParseError
  exm_InvalidWord_InvalidWord : PySem.W.exmOne K (.ref C_InvalidWord) (.ref C_InvalidWord) = some true
  exm_InvalidWord_ParseError : PySem.W.exmOne K (.ref C_InvalidWord) (.ref C_ParseError) = some false
  exm_ParseError_InvalidWord : PySem.W.exmOne K (.ref C_ParseError) (.ref C_InvalidWord) = some false
  exm_ParseError_ParseError : PySem.W.exmOne K (.ref C_ParseError) (.ref C_ParseError) = some true
  kit_ParseError_RivalError : PySem.W.kitOne K (.ref C_ParseError) (.ref C_RivalError) = some true

open PySem PySem.Spec PyProof.Rows L2 Lv
local macro_rules | `(tactic| walk_at "rd") => `(tactic| simp only [cxOf, Cx.nox, Cx.wish, tSeq, tIfS, tOr, tAnd, tB, tTest, tCB, tCons, tVar, tC, tNil, tNot, tNotV, tRet, tOp, tUn, tNext, tDrop, tAsg, gName, gSub, gCons, gNil, gSub, gCons, gNil, tYes, wipe, tFor_eq, tLc_eq, iStr, iTup, iList, iRng1, tBM, tBM0, tM0, tM1, tSl, tPart, tNoPart, tDisp, tPairs, tDNewK, rU, and_assoc, tIf, tAndV, tOrV, tChain, tTup, tLst, tCall, tPar, rI0, rI, rEq, rNe, L2.start,
  List.map_cons, List.map_nil, List.length_cons, List.length_nil, Nat.reduceAdd, Nat.reduceSub, Nat.zero_add, Nat.sub_self, Nat.add_one_sub_one, List.replicate_zero, List.replicate_succ, List.append_nil, List.cons_append, List.nil_append, List.set_cons_zero, List.set_cons_succ,
  List.getElem?_cons_zero, List.getElem?_cons_succ, Option.some.injEq, exists_eq_left', exists_eq_left, exists_eq_right, exists_and_left, exists_and_right, V.bl.injEq, V.int.injEq, V.str.injEq, V.ref.injEq, List.cons.injEq, and_true, true_and, Bool.false_eq_true, Bool.true_eq_false, if_true, if_false, ite_true, ite_false, decide_true, decide_false, Bool.not_false, Bool.not_true, if_pos, reduceIte])
local macro_rules | `(tactic| walk_at "kn") => `(tactic| first | exact Kn.non | exact Kn.bl _ | exact Kn.int _ | exact Kn.str _ | exact Kn.lst (by assumption) | exact Kn.tup (by assumption) | exact Kn.dK (by assumption))
local macro_rules | `(tactic| walk_at "isi") => `(tactic| first | refine isi_kn (b := true) (by walk_at "kn") (by decide +kernel) ?_ | refine isi_kn (b := false) (by walk_at "kn") (by decide +kernel) ?_)

section
variable {w : World} {K : PySem.W.Frag} {mg : Str → Option Value} {base : Heap}
theorem ok_is_name (T : Tx K mg) : FnOk P w K mg base CX0 1 T.f_is_name T.d_is_name ["value"] sp_is_name := by
  refine T.F_is_name.ok sc_is_name (fun vs H Q E h => ?_) (fun cdv A outer s H vs Q E hr h => ?_)
  · obtain ⟨v, t, rfl, _⟩ := h
    rfl
  · obtain ⟨v, t, rfl, k, hz, q⟩ := h
    refine ⟨_, (pss_cons (ps_if (PW.pt (pw_or (pt_not (pt_val (pe_callB call_isi (by rfl) T.n_isinstance (by decide +kernel) (pa_cons (pv 0) (pa_cons (pe_bltn (v := .ty "str") (by rfl) T.n_str (by decide +kernel) rfl) pa_nil))))) (pw_or (pt_not (pt_chain op_le op_le pe_int (pe_callB call_len_str (by rfl) T.n_len (by decide +kernel) (pa_cons (pv 0) pa_nil)) (pe_glob (v := .int (8)) (by rfl) T.m_MAX_LETTERS ⟨_, rfl⟩))) (pw_or1 (pt_cmpR op_in_seq (pv 0) (pe_glob (v := .ref T.a_KEYWORDS) (by rfl) T.m_KEYWORDS rfl) (by rfl)))))) (pss_one (ps_ret pe_bl)) pss_nil)
      (pss_one (ps_ret (pe_callB (cr_all rfl) (by rfl) T.n_all (by decide +kernel) (pa_cons (pe_lc (own := [("sign", 1)]) (g := gName 1) (by rfl) sc_is_name.nd (pi_str (pv 0)) (blkOk_by (own := [("sign", 1)]) (N := ["value", "sign"]) (sc := defScope s_is_name) (by decide +kernel)) (fun _ _ _ _ _ => (pg_name (i := 1) sc_is_name.nd rfl (Or.inl rfl))) (fun _ _ _ _ _ => pts_nil) (fun _ _ _ _ _ => (pe_chain op_le_str op_le_str pe_str (pv 1) pe_str))) pa_nil))))), ?_⟩
    walk_at "rd"
    cases k
    all_goals (walk_at "isi"; walk_at "rd")
    all_goals try exact q _ (Same.refl _)
    rename_i z
    have hl := hz z rfl
    have q' : ∀ (b : Bool) H', isNm z = b → Same H H' → Q (V.bl b) H' := fun b H' e s => e ▸ q H' s
    refine ⟨hl, ite2 (fun h1 => ite2 (fun h2 => ?_) (fun h2 => ?_)) (fun h1 => ?_)⟩
    · refine q' _ _ ?_ (Same.refl _)
      unfold isNm
      have h2' : decide ((z.length : Int) ≤ 8) = false := by simpa using h2
      simp only [h2', Bool.and_false, Bool.false_and]
    · refine ⟨T.a_KEYWORDS, _, rfl, .inr (T.q_KEYWORDS H), rfl, rfl, _, rfl, ite2 (fun h3 => ?_) (fun h3 => ?_)⟩
      · refine q' _ _ ?_ (Same.refl _)
        unfold isNm
        simp only [Bool.false_eq_true, if_false] at h3
        simp [h3]
      · refine lc_same walk_str (fun i => .bl (lowC (z.cps.toList[i]?.getD 0))) hl (fun _ _ => trivial) ?_ mono_name mono_yes ?_
        · rintro i x H1 H2 hi hS ⟨rfl, c, hc, rfl⟩ R hR
          walk_at "rd"
          have e : z.cps.toList[i]?.getD 0 = c := by
            rw [Array.getElem?_toList, hc]
            rfl
          have hR' := hR H2 (Same.refl _)
          rw [e] at hR'
          unfold lowC at hR'
          refine ite2 (fun h4 => ?_) (fun h4 => ?_)
          · rw [show (!decide ([c] < (Str.ofString "a").cps.toList)) = true from h4, Bool.true_and] at hR'
            exact hR'
          · rw [Bool.not_eq_true] at h4
            rw [show (!decide ([c] < (Str.ofString "a").cps.toList)) = false from h4, Bool.false_and] at hR'
            exact hR'
        · intro H2 D hS hD hL
          have e : ((List.range z.cps.size).map fun i => V.bl (lowC (z.cps.toList[i]?.getD 0))) = (z.cps.toList.map lowC).map V.bl := by
            rw [← range_map lowC z.cps.toList, List.map_map]
            rfl
          rw [e] at hL
          refine ⟨D, z.cps.toList.map lowC, rfl, .inl (.inl hL), q' _ _ ?_ hS⟩
          unfold isNm
          simp only [Bool.false_eq_true, if_false] at h3
          simp at h1 h2 h3
          simp [h1, h2, h3]
    · refine q' _ _ ?_ (Same.refl _)
      unfold isNm
      have h1' : decide ((1 : Int) ≤ z.length) = false := by simpa using h1
      simp only [h1', Bool.false_and]
theorem ok_is_names (T : Tx K mg) : FnOk P w K mg base CX0 2 T.f_is_names T.d_is_names ["value", "least", "most"] sp_is_names := by
  refine T.F_is_names.ok sc_is_names (fun vs H Q E h => ?_) (fun cdv A outer s H vs Q E hr h => ?_)
  · obtain ⟨v, xs, b, lo, hi, rfl, _⟩ := h
    rfl
  · obtain ⟨v, xs, b, lo, hi, rfl, hh, k, q⟩ := h
    refine ⟨_, (pss_one (ps_ret (pe_and (pe_callB call_isi (by rfl) T.n_isinstance (by decide +kernel) (pa_cons (pv 0) (pa_cons (pe_bltn (v := .ty "tuple") (by rfl) T.n_tuple (by decide +kernel) rfl) pa_nil))) (pe_and (pe_chain op_le op_le (pv 1) (pe_callB call_lenQ (by rfl) T.n_len (by decide +kernel) (pa_cons (pv 0) pa_nil)) (pv 2)) (pe_one (pe_callB (cr_all rfl) (by rfl) T.n_all (by decide +kernel) (pa_cons (pe_lc (own := [("name", 3)]) (g := gName 3) (by rfl) sc_is_names.nd (pi_tup (pv 0)) (blkOk_by (own := [("name", 3)]) (N := ["value", "least", "most", "name"]) (sc := defScope s_is_names) (by decide +kernel)) (fun _ _ _ _ _ => (pg_name (i := 3) sc_is_names.nd rfl (Or.inl rfl))) (fun _ _ _ _ _ => pts_nil) (fun _ _ _ _ _ => (pe_call (ok_is_name T) (hr.mono (by decide)) (by rfl) T.g_is_name T.F_is_name.kp T.b_is_name .nil pass0 (pa_cons (pv 3) pa_nil)))) pa_nil))))))), ?_⟩
    walk_at "rd"
    cases k with
    | oth k n =>
      refine isi_kn k (kit_ntup k n) ?_
      walk_at "rd"
      exact q _ (Same.refl _)
    | tup h k z =>
      walk_at "isi"
      walk_at "rd"
      rename_i a
      have hT : SqT K H a xs := .inl (.inl h)
      have q' : ∀ (b : Bool) H', namesV xs lo hi = b → Same H H' → Q (V.bl b) H' := fun b H' e s => by
        have := q H' s
        rw [Bool.true_and, e] at this
        exact this
      refine lenT hT ?_
      walk_at "rd"
      refine ite2 (fun h1 => ite2 (fun h2 => ?_) (fun h2 => ?_)) (fun h1 => ?_)
      · refine ⟨⟨xs, hT⟩, lc_same walk_tup (fun i => .bl (nameV (xs[i]?.getD .non))) (Nat.le_of_lt (small1000 (by have := of_decide_eq_true h2; omega))) (fun H' s => Evl.ex_t s hT) ?_ mono_name mono_yes ?_⟩
        · rintro i x H1 H2 hi hS ⟨rfl, hx⟩ R hR
          walk_at "rd"
          have hm : x ∈ xs := List.mem_of_getElem? hx
          obtain ⟨t, kt⟩ := k x hm
          rw [hx] at hR
          exact ⟨x, t, rfl, kt.same hS, fun y e => z y (e ▸ hm), hR⟩
        · intro H2 D hS hD hL
          have e : ((List.range xs.length).map fun i => V.bl (nameV (xs[i]?.getD .non))) = (xs.map nameV).map V.bl := by
            rw [List.map_map]
            apply List.ext_getElem
            · simp
            · intro i h1 h2
              have h3 : i < xs.length := by simpa using h2
              simp [h3]
          rw [e] at hL
          refine ⟨D, xs.map nameV, rfl, .inl (.inl hL), q' _ _ ?_ hS⟩
          unfold namesV
          rw [h1, h2]
          simp
      · refine q' _ _ ?_ (Same.refl _)
        unfold namesV
        have h2' : decide ((xs.length : Int) ≤ hi) = false := by simpa using h2
        rw [h2', Bool.and_false, Bool.false_and]
      · refine q' _ _ ?_ (Same.refl _)
        unfold namesV
        have h1' : decide (lo ≤ (xs.length : Int)) = false := by simpa using h1
        rw [h1', Bool.false_and, Bool.false_and]
theorem ok_is_type (T : Tx K mg) : FnOk P w K mg base CX0 3 T.f_is_type T.d_is_type ["value"] sp_is_type := by
  refine T.F_is_type.ok sc_is_type (fun vs H Q E h => ?_) (fun cdv A outer s H vs Q E hr h => ?_)
  · obtain ⟨v, xs, b, rfl, _⟩ := h
    rfl
  · obtain ⟨v, xs, b, rfl, k, q⟩ := h
    refine ⟨_, (pss_one (ps_ret (pe_call (ok_is_names T) (hr.mono (by decide)) (by rfl) T.g_is_names T.F_is_names.kp T.b_is_names .nil pass0 (pa_cons (pv 0) (pa_cons pe_int (pa_cons (pe_op op_add (pe_glob (v := .int (400)) (by rfl) T.m_MAX_DEPTH ⟨_, rfl⟩) pe_int) pa_nil)))))), ?_⟩
    walk_at "rd"
    exact ⟨v, xs, b, 1, 401, rfl, by decide, k, q⟩
theorem ok_law_dice (T : Tx K mg) : FnOk P w K mg base CX0 1 T.f__law_dice T.d__law_dice ["_law_script", "_law_spot"] (sp_law_dice K) := by
  refine T.F__law_dice.ok sc_law_dice (fun vs H Q E h => ?_) (fun cdv A outer s H vs Q E hr h => ?_)
  · obtain ⟨a, ns, k, rfl, _⟩ := h
    rfl
  · obtain ⟨a, ns, k, rfl, hS, hk, q⟩ := h
    refine ⟨_, (pss_cons (ps_set (i := 2) sc_law_dice.nd rfl (Or.inl rfl) (pe_ifExp (pt_cmpR op_lt (pv 1) (pe_callB call_lenQ (by rfl) T.n_len (by decide +kernel) (pa_cons (pv 0) pa_nil)) (nomark _)) (pe_ix ix_list (pv 0) (pv 1) (fun _ _ => rfl)) (pe_op op_add (pe_op op_mul pe_int (pv 1)) pe_int)))
      (pss_cons (ps_set (i := 3) sc_law_dice.nd rfl (Or.inl rfl) (pe_op op_mod (pe_callTy call_intI (by rfl) T.n_int (by decide +kernel) (pa_cons (pe_callB call_abs (by rfl) T.n_abs (by decide +kernel) (pa_cons (pv 2) pa_nil)) pa_nil)) (pe_op op_powW (pe_op op_pow pe_int pe_int) pe_int)))
      (pss_one (ps_ret (pe_lst (pa_cons (pe_ifExp (pt_cmpR op_ge (pv 3) (pe_op op_pow pe_int pe_int) (nomark _)) (pv 3) pe_int) (pa_cons (pe_op op_add (pe_op op_add (pe_op op_add (pe_op op_mul pe_int (pv 3)) (pe_callTy call_intB (by rfl) T.n_int (by decide +kernel) (pa_cons (pe_cmpR op_lt (pv 2) pe_int (nomark _)) pa_nil))) (pe_op op_mul pe_int (pv 1))) pe_int) (pa_cons pe_int pa_nil)))))))), ?_⟩
    walk_at "rd"
    have big : ((10 : Int) ^ Int.toNat 57).natAbs < 2 ^ 192 := by decide +kernel
    have pw : CPowW ((10 : Int) ^ Int.toNat 57) 11 := ⟨by decide, by
      have := bits_le big (by decide)
      omega⟩
    have pos : (0 : Int) < ((10 : Int) ^ Int.toNat 57) ^ Int.toNat 11 := by decide +kernel
    have all : ∀ i : Int, CPow 10 57 ∧ CPowW (10 ^ Int.toNat 57) 11 ∧ 0 < ((10 : Int) ^ Int.toNat 57) ^ Int.toNat 11 ∧ CPow 10 18 := fun i =>
      ⟨⟨by decide, by decide, by decide⟩, pw, pos, ⟨by decide, by decide, by decide⟩⟩
    have m1 : ∀ j : Int, CMul 2 j := fun j => .inl ⟨by decide, by decide⟩
    have m2 : ∀ j : Int, CMul 131071 j := fun j => .inl ⟨by decide, by decide⟩
    refine lenL hS ?_
    walk_at "rd"
    refine ite2 (fun h1 => ?_) (fun h1 => ?_)
    · have h2 : k < ns.length := by
        have := of_decide_eq_true h1
        rw [List.length_map] at this
        omega
      refine ixl_nat hS (by rw [List.getElem?_map, List.getElem?_eq_getElem h2]; rfl) ?_
      walk_at "rd"
      exact ⟨(all 0).1, pw, pos, (all 0).2.2.2, ite2 (fun _ => ⟨m1 _, m2 _, by decide, fun p hp => q p _ _ _ hp⟩) (fun _ => ⟨m1 _, m2 _, by decide, fun p hp => q p _ _ _ hp⟩)⟩
    · exact ⟨.inl ⟨by decide, by decide⟩, (all 0).1, pw, pos, (all 0).2.2.2, ite2 (fun _ => ⟨m1 _, m2 _, by decide, fun p hp => q p _ _ _ hp⟩) (fun _ => ⟨m1 _, m2 _, by decide, fun p hp => q p _ _ _ hp⟩)⟩
theorem ok_law_roll (T : Tx K mg) : FnOk P w K mg base CX0 1 T.f__law_roll T.d__law_roll ["_law_dice_here", "_law_upto"] sp_law_roll := by
  refine T.F__law_roll.ok sc_law_roll (fun vs H Q E h => ?_) (fun cdv A outer s H vs Q E hr h => ?_)
  · obtain ⟨d, n, rfl, _⟩ := h
    rfl
  · obtain ⟨d, n, rfl, h0, h1, ⟨x, y, z, hd⟩, q⟩ := h
    refine ⟨_, (pss_cons (ps_if (pt_cmpR op_gt (pe_ix ix_list (pv 0) pe_int (fun _ _ => rfl)) pe_int (nomark _)) (pss_cons (ps_set (i := 2) sc_law_roll.nd rfl (Or.inl rfl) (pe_op op_mod (pe_callTy call_intI (by rfl) T.n_int (by decide +kernel) (pa_cons (pe_ix ix_list (pv 0) pe_int (fun _ _ => rfl)) pa_nil)) (pv 1)))
      (pss_cons (ps_asg (pe_op op_fdiv (pe_ix ix_list (pv 0) pe_int (fun _ _ => rfl)) (pv 1)) (pg_sub (pv 0) pe_int set_list))
      (pss_one (ps_ret (pv 2))))) pss_nil)
      (pss_cons (ps_asg (pe_op op_add (pe_ix ix_list (pv 0) pe_int (fun _ _ => rfl)) pe_int) (pg_sub (pv 0) pe_int set_list))
      (pss_cons (ps_set (i := 3) sc_law_roll.nd rfl (Or.inl rfl) (pe_op op_mod (pe_callTy call_intI (by rfl) T.n_int (by decide +kernel) (pa_cons (pe_op op_add (pe_op op_mul (pe_ix ix_list (pv 0) pe_int (fun _ _ => rfl)) pe_int) (pe_op op_mul (pe_ix ix_list (pv 0) pe_int (fun _ _ => rfl)) pe_int)) pa_nil)) pe_int))
      (pss_cons (ps_set (i := 4) sc_law_roll.nd rfl (Or.inl rfl) (pe_op op_mod (pe_callTy call_intI (by rfl) T.n_int (by decide +kernel) (pa_cons (pe_op op_add (pe_op op_mul (pv 3) (pv 3)) (pe_op op_mul (pe_ix ix_list (pv 0) pe_int (fun _ _ => rfl)) pe_int)) pa_nil)) pe_int))
      (pss_one (ps_ret (pe_op op_mod (pe_callTy call_intI (by rfl) T.n_int (by decide +kernel) (pa_cons (pe_op op_fdiv (pe_op op_mod (pe_callTy call_intI (by rfl) T.n_int (by decide +kernel) (pa_cons (pe_op op_add (pe_op op_mul (pv 4) (pv 4)) (pv 3)) pa_nil)) pe_int) pe_int) pa_nil)) (pv 1)))))))), ?_⟩
    walk_at "rd"
    have b1 := Int.emod_nonneg
    refine ixl (.inl (.inl hd)) rfl ?_
    walk_at "rd"
    refine ite2 (fun hx => ?_) (fun hx => ?_)
    · refine ixl (.inl (.inl hd)) rfl ?_
      walk_at "rd"
      refine ⟨h0, ixl (.inl (.inl hd)) rfl ?_⟩
      walk_at "rd"
      refine ⟨⟨h0, h1⟩, setl hd rfl ?_⟩
      exact q _ _ _ _ (Int.emod_nonneg _ (by omega)) (Int.emod_lt_of_pos _ h0)
    · refine ixl (.inl (.inl hd)) rfl ?_
      walk_at "rd"
      refine setl hd rfl ?_
      refine ixl (.inl (.inl upd_same)) rfl ?_
      walk_at "rd"
      refine ⟨.inr ⟨by decide, by decide⟩, ixl (.inl (.inl upd_same)) rfl ?_⟩
      walk_at "rd"
      refine ⟨.inr ⟨by decide, by decide⟩, by decide, ?_⟩
      generalize hone : (y * 25214903917 + (z + 1) * 40692) % 2305843009213693951 = one
      have o1 : 0 ≤ one := hone ▸ Int.emod_nonneg _ (by decide)
      have o2 : one < 2305843009213693951 := hone ▸ Int.emod_lt_of_pos _ (by decide)
      refine ⟨.inl ⟨by omega, by omega⟩, ixl (.inl (.inl upd_same)) rfl ?_⟩
      walk_at "rd"
      refine ⟨.inr ⟨by decide, by decide⟩, by decide, ?_⟩
      generalize htwo : (one * one + (z + 1) * 69621) % 1152921504606846883 = two
      have t1 : 0 ≤ two := htwo ▸ Int.emod_nonneg _ (by decide)
      have t2 : two < 1152921504606846883 := htwo ▸ Int.emod_lt_of_pos _ (by decide)
      refine ⟨.inl ⟨by omega, by omega⟩, by decide, ⟨by decide, by decide⟩, h0, ?_⟩
      exact q _ _ _ _ (Int.emod_nonneg _ (by omega)) (Int.emod_lt_of_pos _ h0)
theorem ok_law_pick (T : Tx K mg) : FnOk P w K mg base CX0 2 T.f__law_pick T.d__law_pick ["_law_dice_here", "_law_items"] (sp_law_pick K) := by
  refine T.F__law_pick.ok sc_law_pick (fun vs H Q E h => ?_) (fun cdv A outer s H vs Q E hr h => ?_)
  · obtain ⟨d, v, rfl, _⟩ := h
    rfl
  · obtain ⟨d, v, rfl, hd, h⟩ := h
    refine ⟨_, (pss_one (ps_ret (pe_ix ix_seq (pv 1) (pe_call (ok_law_roll T) (hr.mono (by decide)) (by rfl) T.g__law_roll T.F__law_roll.kp T.b__law_roll .nil pass0 (pa_cons (pv 0) (pa_cons (pe_callB call_len (by rfl) T.n_len (by decide +kernel) (pa_cons (pv 1) pa_nil)) pa_nil))) (fun _ _ => rfl)))), ?_⟩
    walk_at "rd"
    rcases h with ⟨p, xs, rfl, ne, hS, hne, hlen, q⟩ | ⟨z, rfl, hz, h0, h1, q⟩
    · have hpos : 0 < xs.length := List.length_pos_iff.mpr hne
      refine ⟨xs.length, .inl ⟨xs, hS, rfl⟩, d, _, rfl, by omega, by omega, hd, fun r x y z r0 r1 => ?_⟩
      obtain ⟨j, rfl⟩ := Int.eq_ofNat_of_zero_le r0
      have hj : j < xs.length := by omega
      have g : Gr d H _ := Gr.roll (x := x) (y := y) (z := z) hd
      exact .inl ⟨p, xs, _, xs[j], rfl, rfl, g.sql ne hS, atI_nat (List.getElem?_eq_getElem hj), q _ _ (List.getElem_mem hj) g⟩
    · refine ⟨z.length, ⟨hz, rfl⟩, d, _, rfl, by omega, by omega, hd, fun r x y z' r0 r1 => ?_⟩
      obtain ⟨j, rfl⟩ := Int.eq_ofNat_of_zero_le r0
      have hj : j < z.cps.toList.length := by
        have : (j : Int) < (z.cps.size : Nat) := r1
        rw [Array.length_toList]
        omega
      have g : Gr d H _ := Gr.roll (x := x) (y := y) (z := z') hd
      exact .inr (.inr ⟨z, _, z.cps.toList[j], rfl, rfl, hz, atI_nat (List.getElem?_eq_getElem hj), q _ _ (List.getElem_mem hj) g⟩)
theorem ok_law_some (T : Tx K mg) : FnOk P w K mg base CX0 2 T.f__law_some T.d__law_some ["_law_dice_here", "_law_items", "_law_many"] sp_law_some := by
  refine T.F__law_some.ok sc_law_some (fun vs H Q E h => ?_) (fun cdv A outer s H vs Q E hr h => ?_)
  · obtain ⟨d, v, n, rfl, _⟩ := h
    rfl
  · obtain ⟨d, z, n, rfl, hd, hn, hz, q⟩ := h
    refine ⟨_, (pss_cons (ps_par (i := 3) (j := 4) (by rfl) sc_law_some.nd rfl rfl (by decide) rfl rfl (pa_cons (pe_callTy (call_listS rfl) (by rfl) T.n_list (by decide +kernel) (pa_cons (pv 1) pa_nil)) (pa_cons (pe_lst pa_nil) pa_nil)) (by rfl))
      (pss_cons (ps_for PassesOwn.never rfl (pi_range1 (by rfl) T.n_range (pa_cons (pe_callB (call_min2 rfl) (by rfl) T.n_min (by decide +kernel) (pa_cons (pv 2) (pa_cons (pe_callB call_lenQ (by rfl) T.n_len (by decide +kernel) (pa_cons (pv 3) pa_nil)) pa_nil))) pa_nil)) (pg_name (i := 5) sc_law_some.nd rfl (Or.inl rfl)) (pss_one (ps_expr (pe_bm PySem.F.plainAttrs_list PySem.F.slot_list_append PySem.F.type_list_append mt_append (pv 4) (pa_cons (pe_bm PySem.F.plainAttrs_list PySem.F.slot_list_pop PySem.F.type_list_pop mt_popAt (pv 3) (pa_cons (pe_call (ok_law_roll T) (hr.mono (by decide)) (by rfl) T.g__law_roll T.F__law_roll.kp T.b__law_roll .nil pass0 (pa_cons (pv 0) (pa_cons (pe_callB call_lenQ (by rfl) T.n_len (by decide +kernel) (pa_cons (pv 3) pa_nil)) pa_nil))) pa_nil)) pa_nil)))))
      (pss_one (ps_ret (pv 4))))), ?_⟩
    walk_at "rd"
    refine ⟨sz100 (by omega), fun l hl => ⟨by decide, fun p hp => ?_⟩⟩
    have npl : p ≠ l := fun e => by
      rw [e, upd_same] at hp
      cases hp
    have nl : l ≠ d := hd.ne hl
    have hp0 : H p = none := by
      rw [upd_ne npl] at hp
      exact hp
    have np : p ≠ d := hd.ne hp0
    have hlen : (sgs z).length = z.length := by
      unfold sgs
      rw [List.length_map, Array.length_toList]
      rfl
    refine lenL (xs := sgs z) (sql_of (by rw [upd_ne npl.symm, upd_same])) ?_
    walk_at "rd"
    rw [hlen]
    have em : (if (z.length : Int) < n then (z.length : Int) else n).toNat = min n.toNat z.length := by
      split <;> omega
    refine ⟨by split <;> omega, by split <;> omega, ?_⟩
    rw [em]
    refine forB walk_range (inv_some d l p z n H) ?_ (fun _ _ _ _ _ => trivial) ?_ ?_
    · refine ⟨none, sgs z, [], rfl, ?_, ?_, upd_same, by omega, rfl, fun y h => h, fun y h => nomatch h⟩
      · exact ((Gr.new hd hl).mut hp0 np)
      · rw [upd_ne npl.symm, upd_same]
    · rintro i x σ H1 H2 hi ⟨x5, ls, fs, rfl, g, h1, h2, e1, e2, m1, m2⟩ ⟨rfl, rfl⟩
      walk_at "rd"
      refine ⟨tyl (sql_of h2), tyl (sql_of h1), lenL (sql_of h1) ?_⟩
      refine ⟨d, _, rfl, by omega, by omega, g.dice, fun r x y w r0 r1 => ?_⟩
      obtain ⟨j, rfl⟩ := Int.eq_ofNat_of_zero_le r0
      have hj : j < ls.length := by omega
      have g2 : Gr d H2 (upd H2 d (.lst [.int x, .int y, .int w])) := Gr.roll g.dice
      refine ⟨l, ls, _, j, ls[j], rfl, rfl, g2.keep _ _ nl h1, by omega, ?_, seqIx hj, List.getElem?_eq_getElem hj, ?_⟩
      · omega
      refine ⟨p, fs, ls[j], rfl, rfl, ?_, sz100' (by omega), ?_⟩
      · rw [upd_ne npl]
        exact g2.keep _ _ np h2
      · refine ⟨_, ls.eraseIdx j, fs ++ [ls[j]], rfl, ((g.trans g2).mut hl nl).mut hp0 np, ?_, upd_same, ?_, ?_, ?_, ?_⟩
        · rw [upd_ne npl.symm, upd_same]
        · rw [List.length_eraseIdx, if_pos hj]
          omega
        · rw [List.length_append, e2]
          rfl
        · intro y hy
          exact m1 y (List.mem_of_mem_eraseIdx hy)
        · intro y hy
          rcases List.mem_append.mp hy with hy | hy
          · exact m2 y hy
          · rw [List.mem_singleton.mp hy]
            exact m1 _ (List.getElem_mem hj)
    · rintro σ H1 ⟨x5, ls, fs, rfl, g, h1, h2, e1, e2, m1, m2⟩
      walk_at "rd"
      exact q p H1 fs g hp0 np h2 m2 e2
theorem ok_law_names (T : Tx K mg) : FnOk P w K mg base CX0 3 T.f__law_names T.d__law_names ["_law_dice_here", "_law_many"] sp_law_names := by
  refine T.F__law_names.ok sc_law_names (fun vs H Q E h => ?_) (fun cdv A outer s H vs Q E hr h => ?_)
  · obtain ⟨d, n, rfl, _⟩ := h
    rfl
  · obtain ⟨d, n, rfl, hd, hn, q⟩ := h
    refine ⟨_, (pss_cons (ps_asg (pe_tup (pa_cons (pe_lst pa_nil) (pa_cons pe_str pa_nil))) (pg_tup (n := 2) rfl (pgs_cons (pg_name (i := 2) sc_law_names.nd rfl (Or.inl rfl)) (pgs_cons (pg_name (i := 3) sc_law_names.nd rfl (Or.inr rfl)) pgs_nil))))
      (pss_cons (ps_for PassesOwn.never rfl (pi_list (pe_call (ok_law_some T) (hr.mono (by decide)) (by rfl) T.g__law_some T.F__law_some.kp T.b__law_some .nil pass0 (pa_cons (pv 0) (pa_cons (pv 3) (pa_cons (pv 1) pa_nil))))) (pg_name (i := 4) sc_law_names.nd rfl (Or.inl rfl)) (pss_cons (ps_set (i := 5) sc_law_names.nd rfl (Or.inl rfl) (pe_call (ok_law_pick T) (hr.mono (by decide)) (by rfl) T.g__law_pick T.F__law_pick.kp T.b__law_pick .nil pass0 (pa_cons (pv 0) (pa_cons (pe_lst (pa_cons pe_int (pa_cons pe_int (pa_cons pe_int (pa_cons pe_int (pa_cons pe_int (pa_cons pe_int (pa_cons pe_int (pa_cons pe_int pa_nil))))))))) pa_nil))))
      (pss_cons (ps_set (i := 6) sc_law_names.nd rfl (Or.inl rfl) (pe_op op_add_str (pv 4) (pe_joinN pe_str (pe_lc (own := [("_law_turn", 7)]) (g := gName 7) (by rfl) sc_law_names.nd (pi_range1 (by rfl) T.n_range (pa_cons (pv 5) pa_nil)) (blkOk_by (own := [("_law_turn", 7)]) (N := ["_law_dice_here", "_law_many", "_law_found", "_law_letters", "_law_letter", "_law_more", "_law_word", "_law_turn"]) (sc := defScope s_law_names) (by decide +kernel)) (fun _ _ _ _ _ => (pg_name (i := 7) sc_law_names.nd rfl (Or.inl rfl))) (fun _ _ _ _ _ => pts_nil) (fun _ _ _ _ _ => (pe_call (ok_law_pick T) (hr.mono (by decide)) (by rfl) T.g__law_pick T.F__law_pick.kp T.b__law_pick .nil pass0 (pa_cons (pv 0) (pa_cons (pv 3) pa_nil))))))))
      (pss_one (ps_expr (pe_bm PySem.F.plainAttrs_list PySem.F.slot_list_append PySem.F.type_list_append mt_append (pv 2) (pa_cons (pe_ifExp (pt_cmpR op_in_seq (pv 6) (pe_tup (pa_cons pe_str (pa_cons pe_str pa_nil))) (by rfl)) (pv 4) (pv 6)) pa_nil)))))))
      (pss_one (ps_ret (pv 2))))), ?_⟩
    walk_at "rd"
    refine ⟨by decide, fun p hp => ⟨by decide, fun t ht => ⟨t, _, rfl, sqt_of upd_same, rfl, ?_⟩⟩⟩
    walk_at "rd"
    have np : p ≠ d := hd.ne hp
    have ntp : t ≠ p := fun e => by
      rw [e, upd_same] at ht
      cases ht
    have ht0 : H t = none := by
      rw [upd_ne ntp] at ht
      exact ht
    have g0 : Gr d H (upd (upd H p (.lst [])) t (.tup [.ref p, .str abc])) := (Gr.new hd hp).mut ht0 (hd.ne ht0)
    refine ⟨d, abc, n, rfl, g0.dice, hn, by decide +kernel, fun l H1 ys g1 hl nl h1 hy hlen => ?_⟩
    walk_at "rd"
    have npl : p ≠ l := fun e => by
      rw [← e, upd_ne ntp.symm, upd_same] at hl
      cases hl
    have hl0 : H l = none := g0.back hl
    refine ⟨⟨ys, sql_of h1⟩, forB (walk_list (xs := ys)) (inv_names d l p n ys H) ?_ ?_ ?_ ?_⟩
    · refine ⟨none, none, none, none, [], rfl, g0.trans g1, h1, g1.keep _ _ np ?_, rfl, fun w h => nomatch h⟩
      rw [upd_ne ntp.symm, upd_same]
      rfl
    · rintro i σ H2 _ ⟨x4, x5, x6, x7, ws, rfl, g, e1, e2, e3, e4⟩
      exact sql_of e1
    · rintro i x σ H2 H3 hi ⟨x4, x5, x6, x7, ws, rfl, g, e1, e2, e3, e4⟩ ⟨rfl, hx⟩
      have hys : ys.length ≤ 26 := by
        have : abc.length = 26 := by decide +kernel
        omega
      have hm := hy x (List.mem_of_getElem? hx)
      obtain ⟨c, hc, rfl⟩ := List.mem_map.mp hm
      walk_at "rd"
      refine ⟨by decide, fun r hr => ?_⟩
      have nr : r ≠ d := g.dice.ne hr
      refine ⟨d, _, rfl, (Gr.new g.dice hr).dice, .inl ⟨r, _, rfl, nr, sql_of upd_same, by simp, by decide, fun y H4 hy4 g4 => ?_⟩⟩
      have hy5 : ∃ k : Nat, y = .int k ∧ k ≤ 7 := by
        simp only [List.mem_cons, List.not_mem_nil, or_false] at hy4
        rcases hy4 with h | h | h | h | h | h | h | h <;> subst h
        · exact ⟨0, rfl, by decide⟩
        · exact ⟨0, rfl, by decide⟩
        · exact ⟨0, rfl, by decide⟩
        · exact ⟨0, rfl, by decide⟩
        · exact ⟨1, rfl, by decide⟩
        · exact ⟨2, rfl, by decide⟩
        · exact ⟨4, rfl, by decide⟩
        · exact ⟨7, rfl, by decide⟩
      obtain ⟨m, rfl, hm7⟩ := hy5
      have g5 := ((Gr.new g.dice hr).trans g4)
      walk_at "rd"
      refine ⟨⟨_, rfl⟩, by omega, by omega, ?_⟩
      refine lc_gr walk_range (fun _ y => ∃ c, y = V.str (sg c) ∧ c ∈ abc.cps.toList) (sz100 (by omega)) g5.dice (fun _ _ => trivial) ?_ mono_name mono_yes ?_
      · rintro i2 x2 H5 H6 hi2 g6 ⟨rfl, rfl⟩ R hR
        walk_at "rd"
        refine ⟨d, _, rfl, g6.dice, .inr ⟨abc, rfl, by decide +kernel, by decide +kernel, by decide +kernel, fun c H7 hc g7 => hR _ _ ⟨c, rfl, hc⟩ g7⟩⟩
      · intro H5 D zs g6 hD nD hzl hzs hL
        obtain ⟨cs, rfl, hcl, hcs⟩ := ex_cs (P := fun c => c ∈ abc.cps.toList) fun i y hy => hzs i y hy
        have htl : TL.tl (sg c ++ Txt.join (Str.ofString "") (cs.map sg)) = c :: cs := by
          rw [TL.tl_append, tl_joinSg]
          rfl
        have hwl : (sg c ++ Txt.join (Str.ofString "") (cs.map sg)).length = 1 + cs.length := by
          rw [len_tl, htl, List.length_cons]
          omega
        have hjl : (Txt.join (Str.ofString "") (cs.map sg)).length = cs.length := by
          rw [len_tl, tl_joinSg]
        have hc7 : cs.length ≤ 7 := by
          rw [hcl, hzl]
          omega
        have hp5 : H5 p = some (.lst (ws.map V.str)) := g6.keep _ _ np (g5.keep _ _ np e2)
        refine joinL' (sql_of hL) ?_ ?_
        · rw [sum_ones, show (Str.ofString "").length = 0 from rfl]
          omega
        walk_at "rd"
        refine ⟨?_, tyl (sql_of hp5), by decide, fun t2 ht2 => ⟨t2, _, rfl, .inr (sqt_of upd_same), rfl, rfl, _, rfl, ?_⟩⟩
        · rw [hjl]
          show 1 + cs.length ≤ sizeLine
          exact sz100 (by omega)
        have gH : Gr d H H5 := (g.trans g5).trans g6
        have ht20 : H t2 = none := gH.back ht2
        have nt2 : t2 ≠ d := hd.ne ht20
        have nt2p : p ≠ t2 := fun e => by
          rw [← e, hp5] at ht2
          cases ht2
        have nt2l : l ≠ t2 := fun e => by
          rw [← e, g6.keep _ _ nl (g5.keep _ _ nl e1)] at ht2
          cases ht2
        have gH2 : Gr d H (upd H5 t2 (.tup [.str (Str.ofString "to"), .str (Str.ofString "gives")])) := gH.mut ht20 nt2
        have hp6 : (upd H5 t2 (.tup [.str (Str.ofString "to"), .str (Str.ofString "gives")])) p = some (.lst (ws.map V.str)) := by
          rw [upd_ne nt2p]
          exact hp5
        have hcl' : lowC c = true := abc_low c hc
        have fin : ∀ wd : Str, isNm wd = true → ∀ x6 x7, rAppend (V.ref p) [V.str wd] (upd H5 t2 (.tup [.str (Str.ofString "to"), .str (Str.ofString "gives")])) fun x H1 =>
            inv_names d l p n ys H (i + 1) [some (V.ref d), some (V.int n), some (V.ref p), some (V.str abc), some (V.str (sg c)), some (V.int m), x6, x7] H1 := by
          intro wd hw x6 x7
          refine ⟨p, _, _, rfl, rfl, hp6, by rw [List.length_map]; exact sz100' (by omega), some (.str (sg c)), some (.int m), x6, x7, ws ++ [wd], rfl, gH2.mut hp np, ?_, ?_, ?_, ?_⟩
          · rw [upd_ne npl.symm, upd_ne nt2l]
            exact g6.keep _ _ nl (g5.keep _ _ nl e1)
          · rw [upd_same, List.map_append]
            rfl
          · rw [List.length_append, e3]
            rfl
          · intro w hw2
            rcases List.mem_append.mp hw2 with h | h
            · exact e4 w h
            · rw [List.mem_singleton.mp h]
              exact hw
        refine ite2 (fun h => fin _ (isNm_one c hc) _ _) (fun h => fin _ ?_ _ _)
        refine isNm_of (Nat.le_trans (Nat.le_add_right 1 cs.length) (Nat.le_of_eq hwl.symm)) (Nat.le_trans (Nat.le_of_eq hwl) (by omega)) ?_ ?_
        · rw [inV_swap]
          simpa using h
        · rw [htl]
          intro x hx
          rcases List.mem_cons.mp hx with rfl | hx
          · exact hcl'
          · exact abc_low x (hcs x hx)
    · rintro σ H2 ⟨x4, x5, x6, x7, ws, rfl, g, e1, e2, e3, e4⟩
      walk_at "rd"
      have : abc.length = 26 := by decide +kernel
      exact q p H2 ws g hp np e2 e4 (by rw [e3, hlen, this])
end

section
variable {w : World} {K : PySem.W.Frag} {mg : Str → Option Value} {base : Heap}
theorem ok_words_of (T : Tx K mg) : FnOk P w K mg base CX0 1 T.f_words_of T.d_words_of ["text"] sp_words_of := by
  refine T.F_words_of.ok sc_words_of (fun vs H Q E h => ?_) (fun cdv A outer s H vs Q E hr h => ?_)
  · obtain ⟨v, t, rfl, _⟩ := h
    rfl
  · obtain ⟨v, t, rfl, k, q0, q⟩ := h
    refine ⟨_, (pss_cons (ps_if (pt_not (pt_val (pe_callB call_isi (by rfl) T.n_isinstance (by decide +kernel) (pa_cons (pv 0) (pa_cons (pe_bltn (v := .ty "str") (by rfl) T.n_str (by decide +kernel) rfl) pa_nil))))) (pss_one (ps_ret pe_non)) pss_nil)
      (pss_cons (ps_set (i := 1) sc_words_of.nd rfl (Or.inl rfl) (pe_split (pv 0) pe_str))
      (pss_one (ps_ret (pe_ifExp (pt_cmpR op_in_seq pe_str (pv 1) (by rfl)) pe_non (pv 1)))))), ?_⟩
    walk_at "rd"
    cases k
    all_goals (walk_at "isi"; walk_at "rd")
    all_goals try exact q0 fun z e => nomatch e
    rename_i z
    obtain ⟨hz, q1, q2⟩ := q z rfl
    refine ⟨⟨_, rfl⟩, rfl, hz, fun p hp => ⟨p, _, rfl, .inl (sql_of upd_same), rfl, ?_, _, rfl, ?_⟩⟩
    · rw [List.all_map, List.all_eq_true]
      intro x _
      rfl
    · show if inV (.str none') ((Txt.split z blank).map V.str) = true then _ else _
      rw [in_empty]
      refine ite2 (fun h => q1 (of_decide_eq_true h) _ (same_new hp)) (fun h => q2 (fun h' => h (decide_eq_true h')) p _ (same_new hp) hp upd_same)
theorem Told.same {H H' : Hp} {v : V} {xs : List V} {b : Bool} (t : Told H v xs b) (s : Same H H') : Told H' v xs b := by
  cases t with
  | tup h k z => exact .tup (s _ _ h) (fun x hx => (k x hx).imp fun _ q => q.same s) z
  | oth k n => exact .oth (k.same s) n
theorem names_strs {xs : List V} {lo hi : Int} (h : namesV xs lo hi = true) : ∃ ws : List Str, xs = ws.map V.str ∧ (∀ w ∈ ws, isNm w = true) ∧ lo ≤ ws.length ∧ ws.length ≤ hi := by
  unfold namesV at h
  simp only [Bool.and_eq_true, decide_eq_true_eq] at h
  obtain ⟨ws, rfl, hw⟩ : ∃ ws : List Str, xs = ws.map V.str ∧ ∀ w ∈ ws, isNm w = true := by
    have h3 := h.2
    clear h
    induction xs with
    | nil => exact ⟨[], rfl, fun w h => nomatch h⟩
    | cons x xs ih =>
      rw [List.all_cons, Bool.and_eq_true] at h3
      obtain ⟨ws, rfl, hw⟩ := ih h3.2
      cases x with
      | str z =>
        refine ⟨z :: ws, rfl, fun w h => ?_⟩
        rcases List.mem_cons.mp h with rfl | h
        · exact h3.1
        · exact hw w h
      | _ => exact nomatch h3.1
  rw [List.length_map] at h
  exact ⟨ws, rfl, hw, h.1.1, h.1.2⟩
def spx_write (CW : Addr) : Sp := fun vs H Q E => ∃ (v : V) (xs : List V) (b : Bool), vs = [v] ∧ Told H v xs b ∧
  ((b && namesV xs 1 401) = false → ∀ H', Same H H' → E (.ref CW) none H') ∧
  ((b && namesV xs 1 401) = true → ∀ ws, xs = ws.map V.str → ∀ H', Same H H' → Q (.str (tx ws)) H')
theorem ok_write_type (T : Tx K mg) : FnOk P w K mg base (L2.CX P w) 4 T.f_write_type T.d_write_type ["names"] (spx_write T.C_InvalidWord) := by
  refine T.F_write_type.okX sc_write_type (fun vs H Q E h => ?_) (fun cdv A outer s H vs Q E hr h => ?_)
  · obtain ⟨v, xs, b, rfl, _⟩ := h
    rfl
  · obtain ⟨v, xs, b, rfl, tv, q0, q1⟩ := h
    refine ⟨_, (pss_cons (ps_if (pt_not (pt_val (pe_call (ok_is_type T) (hr.mono (by decide)) (by rfl) T.g_is_type T.F_is_type.kp T.b_is_type .nil pass0 (pa_cons (pv 0) pa_nil)))) (pss_one (ps_raise rfl (takes_of rfl rfl rfl rfl) (pmk_own PySem.F.excBase_ValueError T.x_InvalidWord.ex T.x_InvalidWord.g T.x_InvalidWord.kp (raises_own T.x_InvalidWord.sb T.x_InvalidWord.ty) (by rfl)))) pss_nil)
      (pss_one (ps_ret (pe_joinN pe_str (pv 0))))), ?_⟩
    walk_at "rd"
    refine ⟨v, xs, b, rfl, tv, fun H1 s1 => ?_⟩
    walk_at "rd"
    refine ite2 (fun h => q0 (by revert h; cases (b && namesV xs 1 401) <;> simp) _ s1) (fun h => ?_)
    have hb : (b && namesV xs 1 401) = true := by simpa using h
    cases tv with
    | oth k n => exact nomatch hb
    | @tup a xs ha k z =>
      obtain ⟨ws, rfl, hw, h1, h2⟩ := names_strs (show namesV _ _ _ = true from hb)
      refine ⟨⟨_, rfl⟩, _, a, ws, rfl, rfl, .inr (sqt_of (s1 _ _ ha)), ?_, q1 hb ws rfl _ s1⟩
      have h3 := sum_le8 hw
      show _ + ws.length * 1 ≤ _
      omega
theorem joinL_mem (S : List Nat) : ∀ (ps : List (List Nat)) (p : List Nat), p ∈ ps → p.length ≤ (TL.joinL S ps).length
  | [], p, h => nomatch h
  | [q], p, h => by
    rw [List.mem_singleton.mp h]
    exact Nat.le_refl _
  | q :: r :: rs, p, h => by
    show _ ≤ (q ++ (S ++ TL.joinL S (r :: rs))).length
    rw [List.length_append, List.length_append]
    rcases List.mem_cons.mp h with rfl | h
    · omega
    · have := joinL_mem S (r :: rs) p h
      omega
theorem tx_of_split (z : Str) : tx (Txt.split z blank) = z := by
  unfold tx
  rw [TL.join_eq]
  exact StrLaws.join_split z blank
theorem word_len {z w : Str} (h : w ∈ Txt.split z blank) : w.length ≤ z.length := by
  have h1 := joinL_mem (TL.tl blank) ((Txt.split z blank).map TL.tl) (TL.tl w) (List.mem_map_of_mem h)
  rw [← TL.tl_join, ← TL.join_eq] at h1
  rw [len_tl, len_tl]
  have h2 : Txt.join blank (Txt.split z blank) = z := tx_of_split z
  rw [h2] at h1
  exact h1
theorem itmS {H : Hp} {ws : List Str} (h : ∀ w ∈ ws, w.length ≤ 100000) : Itm H (ws.map V.str) := by
  refine ⟨fun x hx => ?_, fun y hy => ?_⟩
  · obtain ⟨w, _, rfl⟩ := List.mem_map.mp hx
    exact ⟨_, .str w⟩
  · obtain ⟨w, hw, e⟩ := List.mem_map.mp hy
    cases e
    exact sz100 (h _ hw)
/-- the words of a text are a type -/
def okW (z : Str) : Bool := namesV ((Txt.split z blank).map V.str) 1 401
theorem okW_ne {z : Str} (h : none' ∈ Txt.split z blank) : okW z = false := names_bad (x := .str none') (List.mem_map_of_mem h) (by decide)
def spx_read (CP : Addr) : Sp := fun vs H Q E => ∃ (v : V) (t : String), vs = [v] ∧ Kn H v t ∧
  ((∀ z, v ≠ .str z) → ∀ d H', Same H H' → H' d = some (.xd [(("line" : Str), .non)]) → E (.ref CP) (some d) H') ∧
  ∀ z, v = .str z → z.length ≤ 90000 ∧ (okW z = false → ∀ d H', Same H H' → H' d = some (.xd [(("line" : Str), .non)]) → E (.ref CP) (some d) H') ∧
    (okW z = true → ∀ p H', Same H H' → H' p = some (.tup ((Txt.split z blank).map V.str)) → Q (.ref p) H')
theorem ok_read_type (T : Tx K mg) : FnOk P w K mg base (L2.CX P w) 5 T.f_read_type T.d_read_type ["text"] (spx_read T.C_ParseError) := by
  refine T.F_read_type.okX sc_read_type (fun vs H Q E h => ?_) (fun cdv A outer s H vs Q E hr h => ?_)
  · obtain ⟨v, t, rfl, _⟩ := h
    rfl
  · obtain ⟨v, t, rfl, k, q0, q1⟩ := h
    refine ⟨_, (pss_cons (ps_set (i := 1) sc_read_type.nd rfl (Or.inl rfl) (pe_call (ok_words_of T) (hr.mono (by decide)) (by rfl) T.g_words_of T.F_words_of.kp T.b_words_of .nil pass0 (pa_cons (pv 0) pa_nil)))
      (pss_cons (ps_if (PW.pt (pw_or (pt_cmpR op_isN (pv 1) pe_non (nomark _)) (pw_or1 (pt_not (pt_val (pe_call (ok_is_type T) (hr.mono (by decide)) (by rfl) T.g_is_type T.F_is_type.kp T.b_is_type .nil pass0 (pa_cons (pe_callTy call_tupL (by rfl) T.n_tuple (by decide +kernel) (pa_cons (pv 1) pa_nil)) pa_nil))))))) (pss_one (ps_raise rfl (takes_of rfl rfl rfl rfl) (pmk_none T.p_ParseError (by decide) (by decide) hr (pa_cons pe_non pa_nil) rfl (by decide)))) pss_nil)
      (pss_one (ps_ret (pe_callTy call_tupL (by rfl) T.n_tuple (by decide +kernel) (pa_cons (pv 1) pa_nil)))))), ?_⟩
    walk_at "rd"
    have mkE : ∀ {H1 : Hp} {σ : L2.St}, Same H H1 → (∀ d H', Same H H' → H' d = some (.xd [(("line" : Str), .non)]) → E (.ref T.C_ParseError) (some d) H') → tMkN T.C_ParseError (tCons (tC V.non) tNil) σ H1 (fun cls d H' => E cls d H') :=
      fun s1 q => ⟨rfl, fun d hd => q d _ (s1.trans (same_new hd)) upd_same⟩
    refine ⟨v, t, rfl, k, fun hv => ?_, fun z hz => ?_⟩
    · show if decide (V.non = V.non) = true then _ else _
      rw [decide_eq_true rfl]
      exact iteT (mkE (Same.refl _) (q0 hv))
    · obtain ⟨zl, q2, q3⟩ := q1 z hz
      refine ⟨sz100 (by omega), fun hn H1 s1 => ?_, fun hn p H1 s1 hp f1 => ?_⟩
      · show if decide (V.non = V.non) = true then _ else _
        rw [decide_eq_true rfl]
        exact iteT (mkE s1 (q2 (okW_ne hn)))
      · show if decide (V.ref p = V.non) = true then _ else _
        rw [decide_eq_false (show ¬ V.ref p = V.non from fun e => nomatch e)]
        refine iteF (tupL (sql_of f1) fun p2 hp2 => istype upd_same (itmS fun w hw => by have := word_len hw; omega) fun H2 s2 => ?_)
        have s3 := (same_new hp2).trans s2
        refine ⟨_, rfl, ite2 (fun h => mkE (s1.trans s3) (q2 ?_)) (fun h => tupL (sql_of (s3 _ _ f1)) fun p4 hp4 => q3 ?_ p4 _ ((s1.trans s3).trans (same_new hp4)) upd_same)⟩
        · simpa [okW] using h
        · simpa [okW] using h
end

section
variable {w : World} {K : PySem.W.Frag} {mg : Str → Option Value} {base : Heap}
/-- the dict of ParseError(None) -/
abbrev PN : HO := .xd [(("line" : Str), .non)]
open LamX in
/-- what _law_met makes of what it calls -/
def TMet (CW CP : Addr) : (XK → Hp → VK → Prop) → Hp → VK → Prop := fun tl H Q =>
  tl (fun cls d H' => (cls = .ref CW ∧ ∀ H'', Same H' H'' → Q (.str "word") H'') ∨ (cls = .ref CP ∧ ∃ dd, d = some dd ∧ H' dd = some PN ∧ ∀ H'', Same H' H'' → Q (.str "parse None") H'')) H fun _ H' => Q (.str "fine") H'
def tsMet (CP : Addr) : Addr → Value → Option Addr → TS := fun a cls d D σ H => (∃ σ0 : L2.St, σ = σ0.set 1 (some (.ref a))) ∧ cls = .ref CP ∧ ∃ dd, d = some dd ∧ H dd = some PN ∧ ∀ H', Same H H' → D.rt (.str "parse None") H'
theorem two {α : Type} {l : List α} (h : l.length = 2) : ∃ a b, l = [a, b] := by
  match l, h with
  | [a, b], _ => exact ⟨a, b, rfl⟩
theorem pss_when {X : Cx} {st : List Stmt} {t : TS} (h : ∀ pins s σ H D, L2.Inv X pins σ H s → t D σ H → ∃ t', PSs X st t' ∧ t' D σ H) : PSs X st t :=
  ⟨fun pins s σ H D I ht => let ⟨_, p, q⟩ := h pins s σ H D I ht; p.run pins s σ H D I q⟩
theorem met_gives {X : Cx} (T : Tx X.K X.mg) (q : Str) (cdg : Value) :
    LamX.GivesTo X ["_law_call", "e"] "_law_met" (defScope s_law_met) T.f__law_met cdg (defBody s_law_met) "_law_call" q (TMet T.C_InvalidWord T.C_ParseError) := by
  intro f c' s H Q tl act hc h
  refine ⟨_, pss_cons (ps_try_cl
      (tb := fun W D σ H => ∃ Ech : XK, (∀ cls d σ' H', Ech cls d H' → W cls d σ' H') ∧ σ[0]? = some (some (.ref f)) ∧ H c' = some (LamX.CodeO c' q) ∧ tl Ech H (fun _ H1 => D.nx σ H1))
      rfl rfl (fun W pn xe tk _ => ?_)
      (.cons (.named (i := 1) (ts := tsMet T.C_ParseError) sc_law_met.nd rfl rfl ⟨rfl, by decide, .inl T.m_ParseError⟩ (fun a oe cls d pn hz hf => ?_))
        (.cons (.plain ⟨rfl, by decide, .inl T.m_InvalidWord⟩ (fun a oe cls d pn hz hf => pss_one (ps_ret pe_str))) .nil))) (pss_one (ps_ret pe_str)), ?_⟩
  · refine pss_when fun pins s' σ H' D I h' => ?_
    obtain ⟨Ech, hW, h1, h2, h3⟩ := h'
    exact ⟨_, pss_one (ps_expr (act W pn xe Ech _ _ tk hW)), h1, h2, h3⟩
  · refine pss_when fun pins s' σ H' D I h' => ?_
    obtain ⟨⟨σ0, rfl⟩, rfl, dd, rfl, hd, hq⟩ := h'
    obtain ⟨x0, x1, rfl⟩ := two (show σ0.length = 2 by have := I.len; rw [List.length_set] at this; exact this)
    refine ⟨_, pss_one (ps_ret (pe_ifExp (pt_val (pe_callB (call_isT hz) (by rfl) T.n_isinstance (by decide +kernel) (pa_cons (pv 1) (pa_cons (pe_glob (v := .ref T.C_RivalError) (by rfl) T.m_RivalError rfl) pa_nil))))
      (pe_op op_add_str pe_str (pe_callB call_rpN (by rfl) T.n_repr (by decide +kernel) (pa_cons (pe_xf (C := T.C_ParseError) ⟨T.p_ParseError.ga, T.p_ParseError.gg, T.p_ParseError.exC, T.p_ParseError.hdC⟩ T.p_ParseError.noN hz hf (pv 1)) pa_nil))) pe_str)), ?_⟩
    walk_at "rd"
    exact ⟨_, _, rfl, fun u e => e, T.kit_ParseError_RivalError, _, rfl, iteT ⟨_, rfl, rfl, rfl, dd, _, .non, rfl, hd, rfl, rfl, _, rfl, by decide, hq _ (Same.refl _)⟩⟩
  · refine ⟨_, fun cls d σ' H' hE => ?_, rfl, hc, h⟩
    rcases hE with ⟨rfl, hq⟩ | ⟨rfl, dd, rfl, hd, hq⟩
    · exact .inr ⟨T.exm_InvalidWord_ParseError, .inl ⟨T.exm_InvalidWord_InvalidWord, fun a ha => hq _ (Same.refl _)⟩⟩
    · exact .inl ⟨T.exm_ParseError_ParseError, fun a ha => ⟨⟨σ', rfl⟩, rfl, dd, rfl, hd, hq⟩⟩
theorem met_to {X : Cx} {K : PySem.W.Frag} {mg : Str → Option Value} (T : Tx K mg) (q : Str) (cdg : Value) (hK : X.K = K) (hm : X.mg = mg) :
    LamX.GivesTo X ["_law_call", "e"] "_law_met" (defScope s_law_met) T.f__law_met cdg (defBody s_law_met) "_law_call" q (TMet T.C_InvalidWord T.C_ParseError) := by
  subst hK hm
  exact met_gives T q cdg
end

section
variable {w : World} {K : PySem.W.Frag} {mg : Str → Option Value} {base : Heap}
theorem joinL_sub (S : List Nat) (c : Nat) : ∀ (ps : List (List Nat)) (p : List Nat), p ∈ ps → c ∈ p → c ∈ TL.joinL S ps
  | [], p, h, _ => nomatch h
  | [q], p, h, hc => by
    rw [List.mem_singleton.mp h] at hc
    exact hc
  | q :: r :: rs, p, h, hc => by
    show c ∈ q ++ (S ++ TL.joinL S (r :: rs))
    rcases List.mem_cons.mp h with rfl | h
    · exact List.mem_append_left _ hc
    · exact List.mem_append_right _ (List.mem_append_right _ (joinL_sub S c (r :: rs) p h hc))
theorem pl_split {z w : Str} (h : Pl z) (hw : w ∈ Txt.split z blank) : Pl w := by
  intro c hc
  have h1 := joinL_sub (TL.tl blank) c ((Txt.split z blank).map TL.tl) (TL.tl w) (List.mem_map_of_mem hw) hc
  rw [← TL.tl_join, ← TL.join_eq] at h1
  have h2 : Txt.join blank (Txt.split z blank) = z := tx_of_split z
  rw [h2] at h1
  exact h c h1
theorem walk_sgs {z : Str} : Walk (Its z) (sgs z).length (fun _ => True) (YAt (sgs z)) := by
  have e : (sgs z).length = z.cps.size := by rw [sgs_eq, List.length_map, Array.length_toList]
  rw [e]
  refine ⟨walk_str.goes, walk_str.stops, fun i H x H' hi g y => ?_⟩
  obtain ⟨h1, c, h2, h3⟩ := walk_str.yields i H x H' hi g y
  refine ⟨h1, ?_⟩
  rw [sgs_eq, List.getElem?_map, Array.getElem?_toList, h2, h3]
  rfl
theorem neLs {H : Hp} {a b : Addr} {xs ys : List Str} {Q : VK} (ha : SqL K H a (xs.map V.str)) (hb : SqL K H b (ys.map V.str)) (px : ∀ w ∈ xs, Pl w) (py : ∀ w ∈ ys, Pl w) (q : Q (.bl (!decide (xs = ys))) H) : rNeD K (.ref a) (.ref b) H Q := by
  refine ⟨dLs xs, dLs ys, .lst ha (dpS xs), .lst hb (dpS ys), shapedL px, shapedL py, ?_⟩
  simp only [dLs, PyData.eqv, eqvS]
  exact q
/-- a sign that is no letter -/
def oddV : V → Bool
  | .str y => !y.cps.toList.all lowC
  | _ => false
theorem abc_all : ∀ c : Nat, c < 256 → decide (c ∈ abc.cps.toList) = lowC c := by decide +kernel
theorem odd_list {z : Str} : (sgs z).filter oddV = ((z.cps.toList.filter fun c => !lowC c).map sg).map V.str := by
  rw [sgs_eq, List.filter_map, List.map_map]
  congr 1
  refine List.filter_congr fun c _ => ?_
  show (!([c].all lowC)) = !lowC c
  simp
theorem nm_filt {y : Str} (h : isNm y = true) : (y.cps.toList.filter fun c => !lowC c) = [] := by
  unfold isNm at h
  simp only [Bool.and_eq_true] at h
  rw [List.filter_eq_nil_iff]
  intro c hc
  rw [List.all_eq_true.mp h.2 c hc]
  decide
theorem filt_low {y : Str} (h : ∀ c ∈ y.cps.toList, lowC c = true) : ∀ c ∈ TL.tl y, lowC c = true := h
theorem cnt_pos (c : Nat) : ∀ l : List Nat, 0 ≤ cnt c l
  | [] => by rw [cnt_nil]; decide
  | n :: r => by
    have := cnt_pos c r
    rw [cnt_cons]
    split <;> omega
theorem split_pos (z : Str) : (1 : Int) ≤ (Txt.split z blank).length := by
  have h := split_len z 32
  have h2 := cnt_pos 32 z.cps.toList
  have e : Txt.split z blank = Txt.split z ⟨#[32]⟩ := rfl
  rw [e]
  omega
def inv_read (z : Str) (p : Addr) (Hk : Hp) : Nat → L2.St → Hp → Prop := fun i σ H' =>
  ∃ (x2 x3 : Option V), σ = [some (.str z), some (.ref p), x2, x3, none] ∧ Same Hk H' ∧ ∀ w ∈ (Txt.split z blank).take i, isNm w = true
def sp_read : Sp := fun vs H Q _ => ∃ (z : Str), vs = [.str z] ∧ z.length ≤ 90000 ∧ Pl z ∧ (okW z = false → ∀ H', Same H H' → Q .non H') ∧
  (okW z = true → ∀ p H', Same H H' → H' p = some (.tup ((Txt.split z blank).map V.str)) → Q (.ref p) H')
theorem ok_law_read (T : Tx K mg) : FnOk P w K mg base CX0 1 T.f__law_read T.d__law_read ["_law_text"] sp_read := by
  refine T.F__law_read.ok sc_law_read (fun vs H Q E h => ?_) (fun cdv A outer s H vs Q E hr h => ?_)
  · obtain ⟨z, rfl, _⟩ := h
    rfl
  · obtain ⟨z, rfl, hz, pz, q0, q1⟩ := h
    refine ⟨_, (pss_cons (ps_set (i := 1) sc_law_read.nd rfl (Or.inl rfl) (pe_split (pv 0) pe_str))
      (pss_cons (ps_if (pt_cmpR op_gt (pe_callB call_lenQ (by rfl) T.n_len (by decide +kernel) (pa_cons (pv 1) pa_nil)) pe_int (nomark _)) (pss_one (ps_ret pe_non)) pss_nil)
      (pss_cons (ps_for PassesOwn.never rfl (pi_list (pv 1)) (pg_name (i := 2) sc_law_read.nd rfl (Or.inl rfl)) (pss_cons (ps_setLc (i := 3) (own := [("_law_sign", 4)]) (g := gName 4) (by rfl) sc_law_read.nd rfl rfl (sw_true rfl rfl rfl (by decide +kernel)) (pi_str (pv 2)) (blkOk_by (own := [("_law_sign", 4)]) (N := ["_law_text", "_law_words", "_law_word", "_law_strange", "_law_sign"]) (sc := defScope s_law_read) (by decide +kernel)) (fun _ _ _ _ _ => (pg_name (i := 4) sc_law_read.nd rfl (Or.inl rfl))) (fun _ _ _ _ _ => (pts_one (pt_cmpR op_notIn_str (pv 4) pe_str (by rfl)))) (fun _ _ _ _ _ => (pv 4)))
      (pss_one (ps_if (PW.pt (pw_or (pt_cmpR (op_neD hr.units) (pv 3) (pe_lst pa_nil) (nomark _)) (pw_or (pt_not (pt_chain op_le op_le pe_int (pe_callB call_len_str (by rfl) T.n_len (by decide +kernel) (pa_cons (pv 2) pa_nil)) pe_int)) (pw_or1 (pt_cmpR op_in_seq (pv 2) (pe_tup (pa_cons pe_str (pa_cons pe_str pa_nil))) (by rfl)))))) (pss_one (ps_ret pe_non)) pss_nil))))
      (pss_one (ps_ret (pe_callTy call_tupL (by rfl) T.n_tuple (by decide +kernel) (pa_cons (pv 1) pa_nil))))))), ?_⟩
    walk_at "rd"
    refine ⟨⟨_, rfl⟩, rfl, sz100 (by omega), fun p hp => ?_⟩
    have s1 := same_new (o := .lst ((Txt.split z blank).map V.str)) hp
    have f1 : upd H p (.lst ((Txt.split z blank).map V.str)) p = some (.lst ((Txt.split z blank).map V.str)) := upd_same
    generalize upd H p (.lst ((Txt.split z blank).map V.str)) = H1 at *
    refine lenL (sql_of f1) ⟨_, rfl, ite2 (fun h => q0 ?_ _ s1) (fun h => ⟨p, rfl, ⟨_, sql_of f1⟩, ?_⟩)⟩
    · refine names_len ?_
      have := of_decide_eq_true h
      omega
    rw [List.length_map] at h
    refine forB (walk_list (xs := (Txt.split z blank).map V.str)) (inv_read z p H1) ⟨_, _, rfl, Same.refl _, fun w hw => (nomatch hw)⟩ (fun i σ H' _ h => ?_) ?_ ?_
    · obtain ⟨x2, x3, rfl, s2, _⟩ := h
      exact sql_of (s2 _ _ f1)
    · rintro i x σ K1 K2 hi ⟨x2, x3, rfl, s2, hb⟩ ⟨rfl, hx⟩
      rw [List.getElem?_map] at hx
      obtain ⟨y, hy, rfl⟩ := Option.map_eq_some_iff.mp hx
      have my : y ∈ Txt.split z blank := List.mem_of_getElem? hy
      have ly := word_len my
      have py := pl_split pz my
      have bad : isNm y = false → ∀ H', Same H1 H' → Q .non H' := fun e H' s' => q0 (names_bad (x := .str y) (List.mem_map_of_mem my) e) H' (s1.trans s')
      walk_at "rd"
      refine lc_filt walk_sgs oddV (by rw [sgs_eq, List.length_map, Array.length_toList]; exact sz100 (show y.length ≤ _ by omega)) (fun _ _ => trivial) ?_ ?_
      · intro x H' mx s' C C' h1 h2
        rw [sgs_eq] at mx
        obtain ⟨c, hc, rfl⟩ := List.mem_map.mp mx
        have e : (!!(Builtin.Str.occurrences (Str.ofString "abcdefghijklmnopqrstuvwxyz") (sg c) 0 (Str.ofString "abcdefghijklmnopqrstuvwxyz").length 1).isEmpty) = oddV (.str (sg c)) := by
          rw [StrLaws.found_one]
          show (!decide (c ∈ abc.cps.toList)) = !([c].all lowC)
          rw [abc_all c (py c hc)]
          simp
        walk_at "rd"
        rw [e]
        exact ite2 (fun h => h1 h _ (Same.refl _)) (fun h => h2 (by simpa using h) _ (Same.refl _))
      · intro K3 D s3 hD fD
        rw [odd_list] at fD
        refine ⟨by decide, fun p4 hp4 => ?_⟩
        have s4 := same_new (o := .lst []) hp4
        have f4 : upd K3 p4 (.lst []) p4 = some (.lst []) := upd_same
        generalize upd K3 p4 (.lst []) = K4 at *
        have c4 := (s2.trans s3).trans s4
        refine neLs (xs := (y.cps.toList.filter fun c => !lowC c).map sg) (ys := []) (sql_of (s4 _ _ fD)) (sql_of f4) ?_ (fun w h => nomatch h) ⟨_, rfl, ite2 (fun h1 => bad ?_ _ c4) (fun h1 => ⟨sz100 (by omega), ite2 (fun h2 => ite2 (fun h3 => bad ?_ _ c4) (fun h3 => ⟨by decide, fun p5 hp5 => ?_⟩)) (fun h2 => bad ?_ _ c4)⟩)⟩
        · intro w hw c hc
          obtain ⟨c', hc', rfl⟩ := List.mem_map.mp hw
          rw [List.mem_singleton.mp (show c ∈ [c'] from hc)]
          exact py c' (List.mem_filter.mp hc').1
        · exact Bool.eq_false_iff.mpr fun hn => by simp [nm_filt hn] at h1
        · exact Bool.eq_false_iff.mpr fun hn => by have := isNm_len hn; simp at h3; omega
        · skip
          have s5 := same_new (o := .tup [V.str (Str.ofString "to"), V.str (Str.ofString "gives")]) hp5
          have f5 : upd K4 p5 (.tup [V.str (Str.ofString "to"), V.str (Str.ofString "gives")]) p5 = some (.tup [V.str (Str.ofString "to"), V.str (Str.ofString "gives")]) := upd_same
          generalize upd K4 p5 (.tup [V.str (Str.ofString "to"), V.str (Str.ofString "gives")]) = K5 at *
          refine ⟨p5, _, rfl, .inr (sqt_of f5), rfl, rfl, _, rfl, ?_⟩
          rw [inV_swap]
          refine ite2 (fun h4 => bad ?_ _ (c4.trans s5)) (fun h4 => ⟨_, _, rfl, c4.trans s5, fun w hw => ?_⟩)
          · unfold isNm
            simp at h4
            simp [h4]
          · rw [List.take_add_one, hy] at hw
            rcases List.mem_append.mp hw with hw | hw
            · exact hb w hw
            · obtain rfl := List.mem_singleton.mp hw
              refine isNm_of (by have := of_decide_eq_true h2; omega) (by simp at h3; omega) (by simpa using h4) (filt_low ?_)
              simpa using h1
        · exact Bool.eq_false_iff.mpr fun hn => by have := isNm_len hn; simp at h2; omega
    · rintro σ K1 ⟨x2, x3, rfl, s2, hb⟩
      walk_at "rd"
      rw [List.length_map, List.take_length] at hb
      refine tupL (sql_of (s2 _ _ f1)) fun p4 hp4 => q1 (names_all hb ?_ ?_) p4 _ ((s1.trans s2).trans (same_new hp4)) upd_same
      · exact split_pos z
      · simp at h
        omega
end

section
variable {w : World} {K : PySem.W.Frag} {mg : Str → Option Value} {base : Heap}
/-- the signs of some words, with a blank for each -/
def wt (ws : List Str) : Nat := (ws.map fun w => w.length + 1).sum
theorem wt_joinL : ∀ ws : List Str, (TL.joinL (TL.tl blank) (ws.map TL.tl)).length ≤ wt ws ∧ wt ws ≤ (TL.joinL (TL.tl blank) (ws.map TL.tl)).length + 1
  | [] => ⟨Nat.le_refl _, Nat.zero_le _⟩
  | [w] => by
    show (TL.tl w).length ≤ w.length + 1 + 0 ∧ w.length + 1 + 0 ≤ (TL.tl w).length + 1
    rw [← len_tl]
    omega
  | w :: v :: r => by
    have ih := wt_joinL (v :: r)
    show (TL.tl w ++ (TL.tl blank ++ TL.joinL (TL.tl blank) ((v :: r).map TL.tl))).length ≤ w.length + 1 + wt (v :: r) ∧ w.length + 1 + wt (v :: r) ≤ (TL.tl w ++ (TL.tl blank ++ TL.joinL (TL.tl blank) ((v :: r).map TL.tl))).length + 1
    rw [List.length_append, List.length_append, ← len_tl, show (TL.tl blank).length = 1 from rfl]
    omega
theorem tx_wt (ws : List Str) : (tx ws).length ≤ wt ws := by
  have h := (wt_joinL ws).1
  rw [← TL.tl_join, ← TL.join_eq, ← len_tl] at h
  exact h
theorem wt_tx (ws : List Str) : wt ws ≤ (tx ws).length + 1 := by
  have h := (wt_joinL ws).2
  rw [← TL.tl_join, ← TL.join_eq, ← len_tl] at h
  exact h
theorem wt_split (z : Str) : wt (Txt.split z blank) ≤ z.length + 1 := by
  have h := wt_tx (Txt.split z blank)
  rw [tx_of_split] at h
  exact h
theorem wt_set (w : Str) : ∀ (ws : List Str) (j : Nat), wt (ws.set j w) ≤ wt ws + (w.length + 1)
  | [], j => by simp [wt]
  | v :: r, 0 => by
    show w.length + 1 + wt r ≤ v.length + 1 + wt r + (w.length + 1)
    omega
  | v :: r, j + 1 => by
    have := wt_set w r j
    show v.length + 1 + wt (r.set j w) ≤ v.length + 1 + wt r + (w.length + 1)
    omega
theorem wt_app (a b : List Str) : wt (a ++ b) = wt a + wt b := by
  unfold wt
  rw [List.map_append, List.sum_append]
theorem wt_ins (w : Str) (ws : List Str) (j : Nat) : wt (ws.take j ++ [w] ++ ws.drop j) = wt ws + (w.length + 1) := by
  have h : wt ws = wt (ws.take j) + wt (ws.drop j) := by rw [← wt_app, List.take_append_drop]
  rw [wt_app, wt_app, h]
  show _ + (w.length + 1 + 0) + _ = _
  omega
theorem sum_wt : ∀ ws : List Str, (ws.map (·.length)).sum + ws.length * 1 ≤ wt ws
  | [] => Nat.le_refl _
  | w :: r => by
    have := sum_wt r
    show w.length + (r.map (·.length)).sum + (r.length + 1) * 1 ≤ w.length + 1 + wt r
    omega
theorem cut_len (z : Str) (lo hi : Option Int) : (cutS z lo hi).length ≤ z.length := by
  show (((z.cps.toList.drop _).take _).toArray).size ≤ z.cps.size
  rw [List.size_toArray, List.length_take, List.length_drop, Array.length_toList]
  omega
theorem pl_app {a b : Str} (ha : Pl a) (hb : Pl b) : Pl (a ++ b) := by
  intro c hc
  have h : c ∈ TL.tl (a ++ b) := hc
  rw [TL.tl_append] at h
  exact (List.mem_append.mp h).elim (ha c) (hb c)
theorem pl_cut {z : Str} {lo hi : Option Int} (h : Pl z) : Pl (cutS z lo hi) := by
  intro c hc
  exact h c (List.mem_of_mem_drop (List.mem_of_mem_take (show c ∈ (z.cps.toList.drop _).take _ from by simpa [cutS] using hc)))
theorem sig_low : ∀ c ∈ (Str.ofString "abtogivesz ABZ09*,>=;()\n-").cps.toList, c < 256 := by decide
theorem pl_joinL : ∀ ws : List Str, (∀ w ∈ ws, Pl w) → ∀ c ∈ TL.joinL (TL.tl blank) (ws.map TL.tl), c < 256
  | [], _, c, h => nomatch h
  | [w], p, c, h => p w (.head _) c h
  | w :: v :: r, p, c, h => by
    have h' : c ∈ TL.tl w ++ (TL.tl blank ++ TL.joinL (TL.tl blank) ((v :: r).map TL.tl)) := h
    rcases List.mem_append.mp h' with h' | h'
    · exact p w (.head _) c h'
    · rcases List.mem_append.mp h' with h' | h'
      · exact (show ∀ c ∈ TL.tl blank, c < 256 by decide) c h'
      · exact pl_joinL (v :: r) (fun x hx => p x (.tail _ hx)) c h'
theorem pl_tx {ws : List Str} (h : ∀ w ∈ ws, Pl w) : Pl (tx ws) := by
  intro c hc
  have h' : c ∈ TL.tl (tx ws) := hc
  unfold tx at h'
  rw [TL.join_eq, TL.tl_join] at h'
  exact pl_joinL ws h c h'
theorem way_words {l : List Str} (h : ∀ w ∈ l, w.length ≤ 9 ∧ ∀ c ∈ w.cps.toList, c < 256) {y : V} (hy : y ∈ l.map V.str) : ∃ w, y = .str w ∧ w.length ≤ 9 ∧ Pl w := by
  obtain ⟨w, hw, rfl⟩ := List.mem_map.mp hy
  exact ⟨w, rfl, h w hw⟩
def sp_spoiled : Sp := fun vs H Q _ => ∃ (d : Addr) (z : Str), vs = [.ref d, .str z] ∧ Dc H d ∧ z.length ≤ 1000 ∧ Pl z ∧ ∀ z' H', Gr d H H' → z'.length ≤ 2 * z.length + 20 → Pl z' → Q (.str z') H'
theorem ok_law_spoiled (T : Tx K mg) : FnOk P w K mg base CX0 3 T.f__law_spoiled T.d__law_spoiled ["_law_dice_here", "_law_text"] sp_spoiled := by
  refine T.F__law_spoiled.ok sc_law_spoiled (fun vs H Q E h => ?_) (fun cdv A outer s H vs Q E hr h => ?_)
  · obtain ⟨d, z, rfl, _⟩ := h
    rfl
  · obtain ⟨d, z, rfl, hd, hz, pz, q⟩ := h
    refine ⟨_, (pss_cons (ps_par3 (i := 2) (j := 3) (l := 4) (by rfl) sc_law_spoiled.nd rfl rfl rfl (by decide) (by decide) (by decide) rfl rfl rfl (pa_cons (pe_call (ok_law_roll T) (hr.mono (by decide)) (by rfl) T.g__law_roll T.F__law_roll.kp T.b__law_roll .nil pass0 (pa_cons (pv 0) (pa_cons (pe_op op_add (pe_callB call_len_str (by rfl) T.n_len (by decide +kernel) (pa_cons (pv 1) pa_nil)) pe_int) pa_nil))) (pa_cons (pe_call (ok_law_roll T) (hr.mono (by decide)) (by rfl) T.g__law_roll T.F__law_roll.kp T.b__law_roll .nil pass0 (pa_cons (pv 0) (pa_cons pe_int pa_nil))) (pa_cons (pe_split (pv 1) pe_str) pa_nil))) (by rfl))
      (pss_cons (ps_set (i := 5) sc_law_spoiled.nd rfl (Or.inl rfl) (pe_call (ok_law_pick T) (hr.mono (by decide)) (by rfl) T.g__law_pick T.F__law_pick.kp T.b__law_pick .nil pass0 (pa_cons (pv 0) (pa_cons pe_str pa_nil))))
      (pss_cons (ps_if (pt_cmpR op_eq (pv 3) pe_int (nomark _)) (pss_one (ps_ret (pe_op op_add_str (pe_op op_add_str (pe_slice sl_str (pv 1) po_none (po_some (pv 2))) (pv 5)) (pe_slice sl_str (pv 1) (po_some (pv 2)) po_none)))) pss_nil)
      (pss_cons (ps_if (pt_cmpR op_eq (pv 3) pe_int (nomark _)) (pss_one (ps_ret (pe_op op_add_str (pe_op op_add_str (pe_slice sl_str (pv 1) po_none (po_some (pv 2))) (pv 5)) (pe_slice sl_str (pv 1) (po_some (pe_op op_add (pv 2) pe_int)) po_none)))) pss_nil)
      (pss_cons (ps_if (pt_cmpR op_eq (pv 3) pe_int (nomark _)) (pss_one (ps_ret (pe_op op_add_str (pe_slice sl_str (pv 1) po_none (po_some (pv 2))) (pe_slice sl_str (pv 1) (po_some (pe_op op_add (pv 2) pe_int)) po_none)))) pss_nil)
      (pss_cons (ps_set (i := 6) sc_law_spoiled.nd rfl (Or.inl rfl) (pe_call (ok_law_roll T) (hr.mono (by decide)) (by rfl) T.g__law_roll T.F__law_roll.kp T.b__law_roll .nil pass0 (pa_cons (pv 0) (pa_cons (pe_callB call_lenQ (by rfl) T.n_len (by decide +kernel) (pa_cons (pv 4) pa_nil)) pa_nil))))
      (pss_cons (ps_if (pt_cmpR op_eq (pv 3) pe_int (nomark _)) (pss_one (ps_expr (pe_bm PySem.F.plainAttrs_list PySem.F.slot_list_insert PySem.F.type_list_insert mt_insert (pv 4) (pa_cons (pv 6) (pa_cons (pe_call (ok_law_pick T) (hr.mono (by decide)) (by rfl) T.g__law_pick T.F__law_pick.kp T.b__law_pick .nil pass0 (pa_cons (pv 0) (pa_cons (pe_lst (pa_cons pe_str (pa_cons pe_str (pa_cons pe_str (pa_cons pe_str (pa_cons pe_str (pa_cons pe_str (pa_cons pe_str (pa_cons pe_str (pa_cons pe_str pa_nil)))))))))) pa_nil))) pa_nil))))) pss_nil)
      (pss_cons (ps_if (pt_cmpR op_eq (pv 3) pe_int (nomark _)) (pss_one (ps_asg (pe_call (ok_law_pick T) (hr.mono (by decide)) (by rfl) T.g__law_pick T.F__law_pick.kp T.b__law_pick .nil pass0 (pa_cons (pv 0) (pa_cons (pe_lst (pa_cons pe_str (pa_cons pe_str (pa_cons pe_str (pa_cons pe_str (pa_cons pe_str (pa_cons pe_str (pa_cons pe_str (pa_cons pe_str (pa_cons pe_str pa_nil)))))))))) pa_nil))) (pg_sub (pv 4) (pv 6) set_list))) pss_nil)
      (pss_one (ps_ret (pe_joinN pe_str (pv 4)))))))))))), ?_⟩
    simp only [tSeq, tPar3]
    walk_at "rd"
    refine ⟨sz100 (by omega), roll_new hd (by omega) (by omega) fun at' H1 a0 a1 g1 => roll_new g1.dice (by decide) (by decide) fun way H2 w0 w1 g2 => ⟨⟨_, rfl⟩, rfl, sz100 (by omega), fun p hp => ?_⟩⟩
    have g12 := g1.trans g2
    have hp0 : H p = none := g12.back hp
    have nep : p ≠ d := hd.ne hp0
    have pws : ∀ w ∈ Txt.split z blank, Pl w := fun w h => pl_split pz h
    have wws := wt_split z
    have wpos := split_pos z
    have wlen := sum_wt (Txt.split z blank)
    have s3 := same_new (o := .lst ((Txt.split z blank).map V.str)) hp
    have f3 : upd H2 p (.lst ((Txt.split z blank).map V.str)) p = some (.lst ((Txt.split z blank).map V.str)) := upd_same
    generalize upd H2 p (.lst ((Txt.split z blank).map V.str)) = H3 at *
    have g3 := g12.trans (Gr.same g12.dice s3)
    generalize Txt.split z blank = ws at *
    have fin : ∀ (ws' : List Str) H', Gr d H H' → H' p = some (.lst (ws'.map V.str)) → wt ws' ≤ z.length + 20 → (∀ w ∈ ws', Pl w) → rJoin K (.str (Str.ofString " ")) [.ref p] H' Q := by
      intro ws' H' g f hw hp
      refine ⟨_, p, ws', rfl, rfl, .inl (sql_of f), ?_, q (tx ws') _ g (by have := tx_wt ws'; omega) (pl_tx hp)⟩
      have := sum_wt ws'
      show _ + ws'.length * 1 ≤ _
      exact sz100 (by omega)
    refine ⟨d, _, rfl, g3.dice, .inr ⟨_, rfl, by decide, by decide, by decide, fun c H4 hc g4 => ?_⟩⟩
    have g34 := g3.trans g4
    have f4 := g4.keep _ _ nep f3
    have pc : Pl (sg c) := by
      intro c' hc'
      rw [List.mem_singleton.mp (show c' ∈ [c] from hc')]
      exact sig_low c hc
    have len1 : (⟨#[c]⟩ : Str).length = 1 := rfl
    have cl := fun lo hi => cut_len z lo hi
    refine ⟨rfl, ite2 (fun h1 => ⟨_, rfl, z, rfl, sz100 (by omega), _, rfl, _, rfl, ?_, _, rfl, z, rfl, sz100 (by omega), _, rfl, ?_, q _ _ g34 ?_ ?_⟩) (fun h1 => ⟨rfl, ite2 (fun h2 => ⟨_, rfl, z, rfl, sz100 (by omega), _, rfl, _, rfl, ?_, _, rfl, z, rfl, sz100 (by omega), _, rfl, ?_, q _ _ g34 ?_ ?_⟩) (fun h2 => ⟨rfl, ite2 (fun h3 => ⟨_, rfl, z, rfl, sz100 (by omega), _, rfl, z, rfl, sz100 (by omega), _, rfl, _, rfl, ?_, q _ _ g34 ?_ ?_⟩) (fun h3 => ?_)⟩)⟩)⟩
    · have := cl none (some at')
      exact sz100 (by omega)
    · have := cl none (some at')
      have := cl (some at') none
      rw [Str.length_append]
      exact sz100 (by omega)
    · have := cl none (some at')
      have := cl (some at') none
      rw [Str.length_append, Str.length_append]
      omega
    · exact pl_app (pl_app (pl_cut pz) pc) (pl_cut pz)
    · have := cl none (some at')
      exact sz100 (by omega)
    · have := cl none (some at')
      have := cl (some (at' + 1)) none
      rw [Str.length_append]
      exact sz100 (by omega)
    · have := cl none (some at')
      have := cl (some (at' + 1)) none
      rw [Str.length_append, Str.length_append]
      omega
    · exact pl_app (pl_app (pl_cut pz) pc) (pl_cut pz)
    · have := cl none (some at')
      have := cl (some (at' + 1)) none
      exact sz100 (by omega)
    · have := cl none (some at')
      have := cl (some (at' + 1)) none
      rw [Str.length_append]
      omega
    · exact pl_app (pl_cut pz) (pl_cut pz)
    refine lenL (sql_of f4) (roll_new g34.dice ?_ ?_ fun spot H5 r0 r1 g5 => ⟨rfl, ite2 (fun h4 => ?_) (fun h4 => ?_)⟩)
    · rw [List.length_map]
      omega
    · rw [List.length_map]
      omega
    · have hw : way = 3 := by simpa using h4
      subst hw
      refine ⟨tyl (sql_of (g5.keep _ _ nep f4)), by decide, fun p6 hp6 => pick_new g5.dice hp6 (by simp) (by simp) fun y H6 hy g6 => ?_⟩
      obtain ⟨w, rfl, lw, pw⟩ := way_words (l := [Str.ofString "", Str.ofString "to", Str.ofString "gives", Str.ofString "*", Str.ofString "int", Str.ofString "abcdefghi", Str.ofString "abcdefgh", Str.ofString "1", Str.ofString "A"]) (by decide) hy
      have g56 := g5.trans g6
      refine ⟨p, rfl, _, _, rfl, g56.keep _ _ nep f4, ?_, r0, ?_, rfl, iteF ⟨⟨_, rfl⟩, fin (ws.take spot.toNat ++ [w] ++ ws.drop spot.toNat) _ ((g34.trans g56).mut hp0 nep) ?_ ?_ ?_⟩⟩
      · rw [List.length_map]
        exact sz100' (by omega)
      · rw [List.length_map] at r1
        omega
      · rw [upd_same, List.map_append, List.map_append, List.map_take, List.map_drop]
        rfl
      · rw [wt_ins]
        omega
      · intro x hx
        rcases List.mem_append.mp hx with hx | hx
        · rcases List.mem_append.mp hx with hx | hx
          · exact pws x (List.mem_of_mem_take hx)
          · rw [List.mem_singleton.mp hx]
            exact pw
        · exact pws x (List.mem_of_mem_drop hx)
    · have hw : way = 4 := by simp at h1 h2 h3 h4; omega
      subst hw
      refine ⟨rfl, iteT ⟨by decide, fun p6 hp6 => pick_new g5.dice hp6 (by simp) (by simp) fun y H6 hy g6 => ?_⟩⟩
      obtain ⟨w, rfl, lw, pw⟩ := way_words (l := [Str.ofString "", Str.ofString "to", Str.ofString "gives", Str.ofString "*", Str.ofString "x", Str.ofString "abcdefghi", Str.ofString " ", Str.ofString "0", Str.ofString "too"]) (by decide) hy
      have g56 := g5.trans g6
      refine ⟨p, _, _, spot.toNat, rfl, rfl, g56.keep _ _ nep f4, ?_, ⟨_, rfl⟩, fin (ws.set spot.toNat w) _ ((g34.trans g56).mut hp0 nep) ?_ ?_ ?_⟩
      · unfold ixN
        rw [if_pos r0, if_pos r1]
      · rw [upd_same, List.map_set]
      · have := wt_set w ws spot.toNat
        omega
      · intro x hx
        rcases List.mem_or_eq_of_mem_set hx with hx | rfl
        · exact pws x hx
        · exact pw
end

set_option maxHeartbeats 4000000

section
variable {w : World} {K : PySem.W.Frag} {mg : Str → Option Value} {base : Heap}
/-- the tables of the defs that make lambdas -/
abbrev tabs (T : Tx K mg) : List (Addr × Str) := [(T.P__law_text_right, ("_law_text_right" : Str) ++ ".<locals>." ++ "<lambda>"), (T.P__law_right, ("_law_right" : Str) ++ ".<locals>." ++ "<lambda>"), (T.P_law, ("law" : Str) ++ ".<locals>." ++ "<lambda>")]
theorem tabs_u_law_text_right (T : Tx K mg) : ∀ p ∈ tabs T, p.1 = T.P__law_text_right → p.2 = ("_law_text_right" : Str) ++ ".<locals>." ++ "<lambda>" := by
  intro p hp e
  simp only [tabs, List.mem_cons, List.not_mem_nil, or_false] at hp
  rcases hp with rfl | rfl | rfl
  · rfl
  · exact absurd e.symm T.pn__law_text_right__law_right
  · exact absurd e.symm T.pn__law_text_right_law
theorem tabs_u_law_right (T : Tx K mg) : ∀ p ∈ tabs T, p.1 = T.P__law_right → p.2 = ("_law_right" : Str) ++ ".<locals>." ++ "<lambda>" := by
  intro p hp e
  simp only [tabs, List.mem_cons, List.not_mem_nil, or_false] at hp
  rcases hp with rfl | rfl | rfl
  · exact absurd e T.pn__law_text_right__law_right
  · rfl
  · exact absurd e.symm T.pn__law_right_law
theorem tabs_u_law (T : Tx K mg) : ∀ p ∈ tabs T, p.1 = T.P_law → p.2 = ("law" : Str) ++ ".<locals>." ++ "<lambda>" := by
  intro p hp e
  simp only [tabs, List.mem_cons, List.not_mem_nil, or_false] at hp
  rcases hp with rfl | rfl | rfl
  · exact absurd e T.pn__law_text_right_law
  · exact absurd e T.pn__law_right_law
  · rfl
theorem map_str {xs ys : List Str} (h : xs.map V.str = ys.map V.str) : xs = ys := (List.map_inj_right (fun _ _ e => by cases e; rfl)).mp h
theorem toldW {H : Hp} {a : Addr} {xs : List Str} (h : H a = some (.tup (xs.map V.str))) (n : ∀ w ∈ xs, isNm w = true) : Told H (.ref a) (xs.map V.str) true := .tup h (itmW (H := H) n).kn (itmW (H := H) n).sz
/-- the words of a text that is a type -/
theorem okW_ty {z : Str} (h : okW z = true) : Ty (Txt.split z blank) := by
  obtain ⟨ws, e, hn, h1, h2⟩ := names_strs h
  obtain rfl := map_str e
  exact ⟨hn, by omega, by omega⟩
theorem ty_okW {xs : List Str} (h : Ty xs) : okW (tx xs) = true := by
  unfold okW
  rw [tx_split h]
  exact h.v
section
variable {CW CP : Addr} {H : Hp} {a b : Addr} {xs ys : List Str} {Q : VK} {E : XK}
/-- what read_type refuses -/
def BadR (H : Hp) (v : V) : Prop := ∃ t : String, Kn H v t ∧ ∀ z, v = .str z → z.length ≤ 90000 ∧ okW z = false
theorem badR_oth {v : V} {t : String} (k : Kn H v t) (n : ∀ z, v ≠ .str z) : BadR H v := ⟨t, k, fun z e => absurd e (n z)⟩
theorem kn_ext {H' : Hp} {v : V} {t : String} (e : LamX.ExtN H H') (k : Kn H v t) : Kn H' v t := by
  cases k with
  | non => exact .non
  | bl b => exact .bl b
  | int i => exact .int i
  | str z => exact .str z
  | lst h => exact .lst (e _ _ h fun ps z => nomatch z)
  | tup h => exact .tup (e _ _ h fun ps z => nomatch z)
  | dK h => exact .dK (e _ _ h fun ps z => nomatch z)
theorem BadR.ext {H' : Hp} {v : V} (h : BadR H v) (e : LamX.ExtN H H') : BadR H' v := by
  obtain ⟨t, k, z⟩ := h
  exact ⟨t, kn_ext e k, z⟩
theorem BadR.gt {L : List (Addr × Str)} {d : Addr} {H' : Hp} {v : V} (h : BadR H v) (g : Gt L d H H') : BadR H' v := by
  obtain ⟨t, k, z⟩ := h
  exact ⟨t, g.kn k, z⟩
theorem readBad {v : V} (h : BadR H v) (q : ∀ d H', Same H H' → H' d = some PN → E (.ref CP) (some d) H') : spx_read CP [v] H Q E := by
  obtain ⟨t, k, hz⟩ := h
  exact ⟨v, t, rfl, k, fun _ => q, fun z e => ⟨(hz z e).1, fun _ => q, fun h' => by rw [(hz z e).2] at h'; exact nomatch h'⟩⟩
theorem readOn {z : Str} (hz : z.length ≤ 90000) (h : okW z = true) (q : ∀ p H', Same H H' → H' p = some (.tup ((Txt.split z blank).map V.str)) → Q (.ref p) H') : spx_read CP [.str z] H Q E :=
  ⟨.str z, _, rfl, .str z, fun n => absurd rfl (n z), fun z' e => by cases e; exact ⟨hz, (fun h' => by rw [h] at h'; exact nomatch h'), fun _ => q⟩⟩
theorem writeOn (ha : H a = some (.tup (xs.map V.str))) (ty : Ty xs) (q : ∀ H', Same H H' → Q (.str (tx xs)) H') : spx_write CW [.ref a] H Q E := by
  refine ⟨_, _, true, rfl, toldW ha ty.nm, fun h => ?_, fun _ ws e => ?_⟩
  · rw [ty.v] at h
    exact nomatch h
  · obtain rfl := map_str e
    exact q
/-- no type -/
def BadT (H : Hp) (v : V) : Prop := ∃ (xs : List V) (b : Bool), Told H v xs b ∧ (b && namesV xs 1 401) = false
theorem badT_oth {v : V} {t : String} (k : Kn H v t) (n : t ≠ "tuple") : BadT H v := ⟨[], false, .oth k n, rfl⟩
theorem badT_tup {p : Addr} {zs : List V} (h : H p = some (.tup zs)) (i : Itm H zs) (n : namesV zs 1 401 = false) : BadT H (.ref p) := ⟨zs, true, .tup h i.kn i.sz, by rw [n]; rfl⟩
theorem BadT.gt {L : List (Addr × Str)} {d : Addr} {H' : Hp} {v : V} (h : BadT H v) (g : Gt L d H H') : BadT H' v := by
  obtain ⟨xs, b, t, e⟩ := h
  exact ⟨xs, b, g.told t, e⟩
theorem BadT.ext {H' : Hp} {v : V} (h : BadT H v) (g : LamX.ExtN H H') : BadT H' v := by
  obtain ⟨xs, b, t, e⟩ := h
  exact ⟨xs, b, told_ext g t, e⟩
theorem writeBad {v : V} (h : BadT H v) (q : ∀ H', Same H H' → E (.ref CW) none H') : spx_write CW [v] H Q E := by
  obtain ⟨xs, b, t, e⟩ := h
  exact ⟨v, xs, b, rfl, t, fun _ => q, fun h => by rw [e] at h; exact nomatch h⟩
theorem met_read {L : List (Addr × Str)} {i : Nat} {σ : L2.St} {v : V} (t : LamX.Tabs L H) (hi : σ[i]? = some (some v)) (h : ∀ H1, LamX.ExtN H H1 → BadR H1 v)
    (q : ∀ H1, LamX.ExtN H H1 → LamX.Tabs L H1 → Q (.str "parse None") H1) :
    LamX.tLam L (TMet CW CP) (fun E' => tCall (spx_read CP) [] E' (tCons (tVar i) tNil)) σ H Q := by
  refine ⟨t, fun H1 e1 t1 => ?_⟩
  simp only [TMet]
  walk_at "rd"
  simp only [hi]
  walk_at "rd"
  refine readBad (h H1 e1) fun d H2 s2 hd => .inr ⟨rfl, d, rfl, hd, fun H3 s3 => q H3 (e1.trans (.of (s2.trans s3))) (t1.ext (s2.trans s3))⟩
theorem met_write {L : List (Addr × Str)} {i : Nat} {σ : L2.St} {v : V} (t : LamX.Tabs L H) (hi : σ[i]? = some (some v)) (h : BadT H v)
    (q : ∀ H1, LamX.ExtN H H1 → LamX.Tabs L H1 → Q (.str "word") H1) :
    LamX.tLam L (TMet CW CP) (fun E' => tCall (spx_write CW) [] E' (tCons (tVar i) tNil)) σ H Q := by
  refine ⟨t, fun H1 e1 t1 => ?_⟩
  simp only [TMet]
  walk_at "rd"
  simp only [hi]
  walk_at "rd"
  refine writeBad (h.ext e1) fun H2 s2 => .inl ⟨rfl, fun H3 s3 => q H3 (e1.trans (.of (s2.trans s3))) (t1.ext (s2.trans s3))⟩
end
def sp_text_right (L : List (Addr × Str)) : Sp := fun vs H Q _ => ∃ z : Str, vs = [.str z] ∧ z.length ≤ 1000 ∧ Pl z ∧ LamX.Tabs L H ∧ ∀ H', LamX.ExtN H H' → LamX.Tabs L H' → Q (.bl true) H'
theorem ok_law_text_right (T : Tx K mg) (TB__law_text_right : LamX.TabB base mg T.c__law_text_right T.P__law_text_right) : FnG P w K mg base CX0 8 T.f__law_text_right T.d__law_text_right ["_law_text"] (sp_text_right (tabs T)) := by
  obtain ⟨oc, od, kV, doc, pm, an, cdM, ct, osl, eM, lkM, hcM⟩ := T.F__law_met.ex
  have hbM := T.b__law_met
  rw [eM] at lkM hbM
  refine okGL T.F__law_text_right T.k__law_text_right sc_law_text_right (fun vs H Q E h => ?_) (fun A outer s H vs Q E hgd hr h => ?_)
  · obtain ⟨z, rfl, _⟩ := h
    rfl
  · obtain ⟨z, rfl, hz, pz, hT, q⟩ := h
    refine ⟨_, (pss_cons (ps_set (i := 1) sc_law_text_right.nd rfl (Or.inl rfl) (pe_call (ok_law_read T) (hr.mono (by decide)) (by rfl) T.g__law_read T.F__law_read.kp T.b__law_read .nil pass0 (pa_cons (pv 0) pa_nil)))
      (pss_cons (ps_if (pt_cmpR op_isN (pv 1) pe_non (nomark _)) (pss_one (ps_ret (pe_cmpR op_eq (LamX.pe_lamcall (T := tabs T) (TT := TMet T.C_InvalidWord T.C_ParseError) (k := 5) (by rfl) T.g__law_met T.F__law_met.kp lkM hcM hbM sc_law_met rfl (Or.inl rfl) (by exact met_to T _ _ rfl rfl) TB__law_text_right rfl (List.mem_cons_self) (tabs_u_law_text_right T) (hr.mono (by decide)) (LamX.lamS_by (by rfl)) rfl (fun _ _ _ _ _ => rfl) (fun A' o' s' H' E' f' c' hr' => (pe_call (ok_read_type T) (hr'.mono (by decide)) (by rfl) T.g_read_type T.F_read_type.kp T.b_read_type .nil (passes_call (takes_of rfl rfl rfl rfl) (fun _ _ _ _ h => h)) (pa_cons (pv 0) pa_nil)))) pe_str (nomark _)))) pss_nil)
      (pss_one (ps_ret (pe_and (pe_cmpR op_eq (pe_callB (call_rp hgd hr.units) (by rfl) T.n_repr (by decide +kernel) (pa_cons (pe_call (ok_read_type T) (hr.mono (by decide)) (by rfl) T.g_read_type T.F_read_type.kp T.b_read_type .nil passL (pa_cons (pv 0) pa_nil)) pa_nil)) (pe_callB (call_rp hgd hr.units) (by rfl) T.n_repr (by decide +kernel) (pa_cons (pv 1) pa_nil)) (nomark _)) (pe_one (pe_cmpR op_eq (pe_call (ok_write_type T) (hr.mono (by decide)) (by rfl) T.g_write_type T.F_write_type.kp T.b_write_type .nil passL (pa_cons (pv 1) pa_nil)) (pv 0) (nomark _)))))))), ?_⟩
    walk_at "rd"
    refine ⟨z, rfl, by omega, pz, fun h0 H1 s1 => ?_, fun h1 p H1 s1 f1 => ?_⟩
    · walk_at "rd"
      refine met_read (hT.ext s1) rfl (fun H2 _ => ⟨_, .str z, fun z' e => by cases e; exact ⟨by omega, h0⟩⟩) fun H2 e2 t2 => ⟨rfl, ?_⟩
      rw [decide_eq_true rfl]
      exact q H2 ((LamX.ExtN.of s1).trans e2) t2
    · walk_at "rd"
      rw [decide_eq_false (show ¬ V.ref p = V.non from fun e => nomatch e)]
      have ty := okW_ty h1
      refine iteF (readOn (by omega) h1 fun p2 H2 s2 f2 => rp_tup (sqt_of f2) (by have := ty.hi; omega) (nmW ty.nm) (rp_tup (sqt_of (s2 _ _ f1)) (by have := ty.hi; omega) (nmW ty.nm) ⟨rfl, ?_⟩))
      rw [decide_eq_true rfl]
      refine iteT (writeOn (s2 _ _ f1) ty fun H3 s3 => ⟨rfl, ?_⟩)
      have c3 := (s1.trans s2).trans s3
      rw [tx_of_split, decide_eq_true rfl]
      exact q H3 (.of c3) (hT.ext c3)
theorem wt_nm : ∀ {ws : List Str}, (∀ w ∈ ws, isNm w = true) → wt ws ≤ 9 * ws.length
  | [], _ => Nat.le_refl _
  | w :: r, h => by
    have h1 := wt_nm (ws := r) fun x hx => h x (.tail _ hx)
    have h2 := isNm_len (h w (.head _))
    show w.length + 1 + wt r ≤ 9 * (r.length + 1)
    omega
def sp_law_right (T : List (Addr × Str)) : Sp := fun vs H Q _ => ∃ (d : Addr), vs = [.ref d] ∧ Dc H d ∧ LamX.Tabs T H ∧ ∀ H', Gt T d H H' → Q (.bl true) H'
def inv_r (T : List (Addr × Str)) (d a : Addr) (t : Str) (Hk : Hp) : Nat → L2.St → Hp → Prop := fun _ σ H' =>
  ∃ (x3 x4 : Option V), σ = [some (.ref d), some (.ref a), some (.str t), x3, x4, none] ∧ Gt T d Hk H'
theorem ok_law_right (T : Tx K mg) (TB__law_text_right : LamX.TabB base mg T.c__law_text_right T.P__law_text_right) (TB__law_right : LamX.TabB base mg T.c__law_right T.P__law_right) : FnG P w K mg base CX0 9 T.f__law_right T.d__law_right ["_law_dice_here"] (sp_law_right (tabs T)) := by
  obtain ⟨oc, od, kV, doc, pm, an, cdM, ct, osl, eM, lkM, hcM⟩ := T.F__law_met.ex
  have hbM := T.b__law_met
  rw [eM] at lkM hbM
  refine okGL T.F__law_right T.k__law_right sc_law_right (fun vs H Q E h => ?_) (fun A outer s H vs Q E hgd hr h => ?_)
  · obtain ⟨d, rfl, _⟩ := h
    rfl
  · obtain ⟨d, rfl, hd, hT, q⟩ := h
    refine ⟨_, (pss_cons (ps_set (i := 1) sc_law_right.nd rfl (Or.inl rfl) (pe_callTy call_tupL (by rfl) T.n_tuple (by decide +kernel) (pa_cons (pe_lc (own := [("_law_turn", 3)]) (g := gName 3) (by rfl) sc_law_right.nd (pi_range1 (by rfl) T.n_range (pa_cons (pe_op op_add pe_int (pe_call (ok_law_roll T) (hr.mono (by decide)) (by rfl) T.g__law_roll T.F__law_roll.kp T.b__law_roll .nil pass0 (pa_cons (pv 0) (pa_cons pe_int pa_nil)))) pa_nil)) (blkOk_by (own := [("_law_turn", 3)]) (N := ["_law_dice_here", "_law_names_here", "_law_text", "_law_turn", "_law_other", "_law_odd"]) (sc := defScope s_law_right) (by decide +kernel)) (fun _ _ _ _ _ => (pg_name (i := 3) sc_law_right.nd rfl (Or.inl rfl))) (fun _ _ _ _ _ => pts_nil) (fun _ _ _ _ _ => (pe_call (ok_law_pick T) (hr.mono (by decide)) (by rfl) T.g__law_pick T.F__law_pick.kp T.b__law_pick .nil pass0 (pa_cons (pv 0) (pa_cons (pe_call (ok_law_names T) (hr.mono (by decide)) (by rfl) T.g__law_names T.F__law_names.kp T.b__law_names .nil pass0 (pa_cons (pv 0) (pa_cons pe_int pa_nil))) pa_nil))))) pa_nil)))
      (pss_cons (ps_set (i := 2) sc_law_right.nd rfl (Or.inl rfl) (pe_joinN pe_str (pe_callTy call_list_of (by rfl) T.n_list (by decide +kernel) (pa_cons (pv 1) pa_nil))))
      (pss_cons (ps_if (PW.pt (pw_or (pt_cmpR op_ne (pe_call (ok_write_type T) (hr.mono (by decide)) (by rfl) T.g_write_type T.F_write_type.kp T.b_write_type .nil passL (pa_cons (pv 1) pa_nil)) (pv 2) (nomark _)) (pw_or1 (pt_cmpR op_ne (pe_callB (call_rp hgd hr.units) (by rfl) T.n_repr (by decide +kernel) (pa_cons (pe_call (ok_read_type T) (hr.mono (by decide)) (by rfl) T.g_read_type T.F_read_type.kp T.b_read_type .nil passL (pa_cons (pv 2) pa_nil)) pa_nil)) (pe_callB (call_rp hgd hr.units) (by rfl) T.n_repr (by decide +kernel) (pa_cons (pv 1) pa_nil)) (nomark _))))) (pss_one (ps_ret pe_bl)) pss_nil)
      (pss_cons (ps_for PassesOwn.never rfl (pi_range1 (by rfl) T.n_range (pa_cons pe_int pa_nil)) (pg_name (i := 3) sc_law_right.nd rfl (Or.inl rfl)) (pss_cons (ps_set (i := 4) sc_law_right.nd rfl (Or.inl rfl) (pe_call (ok_law_spoiled T) (hr.mono (by decide)) (by rfl) T.g__law_spoiled T.F__law_spoiled.kp T.b__law_spoiled .nil pass0 (pa_cons (pv 0) (pa_cons (pv 2) pa_nil))))
      (pss_one (ps_if (PW.pt (pw_or (pt_not (pt_val (pe_callG (ok_law_text_right T TB__law_text_right) hgd (hr.mono (by decide)) (by rfl) T.g__law_text_right T.F__law_text_right.kp T.b__law_text_right .nil pass0 (pa_cons (pv 4) pa_nil)))) (pw_or1 (pt_not (pt_val (pe_callG (ok_law_text_right T TB__law_text_right) hgd (hr.mono (by decide)) (by rfl) T.g__law_text_right T.F__law_text_right.kp T.b__law_text_right .nil pass0 (pa_cons (pe_call (ok_law_spoiled T) (hr.mono (by decide)) (by rfl) T.g__law_spoiled T.F__law_spoiled.kp T.b__law_spoiled .nil pass0 (pa_cons (pv 0) (pa_cons (pv 4) pa_nil))) pa_nil))))))) (pss_one (ps_ret pe_bl)) pss_nil))))
      (pss_cons (ps_set (i := 5) sc_law_right.nd rfl (Or.inr rfl) (pe_call (ok_law_pick T) (hr.mono (by decide)) (by rfl) T.g__law_pick T.F__law_pick.kp T.b__law_pick .nil pass0 (pa_cons (pv 0) (pa_cons (pe_lst (pa_cons pe_non (pa_cons pe_int (pa_cons pe_bl (pa_cons (pe_tup pa_nil) (pa_cons (pe_lst pa_nil) (pa_cons pe_dnewK (pa_cons (pv 1) (pa_cons (pe_callTy call_list_of (by rfl) T.n_list (by decide +kernel) (pa_cons (pv 1) pa_nil)) (pa_cons (pe_tup (pa_cons (pv 2) pa_nil)) (pa_cons (pe_lst (pa_cons (pv 2) pa_nil)) (pa_cons (pe_disp (pps_cons (pv 2) pe_int pps_nil) (by rfl) (by rfl) (fun z => by cases z) (by decide)) pa_nil)))))))))))) pa_nil))))
      (pss_cons (ps_if (pt_cmpR op_ne (LamX.pe_lamcall (T := tabs T) (TT := TMet T.C_InvalidWord T.C_ParseError) (k := 5) (by rfl) T.g__law_met T.F__law_met.kp lkM hcM hbM sc_law_met rfl (Or.inl rfl) (by exact met_to T _ _ rfl rfl) TB__law_right rfl (List.mem_cons_of_mem _ (List.mem_cons_self)) (tabs_u_law_right T) (hr.mono (by decide)) (LamX.lamS_by (by rfl)) rfl (fun _ _ _ _ _ => rfl) (fun A' o' s' H' E' f' c' hr' => (pe_call (ok_read_type T) (hr'.mono (by decide)) (by rfl) T.g_read_type T.F_read_type.kp T.b_read_type .nil (passes_call (takes_of rfl rfl rfl rfl) (fun _ _ _ _ h => h)) (pa_cons (pv 5) pa_nil)))) pe_str (nomark _)) (pss_one (ps_ret pe_bl)) pss_nil)
      (pss_cons (ps_set (i := 5) sc_law_right.nd rfl (Or.inr rfl) (pe_call (ok_law_pick T) (hr.mono (by decide)) (by rfl) T.g__law_pick T.F__law_pick.kp T.b__law_pick .nil pass0 (pa_cons (pv 0) (pa_cons (pe_lst (pa_cons pe_non (pa_cons pe_int (pa_cons pe_bl (pa_cons (pe_tup pa_nil) (pa_cons (pe_lst pa_nil) (pa_cons (pv 2) (pa_cons (pe_callTy call_list_of (by rfl) T.n_list (by decide +kernel) (pa_cons (pv 1) pa_nil)) (pa_cons (pe_tup (pa_cons (pv 1) pa_nil)) (pa_cons (pe_op op_catA (pv 1) (pe_tup (pa_cons pe_str pa_nil))) (pa_cons (pe_op op_catA (pv 1) (pe_tup (pa_cons pe_non pa_nil))) (pa_cons pe_dnewK pa_nil)))))))))))) pa_nil))))
      (pss_one (ps_ret (pe_cmpR op_eq (LamX.pe_lamcall (T := tabs T) (TT := TMet T.C_InvalidWord T.C_ParseError) (k := 5) (by rfl) T.g__law_met T.F__law_met.kp lkM hcM hbM sc_law_met rfl (Or.inl rfl) (by exact met_to T _ _ rfl rfl) TB__law_right rfl (List.mem_cons_of_mem _ (List.mem_cons_self)) (tabs_u_law_right T) (hr.mono (by decide)) (LamX.lamS_by (by rfl)) rfl (fun _ _ _ _ _ => rfl) (fun A' o' s' H' E' f' c' hr' => (pe_call (ok_write_type T) (hr'.mono (by decide)) (by rfl) T.g_write_type T.F_write_type.kp T.b_write_type .nil (passes_call (takes_of rfl rfl rfl rfl) (fun _ _ _ _ h => h)) (pa_cons (pv 5) pa_nil)))) pe_str (nomark _))))))))))), ?_⟩
    clear lkM hcM hbM eM
    walk_at "rd"
    refine roll_new hd (by decide) (by decide) fun r H1 r0 r1 g1 => ?_
    walk_at "rd"
    obtain ⟨n, hn⟩ : ∃ n : Nat, 1 + r = (n : Int) := ⟨(1 + r).toNat, by omega⟩
    rw [hn]
    refine ⟨by omega, by omega, lc_gr walk_range (fun _ y => ∃ w, y = V.str w ∧ isNm w = true) (sz100 (by omega)) g1.dice (fun _ _ => trivial) ?_ mono_name mono_yes ?_⟩
    · rintro i2 x2 H5 H6 hi2 g6 ⟨rfl, rfl⟩ R hR
      walk_at "rd"
      refine ⟨d, _, rfl, g6.dice, by decide, fun l H7 ws g7 hl0 nl hL hws hlen => ?_⟩
      walk_at "rd"
      exact pick_w g7.dice ⟨hL, nl, hws, by rw [hlen]; decide, by rw [hlen]; decide⟩ fun w H8 hn _ g8 => hR _ _ ⟨w, rfl, hn⟩ (g7.trans g8)
    intro H5 D zs g5 hD nD hzl hzs hL5
    obtain ⟨xs, rfl, hxs⟩ := ex_ws hzs
    rw [List.length_map] at hzl
    refine tupL (sql_of hL5) fun a ha => ?_
    have g4 := g1.trans g5
    have s6 := same_new (o := .tup (xs.map V.str)) ha
    have f6 : upd H5 a (.tup (xs.map V.str)) a = some (.tup (xs.map V.str)) := upd_same
    generalize upd H5 a (.tup (xs.map V.str)) = H6 at *
    have t6 : Gt (tabs T) d H H6 := ((Gt.refl hd hT).gr g4).same s6
    have ty : Ty xs := ⟨hxs, by omega, by omega⟩
    have wl := wt_nm hxs
    have tl := tx_wt xs
    have pt : Pl (tx xs) := pl_tx fun w h => pl_of (hxs w h)
    refine ⟨⟨_, rfl⟩, a, rfl, _, .inr (sqt_of f6), fun l hl => ?_⟩
    have s7 := same_new (o := .lst (xs.map V.str)) hl
    have f7 : upd H6 l (.lst (xs.map V.str)) l = some (.lst (xs.map V.str)) := upd_same
    generalize upd H6 l (.lst (xs.map V.str)) = H7 at *
    refine ⟨_, l, xs, rfl, rfl, .inl (sql_of f7), by have := sum_wt xs; show _ + xs.length * 1 ≤ _; exact sz100 (by omega), ?_⟩
    show spx_write T.C_InvalidWord [V.ref a] H7 _ _
    have f7a := s7 _ _ f6
    refine writeOn f7a ty fun H8 s8 => ⟨rfl, ?_⟩
    rw [decide_eq_true (show V.str (tx xs) = V.str (Txt.join (Str.ofString " ") xs) from rfl)]
    have f8a := s8 _ _ f7a
    refine iteF (readOn (z := tx xs) (by omega) (ty_okW ty) fun p9 H9 s9 f9 => ?_)
    rw [tx_split ty] at f9
    refine rp_tup (sqt_of f9) (by omega) (nmW hxs) (rp_tup (sqt_of (s9 _ _ f8a)) (by omega) (nmW hxs) ⟨rfl, ?_⟩)
    rw [decide_eq_true rfl]
    have t9 : Gt (tabs T) d H H9 := t6.same ((s7.trans s8).trans s9)
    have f9a := s9 _ _ f8a
    refine iteF ⟨by decide, by decide, forB walk_range (inv_r (tabs T) d a (tx xs) H9) ⟨_, _, rfl, Gt.refl t9.dice t9.tabs⟩ (fun _ _ _ _ _ => trivial) ?_ ?_⟩
    · rintro i x' σ K1 K2 hi ⟨x3, x4, rfl, t2⟩ ⟨rfl, rfl⟩
      walk_at "rd"
      refine ⟨d, tx xs, rfl, t2.dice, by omega, pt, fun z1 K3 g3 l1 p1 => ?_⟩
      have t3 := t2.gr g3
      walk_at "rd"
      refine ⟨z1, rfl, by omega, p1, t3.tabs, fun K4 e4 t4' => ?_⟩
      have t4 := t3.ext e4 t4'
      walk_at "rd"
      refine ⟨d, z1, rfl, t4.dice, by omega, p1, fun z2 K5 g5 l2 p2 => ⟨z2, rfl, by omega, p2, (t4.gr g5).tabs, fun K6 e6 t6' => ⟨_, rfl, iteF ⟨_, _, rfl, (t4.gr g5).ext e6 t6'⟩⟩⟩⟩
    · rintro σ K1 ⟨x3, x4, rfl, t2⟩
      walk_at "rd"
      have fa := t2.tup f9a
      refine ⟨by decide, fun p1 hp1 => ?_⟩
      have s2 := same_new (o := .tup []) hp1
      have e1 : upd K1 p1 (.tup []) p1 = some (.tup []) := upd_same
      generalize upd K1 p1 (.tup []) = K2 at *
      refine ⟨by decide, fun p2 hp2 => ?_⟩
      have s3 := same_new (o := .lst []) hp2
      have e2 : upd K2 p2 (.lst []) p2 = some (.lst []) := upd_same
      generalize upd K2 p2 (.lst []) = K3 at *
      refine fun p3 hp3 => ?_
      have s4 := same_new (o := .dK []) hp3
      have e3 : upd K3 p3 (.dK []) p3 = some (.dK []) := upd_same
      generalize upd K3 p3 (.dK []) = K4 at *
      have c4 := (s2.trans s3).trans s4
      refine ⟨_, .inr (sqt_of (c4 _ _ fa)), fun p4 hp4 => ?_⟩
      have s5 := same_new (o := .lst (xs.map V.str)) hp4
      have e4 : upd K4 p4 (.lst (xs.map V.str)) p4 = some (.lst (xs.map V.str)) := upd_same
      generalize upd K4 p4 (.lst (xs.map V.str)) = K5 at *
      refine ⟨by decide, fun p5 hp5 => ?_⟩
      have s6' := same_new (o := .tup [.str (tx xs)]) hp5
      have e5 : upd K5 p5 (.tup [.str (tx xs)]) p5 = some (.tup [.str (tx xs)]) := upd_same
      generalize upd K5 p5 (.tup [.str (tx xs)]) = K6 at *
      refine ⟨by decide, fun p6 hp6 => ?_⟩
      have s7' := same_new (o := .lst [.str (tx xs)]) hp6
      have e6 : upd K6 p6 (.lst [.str (tx xs)]) p6 = some (.lst [.str (tx xs)]) := upd_same
      generalize upd K6 p6 (.lst [.str (tx xs)]) = K7 at *
      refine fun p7 hp7 => ⟨upd_same, [(.inr (tx xs), .int 1)], rfl, by simp, by decide, ?_⟩
      have s8' : Same K7 (upd (upd K7 p7 (.dK [])) p7 (.dK (mergeK [] [(.inr (tx xs), .int 1)]))) := same_mut (same_new hp7) hp7
      have e7 : upd (upd K7 p7 (.dK [])) p7 (.dK (mergeK [] [(.inr (tx xs), .int 1)])) p7 = some (.dK (mergeK [] [(.inr (tx xs), .int 1)])) := upd_same
      generalize upd (upd K7 p7 (.dK [])) p7 (.dK (mergeK [] [(.inr (tx xs), .int 1)])) = K8 at *
      intro p8 hp8
      have ca := (((c4.trans s5).trans s6').trans s7').trans s8'
      have ta := t2.same ca
      refine pick_new ta.dice hp8 (by simp) (by simp) fun odd Kb hodd gb => ?_
      have tb := ta.gr gb
      have bad1 : BadR K8 odd := by
        simp only [List.mem_cons, List.not_mem_nil, or_false] at hodd
        rcases hodd with rfl | rfl | rfl | rfl | rfl | rfl | rfl | rfl | rfl | rfl | rfl
        · exact badR_oth .non (fun z e => nomatch e)
        · exact badR_oth (.int _) (fun z e => nomatch e)
        · exact badR_oth (.bl _) (fun z e => nomatch e)
        · exact badR_oth (.tup ((((s3.trans s4).trans s5).trans s6' |>.trans s7' |>.trans s8') _ _ e1)) (fun z e => nomatch e)
        · exact badR_oth (.lst (((s4.trans s5).trans s6' |>.trans s7' |>.trans s8') _ _ e2)) (fun z e => nomatch e)
        · exact badR_oth (.dK ((s5.trans s6' |>.trans s7' |>.trans s8') _ _ e3)) (fun z e => nomatch e)
        · exact badR_oth (.tup (ca _ _ fa)) (fun z e => nomatch e)
        · exact badR_oth (.lst ((s6'.trans s7' |>.trans s8') _ _ e4)) (fun z e => nomatch e)
        · exact badR_oth (.tup ((s7'.trans s8') _ _ e5)) (fun z e => nomatch e)
        · exact badR_oth (.lst (s8' _ _ e6)) (fun z e => nomatch e)
        · exact badR_oth (.dK e7) (fun z e => nomatch e)
      have bad2 : BadR Kb odd := bad1.gt ((Gt.refl ta.dice ta.tabs).gr gb)
      refine met_read tb.tabs rfl (fun Kc ec => bad2.ext ec) fun Kc ec tc' => ⟨rfl, ?_⟩
      rw [decide_eq_true rfl]
      have tc := tb.ext ec tc'
      have fc := tc.tup f9a
      refine iteF ⟨by decide, fun q1 hq1 => ?_⟩
      have j1 := same_new (o := .tup []) hq1
      have u1 : upd Kc q1 (.tup []) q1 = some (.tup []) := upd_same
      generalize upd Kc q1 (.tup []) = J1 at *
      refine ⟨by decide, fun q2 hq2 => ?_⟩
      have j2 := same_new (o := .lst []) hq2
      have u2 : upd J1 q2 (.lst []) q2 = some (.lst []) := upd_same
      generalize upd J1 q2 (.lst []) = J2 at *
      refine ⟨_, .inr (sqt_of ((j1.trans j2) _ _ fc)), fun q3 hq3 => ?_⟩
      have j3 := same_new (o := .lst (xs.map V.str)) hq3
      have u3 : upd J2 q3 (.lst (xs.map V.str)) q3 = some (.lst (xs.map V.str)) := upd_same
      generalize upd J2 q3 (.lst (xs.map V.str)) = J3 at *
      refine ⟨by decide, fun q4 hq4 => ?_⟩
      have j4 := same_new (o := .tup [.ref a]) hq4
      have u4 : upd J3 q4 (.tup [.ref a]) q4 = some (.tup [.ref a]) := upd_same
      generalize upd J3 q4 (.tup [.ref a]) = J4 at *
      refine ⟨by decide, fun q5 hq5 => ?_⟩
      have j5 := same_new (o := .tup [.str (Str.ofString "to")]) hq5
      have u5 : upd J4 q5 (.tup [.str (Str.ofString "to")]) q5 = some (.tup [.str (Str.ofString "to")]) := upd_same
      generalize upd J4 q5 (.tup [.str (Str.ofString "to")]) = J5 at *
      have k5 := (((j1.trans j2).trans j3).trans j4).trans j5
      refine catT (k5 _ _ fc) u5 (by rw [List.length_map]; exact sz100 (by simp; omega)) fun q6 J6 j6 u6 => ?_
      refine ⟨by decide, fun q7 hq7 => ?_⟩
      have j7 := same_new (o := .tup [.non]) hq7
      have u7 : upd J6 q7 (.tup [.non]) q7 = some (.tup [.non]) := upd_same
      generalize upd J6 q7 (.tup [.non]) = J7 at *
      have k7 := (k5.trans j6).trans j7
      refine catT (k7 _ _ fc) u7 (by rw [List.length_map]; exact sz100 (by simp; omega)) fun q8 J8 j8 u8 => ?_
      refine fun q9 hq9 => ?_
      have j9 := same_new (o := .dK []) hq9
      have u9 : upd J8 q9 (.dK []) q9 = some (.dK []) := upd_same
      generalize upd J8 q9 (.dK []) = J9 at *
      have k9 := (k7.trans j8).trans j9
      have td := tc.same k9
      refine ⟨by decide, fun ql hql => pick_new td.dice hql (by simp) (by simp) fun wr Kd hwr gd => ?_⟩
      have itA : ∀ v : V, (∃ t, Kn J9 v t) → (∀ y, v = .str y → y.length ≤ sizeLine) → Itm J9 (xs.map V.str ++ [v]) := by
        intro v kv zv
        have i1 := itmW (H := J9) hxs
        refine ⟨fun x h => (List.mem_append.mp h).elim (i1.kn x) (fun h => ?_), fun y h => (List.mem_append.mp h).elim (i1.sz y) (fun h => ?_)⟩
        · rw [List.mem_singleton.mp h]
          exact kv
        · exact zv y (List.mem_singleton.mp h).symm
      have bad3 : BadT J9 wr := by
        have fA := k9 _ _ fc
        have z6 := ((j6.trans j7).trans j8).trans j9
        simp only [List.mem_cons, List.not_mem_nil, or_false] at hwr
        rcases hwr with rfl | rfl | rfl | rfl | rfl | rfl | rfl | rfl | rfl | rfl | rfl
        · exact badT_oth .non (by decide)
        · exact badT_oth (.int _) (by decide)
        · exact badT_oth (.bl _) (by decide)
        · exact badT_tup ((((j2.trans j3).trans j4).trans j5 |>.trans z6) _ _ u1) Itm.nil rfl
        · exact badT_oth (.lst (((j3.trans j4).trans j5 |>.trans z6) _ _ u2)) (by decide)
        · exact badT_oth (.str _) (by decide)
        · exact badT_oth (.lst ((j4.trans j5 |>.trans z6) _ _ u3)) (by decide)
        · exact badT_tup ((j5.trans z6) _ _ u4) (Itm.nil.cons (.tup fA) (fun y e => nomatch e)) (names_bad List.mem_cons_self rfl)
        · exact badT_tup (((j7.trans j8).trans j9) _ _ u6) (itA _ ⟨_, .str _⟩ (fun y e => by cases e; decide)) (names_bad (x := .str (Str.ofString "to")) (by simp) (by decide))
        · exact badT_tup (j9 _ _ u8) (itA _ ⟨_, .non⟩ (fun y e => nomatch e)) (names_bad (x := .non) (by simp) rfl)
        · exact badT_oth (.dK u9) (by decide)
      refine met_write (td.gr gd).tabs rfl (bad3.gt ((Gt.refl td.dice td.tabs).gr gd)) fun Ke ee te' => ⟨rfl, ?_⟩
      rw [decide_eq_true rfl]
      exact q _ (t9.trans ((td.gr gd).ext ee te'))
end

section
variable {w : World} {K : PySem.W.Frag} {mg : Str → Option Value} {base : Heap}
def spLaw (K : PySem.W.Frag) (cs : List (Addr × Addr)) : Sp := fun vs H Q _ => ∃ (a : Addr) (ns : List Int), vs = [.ref a] ∧ (∀ p ∈ cs, H p.2 = some (.tbl #[])) ∧ SqL K H a (ns.map V.int) ∧ ∀ H', Q (.bl true) H'
structure Bt (K : PySem.W.Frag) (L : List (Addr × Str)) (s : Addr) (ns : List Int) (i : Nat) (H : Hp) : Prop where
  sc : SqL K H s (ns.map V.int)
  tb : LamX.Tabs L H
  dc : 0 < i → ∃ e, Dc H e
def inv_law (K : PySem.W.Frag) (L : List (Addr × Str)) (s : Addr) (ns : List Int) : Nat → L2.St → Hp → Prop := fun i σ H =>
  ∃ (x1 x2 : Option V), σ = [some (.ref s), x1, x2, none, none, none] ∧ Bt K L s ns i H
def boxes : List Str := List.replicate 400 (Str.ofString "box")
def one : List Str := [Str.ofString "int"]
def far : List Str := boxes ++ one
def boxes1 : List Str := List.replicate 401 (Str.ofString "box")
theorem boxes_eq : (List.replicate (Int.toNat 400) [V.str (Str.ofString "box")]).flatten = boxes.map V.str := by decide +kernel
theorem boxes1_eq : (List.replicate (Int.toNat 401) [V.str (Str.ofString "box")]).flatten = boxes1.map V.str := by decide +kernel
theorem boxes_len : boxes.length = 400 := by simp [boxes]
theorem boxes1_len : boxes1.length = 401 := by simp [boxes1]
theorem far_len : far.length = 401 := by rw [far, List.length_append, boxes_len]; rfl
theorem one_nm : ∀ w ∈ one, isNm w = true := by decide
theorem box_nm : ∀ w ∈ boxes, isNm w = true := fun w h => by rw [List.eq_of_mem_replicate h]; decide
theorem box1_nm : ∀ w ∈ boxes1, isNm w = true := fun w h => by rw [List.eq_of_mem_replicate h]; decide
theorem far_nm : ∀ w ∈ far, isNm w = true := fun w h => (List.mem_append.mp h).elim (box_nm w) (one_nm w)
theorem far_ty : Ty far := ⟨far_nm, by rw [far_len]; decide, by rw [far_len]; decide⟩
theorem split_tx {ws : List Str} (nm : ∀ w ∈ ws, isNm w = true) (ne : ws ≠ []) : Txt.split (tx ws) blank = ws :=
  TL.split_join (s := 32) (S := []) rfl (by decide +kernel) ne fun p hp => nm_noblank (nm p hp)
theorem tx_cons (w v : Str) (r : List Str) : TL.tl (tx (w :: v :: r)) = TL.tl w ++ (TL.tl blank ++ TL.tl (tx (v :: r))) := by
  unfold tx
  rw [TL.join_eq, TL.tl_join, TL.join_eq, TL.tl_join]
  rfl
theorem str_of_tl {x y : Str} (h : TL.tl x = TL.tl y) : x = y := by
  obtain ⟨⟨x⟩⟩ := x
  obtain ⟨⟨y⟩⟩ := y
  cases (show x = y from h)
  rfl
def far' : List Str := List.replicate 399 (Str.ofString "box") ++ one
theorem far_eq : far = Str.ofString "box" :: far' := by
  unfold far far' boxes
  rw [show List.replicate 400 (Str.ofString "box") = Str.ofString "box" :: List.replicate 399 (Str.ofString "box") from List.replicate_succ]
  rfl
theorem far_txt : Str.ofString "box " ++ tx far = tx (Str.ofString "box" :: far) := by
  have h : TL.tl (Str.ofString "box " ++ tx far) = TL.tl (tx (Str.ofString "box" :: far)) := by
    rw [TL.tl_append]
    conv => rhs; rw [far_eq]
    rw [tx_cons, ← far_eq, ← List.append_assoc, show TL.tl (Str.ofString "box") ++ TL.tl blank = TL.tl (Str.ofString "box ") from rfl]
  exact str_of_tl h
theorem far_bad : okW (Str.ofString "box " ++ tx far) = false := by
  rw [far_txt]
  unfold okW
  rw [split_tx (ws := Str.ofString "box" :: far) (fun w h => (List.mem_cons.mp h).elim (fun e => by rw [e]; decide) (far_nm w)) (List.cons_ne_nil _ _)]
  refine names_len ?_
  rw [List.length_map, List.length_cons, far_len]
  decide
def txs1 : List Str := [Str.ofString "", Str.ofString " ", Str.ofString "int ", Str.ofString " int", Str.ofString "box  int", Str.ofString "box int", Str.ofString "to", Str.ofString "gives", Str.ofString "box to int", Str.ofString "box\nint", Str.ofString "box,int"]
def txs2 : List Str := [Str.ofString "Box int"]
def txs3 : List Str := [Str.ofString "abcdefgh", Str.ofString "abcdefghi", Str.ofString "int\n", Str.ofString "too", Str.ofString "give", Str.ofString "box.int", Str.ofString "box int int", Str.ofString "0", Str.ofString "int0"]
theorem txs_ok : ∀ t ∈ txs1 ++ txs2 ++ txs3, t.length ≤ 1000 ∧ ∀ c ∈ t.cps.toList, c < 256 := by decide
section
variable {J : It} {G : Hp → Prop} {g : TG} {tt : TT} {te : TE} {vs : List Nat} {σ : L2.St} {H1 : Hp} {Q : VK}
/-- a comprehension whose test is never met -/
theorem lc_none {L : List (Addr × Str)} {d : Addr} {xs : List V} (w : Walk J xs.length G (YAt xs)) (h0 : Dc H1 d) (hT : LamX.Tabs L H1) (hG : ∀ H, Gt L d H1 H → G H)
    (hs : ∀ x H, x ∈ xs → Gt L d H1 H → ∀ (C : VK) (C' : Hp → Prop), (∀ H4, Gt L d H H4 → C' H4) →
      g x (wipe σ vs) H fun σ2 H2 => wipe σ2 vs = wipe σ vs ∧ tt σ2 H2 fun b H3 => if b = true then te σ2 H3 C else C' H3)
    (hd : ∀ H D, Gt L d H1 H → D ≠ d → H1 D = none → H D = some (.lst []) → Q (.ref D) H) : LcB J g tt te vs σ Q H1 := by
  intro D hD
  have nD : D ≠ d := h0.ne hD
  refine lc_it w (fun i H => Gt L d H1 H ∧ H D = some (.lst [])) ⟨(Gt.refl h0 hT).same (same_new hD), upd_same⟩ (fun i H _ h => hG H h.1) ?_ (fun H h => hd H D h.1 nD hD h.2)
  rintro i x H H' hi ⟨hg, hL⟩ ⟨rfl, hx⟩
  exact hs x H' (List.mem_of_getElem? hx) hg _ _ fun H4 g4 => ⟨hg.trans g4, g4.lst nD hL⟩
end
theorem gt_sql {L : List (Addr × Str)} {H H1 : Hp} {e s : Addr} {o : HO} {xs : List V} (h : SqL K H s xs) (he : H e = none) (g : Gt L e (upd H e o) H1) : SqL K H1 s xs := by
  rcases h with (h | ⟨u, h⟩) | h
  · exact .inl (.inl (g.keep _ _ (ne_of_none h he) (fun ps z => nomatch z) (same_new he _ _ h)))
  · exact .inl (.inr ⟨u, g.keep _ _ (ne_of_none h he) (fun ps z => nomatch z) (same_new he _ _ h)⟩)
  · exact .inr h
theorem ok_law (T : Tx K mg) (TB__law_text_right : LamX.TabB base mg T.c__law_text_right T.P__law_text_right) (TB__law_right : LamX.TabB base mg T.c__law_right T.P__law_right) (TB_law : LamX.TabB base mg T.c_law T.P_law) :
    FnG P w K mg base CX0 10 T.f_law T.d_law ["_law_script"] (spLaw K [(T.c__law_text_right, T.P__law_text_right), (T.c__law_right, T.P__law_right), (T.c_law, T.P_law)]) := by
  obtain ⟨oc, od, kV, doc, pm, an, cdM, ct, osl, eM, lkM, hcM⟩ := T.F__law_met.ex
  have hbM := T.b__law_met
  rw [eM] at lkM hbM
  refine okGL T.F_law T.k_law sc_law (fun vs H Q E h => ?_) (fun A outer s H vs Q E hgd hr h => ?_)
  · obtain ⟨a, ns, rfl, _⟩ := h
    rfl
  · obtain ⟨a, ns, rfl, hC, hS, q⟩ := h
    refine ⟨_, (pss_cons (ps_for PassesOwn.never rfl (pi_range1 (by rfl) T.n_range (pa_cons (pe_callB (call_max2 rfl) (by rfl) T.n_max (by decide +kernel) (pa_cons pe_int (pa_cons (pe_callB (call_min2 rfl) (by rfl) T.n_min (by decide +kernel) (pa_cons pe_int (pa_cons (pe_callB call_lenQ (by rfl) T.n_len (by decide +kernel) (pa_cons (pv 0) pa_nil)) pa_nil))) pa_nil))) pa_nil)) (pg_name (i := 1) sc_law.nd rfl (Or.inl rfl)) (pss_cons (ps_set (i := 2) sc_law.nd rfl (Or.inl rfl) (pe_call (ok_law_dice T) (hr.mono (by decide)) (by rfl) T.g__law_dice T.F__law_dice.kp T.b__law_dice .nil pass0 (pa_cons (pv 0) (pa_cons (pv 1) pa_nil))))
      (pss_one (ps_if (pt_not (pt_val (pe_callG (ok_law_right T TB__law_text_right TB__law_right) hgd (hr.mono (by decide)) (by rfl) T.g__law_right T.F__law_right.kp T.b__law_right .nil pass0 (pa_cons (pv 2) pa_nil)))) (pss_one (ps_ret pe_bl)) pss_nil))))
      (pss_cons (ps_set (i := 3) sc_law.nd rfl (Or.inr rfl) (pe_joinN pe_str (pe_op op_cat (pe_op op_rep (pe_lst (pa_cons pe_str pa_nil)) pe_int) (pe_lst (pa_cons pe_str pa_nil)))))
      (pss_cons (ps_if (PW.pt (pw_or (pt_cmpR (op_neD hr.units) (pe_call (ok_read_type T) (hr.mono (by decide)) (by rfl) T.g_read_type T.F_read_type.kp T.b_read_type .nil passL (pa_cons (pv 3) pa_nil)) (pe_op op_catA (pe_op op_repT (pe_tup (pa_cons pe_str pa_nil)) pe_int) (pe_tup (pa_cons pe_str pa_nil))) (nomark _)) (pw_or1 (pt_cmpR op_ne (pe_call (ok_write_type T) (hr.mono (by decide)) (by rfl) T.g_write_type T.F_write_type.kp T.b_write_type .nil passL (pa_cons (pe_op op_catA (pe_op op_repT (pe_tup (pa_cons pe_str pa_nil)) pe_int) (pe_tup (pa_cons pe_str pa_nil))) pa_nil)) (pv 3) (nomark _))))) (pss_one (ps_ret pe_bl)) pss_nil)
      (pss_cons (ps_if (pt_cmpR op_ne (LamX.pe_lamcall (T := tabs T) (TT := TMet T.C_InvalidWord T.C_ParseError) (k := 5) (by rfl) T.g__law_met T.F__law_met.kp lkM hcM hbM sc_law_met rfl (Or.inl rfl) (by exact met_to T _ _ rfl rfl) TB_law rfl (List.mem_cons_of_mem _ (List.mem_cons_of_mem _ (List.mem_cons_self))) (tabs_u_law T) (hr.mono (by decide)) (LamX.lamS_by (by rfl)) rfl (fun _ _ _ _ _ => rfl) (fun A' o' s' H' E' f' c' hr' => (pe_call (ok_read_type T) (hr'.mono (by decide)) (by rfl) T.g_read_type T.F_read_type.kp T.b_read_type .nil (passes_call (takes_of rfl rfl rfl rfl) (fun _ _ _ _ h => h)) (pa_cons (pe_op op_add_str pe_str (pv 3)) pa_nil)))) pe_str (nomark _)) (pss_one (ps_ret pe_bl)) pss_nil)
      (pss_cons (ps_if (pt_cmpR op_ne (LamX.pe_lamcall (T := tabs T) (TT := TMet T.C_InvalidWord T.C_ParseError) (k := 5) (by rfl) T.g__law_met T.F__law_met.kp lkM hcM hbM sc_law_met rfl (Or.inl rfl) (by exact met_to T _ _ rfl rfl) TB_law rfl (List.mem_cons_of_mem _ (List.mem_cons_of_mem _ (List.mem_cons_self))) (tabs_u_law T) (hr.mono (by decide)) (LamX.lamS_by (by rfl)) rfl (fun _ _ _ _ _ => rfl) (fun A' o' s' H' E' f' c' hr' => (pe_call (ok_write_type T) (hr'.mono (by decide)) (by rfl) T.g_write_type T.F_write_type.kp T.b_write_type .nil (passes_call (takes_of rfl rfl rfl rfl) (fun _ _ _ _ h => h)) (pa_cons (pe_op (op_catA : OpR _ _ (rCatA K)) (pe_op (op_repT : OpR _ _ (rRepT K)) (pe_tup (pa_cons pe_str pa_nil)) pe_int) (pe_tup (pa_cons pe_str pa_nil))) pa_nil)))) pe_str (nomark _)) (pss_one (ps_ret pe_bl)) pss_nil)
      (pss_cons (ps_set (i := 4) sc_law.nd rfl (Or.inl rfl) (pe_lst (pa_cons pe_str (pa_cons pe_str (pa_cons pe_str (pa_cons pe_str (pa_cons pe_str (pa_cons pe_str (pa_cons pe_str (pa_cons pe_str (pa_cons pe_str (pa_cons pe_str (pa_cons pe_str pa_nil)))))))))))))
      (pss_cons (ps_set (i := 4) sc_law.nd rfl (Or.inl rfl) (pe_op op_cat (pv 4) (pe_lst (pa_cons pe_str pa_nil))))
      (pss_cons (ps_set (i := 4) sc_law.nd rfl (Or.inl rfl) (pe_op op_cat (pv 4) (pe_lst (pa_cons pe_str (pa_cons pe_str (pa_cons pe_str (pa_cons pe_str (pa_cons pe_str (pa_cons pe_str (pa_cons pe_str (pa_cons pe_str (pa_cons pe_str pa_nil))))))))))))
      (pss_one (ps_ret (pe_cmpR (op_eqD hr.units) (pe_lc (own := [("_law_text", 5)]) (g := gName 5) (by rfl) sc_law.nd (pi_list (pv 4)) (blkOk_by (own := [("_law_text", 5)]) (N := ["_law_script", "_law_spot", "_law_dice_here", "_law_long", "_law_texts", "_law_text"]) (sc := defScope s_law) (by decide +kernel)) (fun _ _ _ _ _ => (pg_name (i := 5) sc_law.nd rfl (Or.inl rfl))) (fun _ _ _ _ _ => (pts_one (pt_not (pt_val (pe_callG (ok_law_text_right T TB__law_text_right) hgd (hr.mono (by decide)) (by rfl) T.g__law_text_right T.F__law_text_right.kp T.b__law_text_right .nil pass0 (pa_cons (pv 5) pa_nil)))))) (fun _ _ _ _ _ => (pv 5))) (pe_lst pa_nil) (nomark _)))))))))))), ?_⟩
    clear lkM hcM hbM eM
    walk_at "rd"
    have hT : LamX.Tabs (tabs T) H := by
      intro p hp
      simp only [tabs, List.mem_cons, List.not_mem_nil, or_false] at hp
      rcases hp with rfl | rfl | rfl
      · exact LamX.TabS.nil (hC (T.c__law_text_right, T.P__law_text_right) (by simp))
      · exact LamX.TabS.nil (hC (T.c__law_right, T.P__law_right) (by simp))
      · exact LamX.TabS.nil (hC (T.c_law, T.P_law) (by simp))
    refine lenL hS ?_
    walk_at "rd"
    rw [List.length_map]
    obtain ⟨m, em, hm, hm1⟩ : ∃ m : Nat, (if (if (ns.length : Int) < 8 then (ns.length : Int) else 8) > 1 then if (ns.length : Int) < 8 then (ns.length : Int) else 8 else 1) = (m : Int) ∧ m ≤ 8 ∧ 1 ≤ m := by
      refine ⟨(if (if (ns.length : Int) < 8 then (ns.length : Int) else 8) > 1 then if (ns.length : Int) < 8 then (ns.length : Int) else 8 else 1).toNat, ?_, ?_, ?_⟩ <;> (split <;> split <;> omega)
    rw [em]
    refine ⟨by omega, by omega, forB walk_range (inv_law K (tabs T) a ns) ⟨_, _, rfl, hS, hT, fun h => (nomatch h)⟩ (fun _ _ _ _ _ => trivial) ?_ ?_⟩
    · rintro i x' σ K1 K2 hi ⟨x1, x2, rfl, B⟩ ⟨rfl, rfl⟩
      walk_at "rd"
      refine ⟨a, ns, i, by rw [Int.zero_add], B.sc, by omega, fun e x y z he => ?_⟩
      have e0 : Dc (upd K2 e (.lst [.int x, .int y, .int z])) e := ⟨x, y, z, upd_same⟩
      have t0 : LamX.Tabs (tabs T) (upd K2 e (.lst [.int x, .int y, .int z])) := B.tb.ext (same_new he)
      walk_at "rd"
      refine ⟨e, rfl, e0, t0, fun M3 gm => ?_⟩
      walk_at "rd"
      exact ⟨_, _, rfl, gt_sql B.sc he gm, gm.tabs, fun _ => ⟨e, gm.dice⟩⟩
    · rintro σ K1 ⟨x1, x2, rfl, B⟩
      obtain ⟨e, he⟩ := B.dc (by omega)
      have g0 : Gt (tabs T) e K1 K1 := Gt.refl he B.tb
      walk_at "rd"
      obtain ⟨F, hF, FC, Fty, Flen, Fbad⟩ : ∃ F : List Str, F = boxes ++ one ∧ F.map V.str = boxes.map V.str ++ [V.str (Str.ofString "int")] ∧ Ty F ∧ F.length = 401 ∧ okW (Str.ofString "box " ++ tx F) = false :=
        ⟨far, rfl, by rw [far, List.map_append]; rfl, far_ty, far_len, far_bad⟩
      clear hF
      have Flt := tx_len Fty
      refine ⟨⟨_, rfl⟩, by decide, fun p1 hp1 => ?_⟩
      have s2 := same_new (o := .lst [.str (Str.ofString "box")]) hp1
      have f2 : upd K1 p1 (.lst [.str (Str.ofString "box")]) p1 = some (.lst [.str (Str.ofString "box")]) := upd_same
      generalize upd K1 p1 (.lst [.str (Str.ofString "box")]) = K2 at *
      refine ⟨p1, 400, _, rfl, rfl, f2, by decide, by decide, by decide, fun p2 hp2 => ?_⟩
      rw [boxes_eq]
      have s3 := same_new (o := .lst (boxes.map V.str)) hp2
      have f3 : upd K2 p2 (.lst (boxes.map V.str)) p2 = some (.lst (boxes.map V.str)) := upd_same
      generalize upd K2 p2 (.lst (boxes.map V.str)) = K3 at *
      refine ⟨by decide, fun p3 hp3 => ?_⟩
      have s4 := same_new (o := .lst [.str (Str.ofString "int")]) hp3
      have f4 : upd K3 p3 (.lst [.str (Str.ofString "int")]) p3 = some (.lst [.str (Str.ofString "int")]) := upd_same
      generalize upd K3 p3 (.lst [.str (Str.ofString "int")]) = K4 at *
      refine catL (s4 _ _ f3) f4 (by rw [List.length_map, boxes_len]; decide) fun p4 hp4 => ?_
      rw [← FC]
      have s5 := same_new (o := .lst (F.map V.str)) hp4
      have f5 : upd K4 p4 (.lst (F.map V.str)) p4 = some (.lst (F.map V.str)) := upd_same
      generalize upd K4 p4 (.lst (F.map V.str)) = K5 at *
      have c5 := ((s2.trans s3).trans s4).trans s5
      refine ⟨_, p4, F, rfl, rfl, .inl (sql_of f5), by have := sum_le8 Fty.nm; show _ + F.length * 1 ≤ _; exact sz100 (by omega), ?_⟩
      have ej : Txt.join (Str.ofString " ") F = tx F := rfl
      rw [ej]
      refine readOn (by omega) (ty_okW Fty) fun p6 K6 s6 f6 => ⟨by decide, fun p7 hp7 => ?_⟩
      rw [tx_split Fty] at f6
      have s7 := same_new (o := .tup [.str (Str.ofString "box")]) hp7
      have f7 : upd K6 p7 (.tup [.str (Str.ofString "box")]) p7 = some (.tup [.str (Str.ofString "box")]) := upd_same
      generalize upd K6 p7 (.tup [.str (Str.ofString "box")]) = K7 at *
      refine ⟨p7, 400, _, rfl, rfl, sqt_of f7, by simp, by decide, by decide, by simp, fun p8 hp8 => ?_⟩
      rw [boxes_eq]
      have s8 := same_new (o := .tup (boxes.map V.str)) hp8
      have f8 : upd K7 p8 (.tup (boxes.map V.str)) p8 = some (.tup (boxes.map V.str)) := upd_same
      generalize upd K7 p8 (.tup (boxes.map V.str)) = K8 at *
      refine ⟨by decide, fun p9 hp9 => ?_⟩
      have s9 := same_new (o := .tup [.str (Str.ofString "int")]) hp9
      have f9 : upd K8 p9 (.tup [.str (Str.ofString "int")]) p9 = some (.tup [.str (Str.ofString "int")]) := upd_same
      generalize upd K8 p9 (.tup [.str (Str.ofString "int")]) = K9 at *
      refine catT (s9 _ _ f8) f9 (by rw [List.length_map, boxes_len]; decide) fun pa Ka sa fa => ?_
      rw [← FC] at fa
      refine neT (xs := F) (ys := F) (sqt_of (((s7.trans s8).trans s9 |>.trans sa) _ _ f6)) (sqt_of fa) (plW Fty.nm) (plW Fty.nm) ?_
      rw [decide_eq_true rfl]
      refine ⟨_, rfl, iteF ⟨by decide, fun pb hpb => ?_⟩⟩
      have sb := same_new (o := .tup [.str (Str.ofString "box")]) hpb
      have fb : upd Ka pb (.tup [.str (Str.ofString "box")]) pb = some (.tup [.str (Str.ofString "box")]) := upd_same
      generalize upd Ka pb (.tup [.str (Str.ofString "box")]) = Kb at *
      refine ⟨pb, 400, _, rfl, rfl, sqt_of fb, by simp, by decide, by decide, by simp, fun pc hpc => ?_⟩
      rw [boxes_eq]
      have sc := same_new (o := .tup (boxes.map V.str)) hpc
      have fc : upd Kb pc (.tup (boxes.map V.str)) pc = some (.tup (boxes.map V.str)) := upd_same
      generalize upd Kb pc (.tup (boxes.map V.str)) = Kc at *
      refine ⟨by decide, fun pd hpd => ?_⟩
      have sd := same_new (o := .tup [.str (Str.ofString "int")]) hpd
      have fd : upd Kc pd (.tup [.str (Str.ofString "int")]) pd = some (.tup [.str (Str.ofString "int")]) := upd_same
      generalize upd Kc pd (.tup [.str (Str.ofString "int")]) = Kd at *
      refine catT (sd _ _ fc) fd (by rw [List.length_map, boxes_len]; decide) fun pe Ke se fe => ?_
      rw [← FC] at fe
      refine writeOn fe Fty fun Kf sf => ⟨rfl, ?_⟩
      rw [decide_eq_true rfl]
      have ca := (((s6.trans s7).trans s8).trans s9).trans sa
      have cf := (((sb.trans sc).trans sd).trans se).trans sf
      have gf := g0.same ((c5.trans ca).trans cf)
      refine iteF ⟨gf.tabs, fun M1 e1 t1 => ?_⟩
      have gm1 := gf.ext e1 t1
      simp only [TMet]
      walk_at "rd"
      refine ⟨sz100 (by have : (Str.ofString "box ").length = 4 := rfl; omega), readBad ⟨_, .str _, fun z e => by cases e; exact ⟨by rw [Str.length_append]; have : (Str.ofString "box ").length = 4 := rfl; omega, Fbad⟩⟩ fun dd M2 m2 hdd => .inr ⟨rfl, dd, rfl, hdd, fun M3 m3 => ⟨rfl, ?_⟩⟩⟩
      have gm3 := gm1.same (m2.trans m3)
      refine ⟨gm3.tabs, fun M4 e4 t4 => ?_⟩
      have gm4 := gm3.ext e4 t4
      simp only [TMet]
      walk_at "rd"
      refine ⟨by decide, fun q1 hq1 => ?_⟩
      have m5 := same_new (o := .tup [.str (Str.ofString "box")]) hq1
      have u5 : upd M4 q1 (.tup [.str (Str.ofString "box")]) q1 = some (.tup [.str (Str.ofString "box")]) := upd_same
      generalize upd M4 q1 (.tup [.str (Str.ofString "box")]) = M5 at *
      refine ⟨q1, 401, _, rfl, rfl, sqt_of u5, by simp, by decide, by decide, by simp, fun q2 hq2 => ?_⟩
      rw [boxes1_eq]
      have m6 := same_new (o := .tup (boxes1.map V.str)) hq2
      have u6 : upd M5 q2 (.tup (boxes1.map V.str)) q2 = some (.tup (boxes1.map V.str)) := upd_same
      generalize upd M5 q2 (.tup (boxes1.map V.str)) = M6 at *
      refine ⟨by decide, fun q3 hq3 => ?_⟩
      have m7 := same_new (o := .tup [.str (Str.ofString "int")]) hq3
      have u7 : upd M6 q3 (.tup [.str (Str.ofString "int")]) q3 = some (.tup [.str (Str.ofString "int")]) := upd_same
      generalize upd M6 q3 (.tup [.str (Str.ofString "int")]) = M7 at *
      refine catT (m7 _ _ u6) u7 (by rw [List.length_map, boxes1_len]; decide) fun q4 M8 m8 u8 => ?_
      have bl : M8 q4 = some (.tup ((boxes1 ++ one).map V.str)) := by
        rw [u8, List.map_append]
        rfl
      have bn : ∀ w ∈ boxes1 ++ one, isNm w = true := fun w h => (List.mem_append.mp h).elim (box1_nm w) (one_nm w)
      refine writeBad (badT_tup bl (itmW bn) (names_len ?_)) fun M9 m9 => .inl ⟨rfl, fun Ma ma => ⟨rfl, ?_⟩⟩
      · rw [List.length_map, List.length_append, boxes1_len]
        decide
      have gma := gm4.same (((((m5.trans m6).trans m7).trans m8).trans m9).trans ma)
      rw [show ([V.str (Str.ofString ""), V.str (Str.ofString " "), V.str (Str.ofString "int "), V.str (Str.ofString " int"), V.str (Str.ofString "box  int"), V.str (Str.ofString "box int"), V.str (Str.ofString "to"), V.str (Str.ofString "gives"), V.str (Str.ofString "box to int"), V.str (Str.ofString "box\nint"), V.str (Str.ofString "box,int")] : List V) = txs1.map V.str from rfl, show ([V.str (Str.ofString "Box int")] : List V) = txs2.map V.str from rfl, show ([V.str (Str.ofString "abcdefgh"), V.str (Str.ofString "abcdefghi"), V.str (Str.ofString "int\n"), V.str (Str.ofString "too"), V.str (Str.ofString "give"), V.str (Str.ofString "box.int"), V.str (Str.ofString "box int int"), V.str (Str.ofString "0"), V.str (Str.ofString "int0")] : List V) = txs3.map V.str from rfl]
      refine ⟨by decide, fun r1 hr1 => ?_⟩
      have n1 := same_new (o := .lst (txs1.map V.str)) hr1
      have v1 : upd Ma r1 (.lst (txs1.map V.str)) r1 = some (.lst (txs1.map V.str)) := upd_same
      generalize upd Ma r1 (.lst (txs1.map V.str)) = N1 at *
      refine ⟨by decide, fun r2 hr2 => ?_⟩
      have n2 := same_new (o := .lst (txs2.map V.str)) hr2
      have v2 : upd N1 r2 (.lst (txs2.map V.str)) r2 = some (.lst (txs2.map V.str)) := upd_same
      generalize upd N1 r2 (.lst (txs2.map V.str)) = N2 at *
      refine catL (n2 _ _ v1) v2 (by decide) fun r3 hr3 => ?_
      have n3 := same_new (o := .lst (txs1.map V.str ++ txs2.map V.str)) hr3
      have v3 : upd N2 r3 (.lst (txs1.map V.str ++ txs2.map V.str)) r3 = some (.lst (txs1.map V.str ++ txs2.map V.str)) := upd_same
      generalize upd N2 r3 (.lst (txs1.map V.str ++ txs2.map V.str)) = N3 at *
      refine ⟨by decide, fun r4 hr4 => ?_⟩
      have n4 := same_new (o := .lst (txs3.map V.str)) hr4
      have v4 : upd N3 r4 (.lst (txs3.map V.str)) r4 = some (.lst (txs3.map V.str)) := upd_same
      generalize upd N3 r4 (.lst (txs3.map V.str)) = N4 at *
      refine catL (n4 _ _ v3) v4 (by decide) fun r5 hr5 => ?_
      have gn4 := gma.same (((n1.trans n2).trans n3).trans n4)
      have nr : r5 ≠ e := gn4.dice.ne hr5
      have n5 := same_new (o := .lst (txs1.map V.str ++ txs2.map V.str ++ txs3.map V.str)) hr5
      have v5 : upd N4 r5 (.lst (txs1.map V.str ++ txs2.map V.str ++ txs3.map V.str)) r5 = some (.lst (txs1.map V.str ++ txs2.map V.str ++ txs3.map V.str)) := upd_same
      generalize upd N4 r5 (.lst (txs1.map V.str ++ txs2.map V.str ++ txs3.map V.str)) = N5 at *
      have gn5 := gn4.same n5
      have v5' : N5 r5 = some (.lst ((txs1 ++ txs2 ++ txs3).map V.str)) := by
        rw [v5, List.map_append, List.map_append]
      refine ⟨r5, rfl, ⟨_, sql_of v5'⟩, lc_none (L := tabs T) (d := e) (walk_list (xs := (txs1 ++ txs2 ++ txs3).map V.str)) gn5.dice gn5.tabs (fun H' g => sql_of (g.lst nr v5')) ?_ ?_⟩
      · intro x H' mx g C C' hC'
        obtain ⟨t, ht, rfl⟩ := List.mem_map.mp mx
        obtain ⟨lt, pt⟩ := txs_ok t ht
        walk_at "rd"
        exact ⟨t, rfl, lt, pt, g.tabs, fun H4 e4 t4 => ⟨_, rfl, iteF (hC' H4 ((Gt.refl g.dice g.tabs).ext e4 t4))⟩⟩
      · intro H' D g nD hD fD
        refine ⟨by decide, fun p hp => ?_⟩
        have h2 := same_new (o := .lst []) hp
        have w2 : upd H' p (.lst []) p = some (.lst []) := upd_same
        generalize upd H' p (.lst []) = H2 at *
        refine eqLs (xs := []) (ys := []) (sql_of (h2 _ _ fD)) (sql_of w2) (fun w h => nomatch h) (fun w h => nomatch h) ?_
        rw [decide_eq_true rfl]
        exact q _
theorem law_sp (K : PySem.W.Frag) (cs : List (Addr × Addr)) (H : Hp) (a : Addr) (ns : List Int) (_ : ns.length ≤ 63) (hC : ∀ p ∈ cs, H p.2 = some (.tbl #[])) (hS : SqL K H a (ns.map V.int)) : spLaw K cs [.ref a] H (fun v _ => v = .bl true) E0 :=
  ⟨a, ns, rfl, hC, hS, fun _ => rfl⟩
end

open PySem PySem.Spec PyProof.Rows L2 Lv LamX
theorem all_mk {q : Program} {w : World} {K : PySem.W.Frag} {h : Heap} {mg : Str → Option Value} {fa : Addr} (X : K.In h) (G : h.Ns mainGlobals mg) (tab : ∀ y, ((recsOf q).any fun e => e.name == y) = true → TabOf mg h y) (hfa : mg "law" = some (.ref fa))
    {f0 : Addr} {od0 an0 : Option Addr} {sl0 : Array (Option Value)} {oc0 kV0 dc0 pm0 cd0 ct0 : Value}
    {f1 : Addr} {od1 an1 : Option Addr} {sl1 : Array (Option Value)} {oc1 kV1 dc1 pm1 cd1 ct1 : Value}
    {f2 : Addr} {od2 an2 : Option Addr} {sl2 : Array (Option Value)} {oc2 kV2 dc2 pm2 cd2 ct2 : Value}
    {f3 : Addr} {od3 an3 : Option Addr} {sl3 : Array (Option Value)} {oc3 kV3 dc3 pm3 cd3 ct3 : Value}
    {f4 : Addr} {od4 an4 : Option Addr} {sl4 : Array (Option Value)} {oc4 kV4 dc4 pm4 cd4 ct4 : Value}
    {f5 : Addr} {od5 an5 : Option Addr} {sl5 : Array (Option Value)} {oc5 kV5 dc5 pm5 cd5 ct5 : Value}
    {f6 : Addr} {od6 an6 : Option Addr} {sl6 : Array (Option Value)} {oc6 kV6 dc6 pm6 cd6 ct6 : Value}
    {f7 : Addr} {od7 an7 : Option Addr} {sl7 : Array (Option Value)} {oc7 kV7 dc7 pm7 cd7 ct7 : Value}
    {f8 : Addr} {od8 an8 : Option Addr} {sl8 : Array (Option Value)} {oc8 kV8 dc8 pm8 cd8 ct8 : Value}
    {f9 : Addr} {od9 an9 : Option Addr} {sl9 : Array (Option Value)} {oc9 kV9 dc9 pm9 cd9 ct9 : Value}
    {f10 : Addr} {od10 an10 : Option Addr} {sl10 : Array (Option Value)} {oc10 kV10 dc10 pm10 cd10 ct10 : Value}
    {f11 : Addr} {od11 an11 : Option Addr} {sl11 : Array (Option Value)} {oc11 kV11 dc11 pm11 cd11 ct11 : Value}
    {f12 : Addr} {od12 an12 : Option Addr} {sl12 : Array (Option Value)} {oc12 kV12 dc12 pm12 cd12 ct12 : Value}
    {f13 : Addr} {od13 an13 : Option Addr} {sl13 : Array (Option Value)} {oc13 kV13 dc13 pm13 cd13 ct13 : Value}
    {f14 : Addr} {od14 an14 : Option Addr} {sl14 : Array (Option Value)} {oc14 kV14 dc14 pm14 cd14 ct14 : Value}
    {f15 : Addr} {od15 an15 : Option Addr} {sl15 : Array (Option Value)} {oc15 kV15 dc15 pm15 cd15 ct15 : Value}
    {f16 : Addr} {od16 an16 : Option Addr} {sl16 : Array (Option Value)} {oc16 kV16 dc16 pm16 cd16 ct16 : Value}
    {t_MAX_DEPTH : Tok}
    {t_MAX_LETTERS : Tok}
    {a_KEYWORDS : Addr}
    {o_KEYWORDS : Option Addr} {n_KEYWORDS : Nat} {sl_KEYWORDS : Array (Option Value)} {t0_KEYWORDS t1_KEYWORDS : Tok}
    {cc13 PP13 : Addr} {ee13 : Value} {dd13 : Option Addr} {uu13 : Array Value} {ll13 : Array (Option Value)}
    {cc15 PP15 : Addr} {ee15 : Value} {dd15 : Option Addr} {uu15 : Array Value} {ll15 : Array (Option Value)}
    {cc16 PP16 : Addr} {ee16 : Value} {dd16 : Option Addr} {uu16 : Array Value} {ll16 : Array (Option Value)}
    {C_RivalError : Addr}
    {C_InvalidWord : Addr}
    {C_ParseError : Addr}
    {nm_ParseError qn_ParseError : Str} {N_ParseError fI_ParseError cda_ParseError cc_ParseError : Addr} {bs_ParseError bm_ParseError sub_ParseError : List Value} {sn_ParseError : List Str} {ab_ParseError : Bool} {col_ParseError : Option Bool} {dd_ParseError : Option Addr} {k0_ParseError k1_ParseError k2_ParseError k3_ParseError k5_ParseError : Option Value}
    {foc_ParseError fdoc_ParseError fpm_ParseError fct_ParseError ccl_ParseError cll_ParseError : Value} {fod_ParseError fan_ParseError cdd_ParseError cld_ParseError : Option Addr} {fsl_ParseError ccs_ParseError csl_ParseError : Array (Option Value)} {vs_ParseError : Array Value} {file_ParseError : Str} {tf_ParseError : Tok}
    (a0 : PySem.W.nsIn K mainGlobals "is_name" = some (some (.ref f0)))
    (l0 : K.lookup f0 = some ⟨oc0, od0, .func (PySem.W.fnOf "is_name" "is_name" (defArgs s_is_name) (defBody s_is_name) (defScope s_is_name) .none kV0 dc0 pm0 an0 cd0 ct0), sl0⟩)
    (c0 : PySem.W.codeIn K cd0 "is_name" = true)
    (k0 : PySem.W.keepIn K (.ref f0) = true)
    (a1 : PySem.W.nsIn K mainGlobals "is_names" = some (some (.ref f1)))
    (l1 : K.lookup f1 = some ⟨oc1, od1, .func (PySem.W.fnOf "is_names" "is_names" (defArgs s_is_names) (defBody s_is_names) (defScope s_is_names) .none kV1 dc1 pm1 an1 cd1 ct1), sl1⟩)
    (c1 : PySem.W.codeIn K cd1 "is_names" = true)
    (k1 : PySem.W.keepIn K (.ref f1) = true)
    (a2 : PySem.W.nsIn K mainGlobals "is_type" = some (some (.ref f2)))
    (l2 : K.lookup f2 = some ⟨oc2, od2, .func (PySem.W.fnOf "is_type" "is_type" (defArgs s_is_type) (defBody s_is_type) (defScope s_is_type) .none kV2 dc2 pm2 an2 cd2 ct2), sl2⟩)
    (c2 : PySem.W.codeIn K cd2 "is_type" = true)
    (k2 : PySem.W.keepIn K (.ref f2) = true)
    (a3 : PySem.W.nsIn K mainGlobals "words_of" = some (some (.ref f3)))
    (l3 : K.lookup f3 = some ⟨oc3, od3, .func (PySem.W.fnOf "words_of" "words_of" (defArgs s_words_of) (defBody s_words_of) (defScope s_words_of) .none kV3 dc3 pm3 an3 cd3 ct3), sl3⟩)
    (c3 : PySem.W.codeIn K cd3 "words_of" = true)
    (k3 : PySem.W.keepIn K (.ref f3) = true)
    (a4 : PySem.W.nsIn K mainGlobals "write_type" = some (some (.ref f4)))
    (l4 : K.lookup f4 = some ⟨oc4, od4, .func (PySem.W.fnOf "write_type" "write_type" (defArgs s_write_type) (defBody s_write_type) (defScope s_write_type) .none kV4 dc4 pm4 an4 cd4 ct4), sl4⟩)
    (c4 : PySem.W.codeIn K cd4 "write_type" = true)
    (k4 : PySem.W.keepIn K (.ref f4) = true)
    (a5 : PySem.W.nsIn K mainGlobals "read_type" = some (some (.ref f5)))
    (l5 : K.lookup f5 = some ⟨oc5, od5, .func (PySem.W.fnOf "read_type" "read_type" (defArgs s_read_type) (defBody s_read_type) (defScope s_read_type) .none kV5 dc5 pm5 an5 cd5 ct5), sl5⟩)
    (c5 : PySem.W.codeIn K cd5 "read_type" = true)
    (k5 : PySem.W.keepIn K (.ref f5) = true)
    (a6 : PySem.W.nsIn K mainGlobals "_law_dice" = some (some (.ref f6)))
    (l6 : K.lookup f6 = some ⟨oc6, od6, .func (PySem.W.fnOf "_law_dice" "_law_dice" (defArgs s_law_dice) (defBody s_law_dice) (defScope s_law_dice) .none kV6 dc6 pm6 an6 cd6 ct6), sl6⟩)
    (c6 : PySem.W.codeIn K cd6 "_law_dice" = true)
    (k6 : PySem.W.keepIn K (.ref f6) = true)
    (a7 : PySem.W.nsIn K mainGlobals "_law_roll" = some (some (.ref f7)))
    (l7 : K.lookup f7 = some ⟨oc7, od7, .func (PySem.W.fnOf "_law_roll" "_law_roll" (defArgs s_law_roll) (defBody s_law_roll) (defScope s_law_roll) .none kV7 dc7 pm7 an7 cd7 ct7), sl7⟩)
    (c7 : PySem.W.codeIn K cd7 "_law_roll" = true)
    (k7 : PySem.W.keepIn K (.ref f7) = true)
    (a8 : PySem.W.nsIn K mainGlobals "_law_pick" = some (some (.ref f8)))
    (l8 : K.lookup f8 = some ⟨oc8, od8, .func (PySem.W.fnOf "_law_pick" "_law_pick" (defArgs s_law_pick) (defBody s_law_pick) (defScope s_law_pick) .none kV8 dc8 pm8 an8 cd8 ct8), sl8⟩)
    (c8 : PySem.W.codeIn K cd8 "_law_pick" = true)
    (k8 : PySem.W.keepIn K (.ref f8) = true)
    (a9 : PySem.W.nsIn K mainGlobals "_law_some" = some (some (.ref f9)))
    (l9 : K.lookup f9 = some ⟨oc9, od9, .func (PySem.W.fnOf "_law_some" "_law_some" (defArgs s_law_some) (defBody s_law_some) (defScope s_law_some) .none kV9 dc9 pm9 an9 cd9 ct9), sl9⟩)
    (c9 : PySem.W.codeIn K cd9 "_law_some" = true)
    (k9 : PySem.W.keepIn K (.ref f9) = true)
    (a10 : PySem.W.nsIn K mainGlobals "_law_names" = some (some (.ref f10)))
    (l10 : K.lookup f10 = some ⟨oc10, od10, .func (PySem.W.fnOf "_law_names" "_law_names" (defArgs s_law_names) (defBody s_law_names) (defScope s_law_names) .none kV10 dc10 pm10 an10 cd10 ct10), sl10⟩)
    (c10 : PySem.W.codeIn K cd10 "_law_names" = true)
    (k10 : PySem.W.keepIn K (.ref f10) = true)
    (a11 : PySem.W.nsIn K mainGlobals "_law_met" = some (some (.ref f11)))
    (l11 : K.lookup f11 = some ⟨oc11, od11, .func (PySem.W.fnOf "_law_met" "_law_met" (defArgs s_law_met) (defBody s_law_met) (defScope s_law_met) .none kV11 dc11 pm11 an11 cd11 ct11), sl11⟩)
    (c11 : PySem.W.codeIn K cd11 "_law_met" = true)
    (k11 : PySem.W.keepIn K (.ref f11) = true)
    (a12 : PySem.W.nsIn K mainGlobals "_law_read" = some (some (.ref f12)))
    (l12 : K.lookup f12 = some ⟨oc12, od12, .func (PySem.W.fnOf "_law_read" "_law_read" (defArgs s_law_read) (defBody s_law_read) (defScope s_law_read) .none kV12 dc12 pm12 an12 cd12 ct12), sl12⟩)
    (c12 : PySem.W.codeIn K cd12 "_law_read" = true)
    (k12 : PySem.W.keepIn K (.ref f12) = true)
    (a13 : PySem.W.nsIn K mainGlobals "_law_text_right" = some (some (.ref f13)))
    (l13 : K.lookup f13 = some ⟨oc13, od13, .func (PySem.W.fnOf "_law_text_right" "_law_text_right" (defArgs s_law_text_right) (defBody s_law_text_right) (defScope s_law_text_right) .none kV13 dc13 pm13 an13 cd13 ct13), sl13⟩)
    (c13 : PySem.W.codeIn K cd13 "_law_text_right" = true)
    (k13 : PySem.W.keepIn K (.ref f13) = true)
    (a14 : PySem.W.nsIn K mainGlobals "_law_spoiled" = some (some (.ref f14)))
    (l14 : K.lookup f14 = some ⟨oc14, od14, .func (PySem.W.fnOf "_law_spoiled" "_law_spoiled" (defArgs s_law_spoiled) (defBody s_law_spoiled) (defScope s_law_spoiled) .none kV14 dc14 pm14 an14 cd14 ct14), sl14⟩)
    (c14 : PySem.W.codeIn K cd14 "_law_spoiled" = true)
    (k14 : PySem.W.keepIn K (.ref f14) = true)
    (a15 : PySem.W.nsIn K mainGlobals "_law_right" = some (some (.ref f15)))
    (l15 : K.lookup f15 = some ⟨oc15, od15, .func (PySem.W.fnOf "_law_right" "_law_right" (defArgs s_law_right) (defBody s_law_right) (defScope s_law_right) .none kV15 dc15 pm15 an15 cd15 ct15), sl15⟩)
    (c15 : PySem.W.codeIn K cd15 "_law_right" = true)
    (k15 : PySem.W.keepIn K (.ref f15) = true)
    (a16 : PySem.W.nsIn K mainGlobals "law" = some (some (.ref f16)))
    (l16 : K.lookup f16 = some ⟨oc16, od16, .func (PySem.W.fnOf "law" "law" (defArgs s_law) (defBody s_law) (defScope s_law) .none kV16 dc16 pm16 an16 cd16 ct16), sl16⟩)
    (c16 : PySem.W.codeIn K cd16 "law" = true)
    (k16 : PySem.W.keepIn K (.ref f16) = true)
    (e_MAX_DEPTH : PySem.W.nsIn K mainGlobals "MAX_DEPTH" = some (some (.int (400) t_MAX_DEPTH)))
    (e_MAX_LETTERS : PySem.W.nsIn K mainGlobals "MAX_LETTERS" = some (some (.int (8) t_MAX_LETTERS)))
    (e_KEYWORDS : PySem.W.nsIn K mainGlobals "KEYWORDS" = some (some (.ref a_KEYWORDS)))
    (w_KEYWORDS : K.lookup a_KEYWORDS = some ⟨.type "tuple", o_KEYWORDS, .seq #[.str "gives" t0_KEYWORDS, .str "to" t1_KEYWORDS] n_KEYWORDS, sl_KEYWORDS⟩)
    (z_abs : PySem.W.nsIn K mainGlobals "abs" = some none)
    (z_all : PySem.W.nsIn K mainGlobals "all" = some none)
    (z_int : PySem.W.nsIn K mainGlobals "int" = some none)
    (z_isinstance : PySem.W.nsIn K mainGlobals "isinstance" = some none)
    (z_len : PySem.W.nsIn K mainGlobals "len" = some none)
    (z_list : PySem.W.nsIn K mainGlobals "list" = some none)
    (z_max : PySem.W.nsIn K mainGlobals "max" = some none)
    (z_min : PySem.W.nsIn K mainGlobals "min" = some none)
    (z_range : PySem.W.nsIn K mainGlobals "range" = some none)
    (z_repr : PySem.W.nsIn K mainGlobals "repr" = some none)
    (z_str : PySem.W.nsIn K mainGlobals "str" = some none)
    (z_tuple : PySem.W.nsIn K mainGlobals "tuple" = some none)
    (cd13_ : cd13 = .ref cc13)
    (lc13 : K.lookup cc13 = some ⟨ee13, dd13, .fields uu13, ll13⟩)
    (pv13 : uu13[11]? = some (.ref PP13))
    (np13 : K.lookup PP13 = none)
    (rc13 : ((recsOf q).any fun e => e.name == "_law_text_right") = true)
    (cd15_ : cd15 = .ref cc15)
    (lc15 : K.lookup cc15 = some ⟨ee15, dd15, .fields uu15, ll15⟩)
    (pv15 : uu15[11]? = some (.ref PP15))
    (np15 : K.lookup PP15 = none)
    (rc15 : ((recsOf q).any fun e => e.name == "_law_right") = true)
    (cd16_ : cd16 = .ref cc16)
    (lc16 : K.lookup cc16 = some ⟨ee16, dd16, .fields uu16, ll16⟩)
    (pv16 : uu16[11]? = some (.ref PP16))
    (np16 : K.lookup PP16 = none)
    (rc16 : ((recsOf q).any fun e => e.name == "law") = true)
    (rn13_15 : PP13 ≠ PP15)
    (rn13_16 : PP13 ≠ PP16)
    (rn15_16 : PP15 ≠ PP16)
    (e_RivalError : PySem.W.nsIn K mainGlobals "RivalError" = some (some (.ref C_RivalError)))
    (e_InvalidWord : PySem.W.nsIn K mainGlobals "InvalidWord" = some (some (.ref C_InvalidWord)))
    (e_ParseError : PySem.W.nsIn K mainGlobals "ParseError" = some (some (.ref C_ParseError)))
    (ex_InvalidWord : PySem.W.excIn K C_InvalidWord [.type "ValueError", .type "Exception", .type "BaseException", .type "object"] "ValueError.__new__" = true)
    (kp_InvalidWord : PySem.W.keepIn K (.ref C_InvalidWord) = true)
    (sb_InvalidWord : PySem.W.subIn K (.ref C_InvalidWord) (.type "BaseException") = some true)
    (ty_InvalidWord : PySem.W.typeIn K (.ref C_InvalidWord) = some (.type "type"))
    (hg_InvalidWord : PySem.W.findIn K (.ref C_InvalidWord) "__getattribute__" = some (some (.builtin "BaseException.__getattribute__")))
    (hk_InvalidWord : PySem.W.findIn K (.ref C_InvalidWord) "__getattr__" = some none)
    (hd_InvalidWord : PySem.W.hasDictIn K C_InvalidWord = true)
    (ha_InvalidWord : PySem.W.findIn K (.ref C_InvalidWord) "__class__" = some (some (.builtin "object.__class__")))
    (hn_InvalidWord : PySem.W.specialIn K (.builtin "object.__class__") "__get__" = some (some (.builtin "getset_descriptor.__get__")))
    (ht_InvalidWord : PySem.W.takesIn K (.builtin "object.__class__") = some true)
    (hm_InvalidWord : PySem.W.mroIn K C_InvalidWord (.type "object") = some true)
    (ycl_ParseError : K.lookup C_ParseError = some (excClassObj nm_ParseError qn_ParseError C_ParseError N_ParseError bs_ParseError bm_ParseError true sn_ParseError sub_ParseError ab_ParseError col_ParseError dd_ParseError k0_ParseError k1_ParseError k2_ParseError k3_ParseError k5_ParseError "ValueError.__new__"))
    (yve_ParseError : PySem.HandSPX.refsVE bm_ParseError = true)
    (ysa_ParseError : PySem.W.findIn K (.ref C_ParseError) "__setattr__" = some (some (.builtin "object.__setattr__")))
    (yga_ParseError : PySem.W.findIn K (.ref C_ParseError) "__getattribute__" = some (some (.builtin "BaseException.__getattribute__")))
    (ygg_ParseError : PySem.W.findIn K (.ref C_ParseError) "__getattr__" = some none)
    (yno_ParseError : PySem.W.findIn K (.ref C_ParseError) "line" = some none)
    (yic_ParseError : PySem.W.findIn K (.ref C_ParseError) "__init__" = some (some (.ref fI_ParseError)))
    (ytc_ParseError : PySem.W.typeIn K (.ref fI_ParseError) = some (.type "function"))
    (ykc_ParseError : PySem.W.keepIn K (.ref C_ParseError) = true)
    (yex_ParseError : PySem.W.subIn K (.ref C_ParseError) (.type "BaseException") = some true)
    (yvc_ParseError : PySem.W.subIn K (.ref C_ParseError) (.type "ValueError") = some true)
    (yty_ParseError : PySem.W.typeIn K (.ref C_ParseError) = some (.type "type"))
    (yhd_ParseError : PySem.W.hasDictIn K C_ParseError = true)
    (ysu_ParseError : PySem.W.ks_superIn K C_ParseError C_ParseError "__init__" = some (some (.builtin "ValueError.__init__")))
    (yop_ParseError : PySem.W.nsIn K cStatics "thirdparty.any" = some none)
    (yms_ParseError : PySem.W.mroIn K C_ParseError (.ref C_ParseError) = some true)
    (yns_ParseError : PySem.W.nsIn K mainGlobals "super" = some none)
    (yto_ParseError : (P.main.scope.names.lookup ("super" : Str)).isSome = false)
    (yfn_ParseError : K.lookup fI_ParseError = some ⟨foc_ParseError, fod_ParseError, .func (PySem.W.ksFn "__init__" "ParseError.__init__" (PySem.PeX.iA "line" ⟨⟨8, 17, 8, 21⟩, ⟨8, 23, 8, 27⟩, ⟨9, 8, 9, 13⟩, ⟨9, 8, 9, 15⟩, ⟨9, 8, 9, 24⟩, ⟨9, 27, 9, 32⟩, ⟨9, 33, 9, 37⟩, ⟨9, 32, 9, 38⟩, ⟨9, 38, 9, 53⟩, ⟨9, 25, 9, 54⟩, ⟨9, 8, 9, 55⟩, ⟨9, 8, 9, 55⟩, ⟨10, 8, 10, 12⟩, ⟨10, 8, 10, 17⟩, ⟨10, 20, 10, 24⟩, ⟨10, 8, 10, 24⟩⟩) (PySem.PeX.iB "line" "line " " cannot be read" ⟨⟨8, 17, 8, 21⟩, ⟨8, 23, 8, 27⟩, ⟨9, 8, 9, 13⟩, ⟨9, 8, 9, 15⟩, ⟨9, 8, 9, 24⟩, ⟨9, 27, 9, 32⟩, ⟨9, 33, 9, 37⟩, ⟨9, 32, 9, 38⟩, ⟨9, 38, 9, 53⟩, ⟨9, 25, 9, 54⟩, ⟨9, 8, 9, 55⟩, ⟨9, 8, 9, 55⟩, ⟨10, 8, 10, 12⟩, ⟨10, 8, 10, 17⟩, ⟨10, 20, 10, 24⟩, ⟨10, 8, 10, 24⟩⟩) (PySem.PeX.iS "line") .none .none fdoc_ParseError fpm_ParseError fan_ParseError (.ref cda_ParseError) fct_ParseError cc_ParseError), fsl_ParseError⟩)
    (yci_ParseError : PySem.W.codeIn K (.ref cda_ParseError) "ParseError.__init__" = true)
    (yce_ParseError : K.lookup cc_ParseError = some ⟨cll_ParseError, cld_ParseError, .cell (some (.ref C_ParseError)), csl_ParseError⟩)
    (yco_ParseError : K.lookup cda_ParseError = some ⟨ccl_ParseError, cdd_ParseError, .fields vs_ParseError, ccs_ParseError⟩)
    (yvs_ParseError : vs_ParseError[2]? = some (.str file_ParseError tf_ParseError))
    (yfi_ParseError : ((P.main.file : Str) == file_ParseError) = true)
    (zt_InvalidWord : PySem.W.typeIn K (.ref C_InvalidWord) = some (.type "type"))
    (su_InvalidWord_InvalidWord : PySem.W.subIn K (.ref C_InvalidWord) (.ref C_InvalidWord) = some true)
    (zb_InvalidWord : PySem.W.subIn K (.ref C_InvalidWord) (.type "BaseException") = some true)
    (zd_InvalidWord : PySem.W.hasDictIn K C_InvalidWord = true)
    (zt_ParseError : PySem.W.typeIn K (.ref C_ParseError) = some (.type "type"))
    (su_InvalidWord_ParseError : PySem.W.subIn K (.ref C_InvalidWord) (.ref C_ParseError) = some false)
    (zb_ParseError : PySem.W.subIn K (.ref C_ParseError) (.type "BaseException") = some true)
    (zd_ParseError : PySem.W.hasDictIn K C_ParseError = true)
    (su_ParseError_InvalidWord : PySem.W.subIn K (.ref C_ParseError) (.ref C_InvalidWord) = some false)
    (su_ParseError_ParseError : PySem.W.subIn K (.ref C_ParseError) (.ref C_ParseError) = some true)
    (zt_RivalError : PySem.W.typeIn K (.ref C_RivalError) = some (.type "type"))
    (su_ParseError_RivalError : PySem.W.subIn K (.ref C_ParseError) (.ref C_RivalError) = some true)
    (ic_RivalError : PySem.W.isClsIn K C_RivalError = true)
    (rq_ParseError_RivalError : (Value.ref C_ParseError == Value.ref C_RivalError) = false)
    : ∃ (fd : FuncData) (cs : List (Addr × Addr)), (∀ p ∈ cs, h.get? p.2 = some { cls := .none, data := .fields #[] }) ∧ (∀ p ∈ cs, K.lookup p.2 = none) ∧ (∀ p ∈ cs, PySem.W.CodeHd h p.1 p.2) ∧ (∀ (s : Shared) (v : Value), BindsTo s fd ⟨[v], []⟩ [("_law_script", v)]) ∧
      ∀ base : Heap, K.In base → base.Ns mainGlobals mg → (∀ p ∈ cs, TabB base mg p.1 p.2) → FnG P w K mg base CX0 10 fa fd ["_law_script"] (spLaw K cs) := by
  have e : fa = f16 := Value.ref.inj (Option.some.inj (hfa.symm.trans (PySem.W.mg_of X G a16)))
  rw [e]
  let T : Tx K mg := {
    f_is_name := f0, d_is_name := _, F_is_name := fun_mk (st := s_is_name) l0 c0 k0,
    b_is_name := (fun_mk (st := s_is_name) l0 c0 k0).binds (ps := ["value"]) fun _ _ _ _ _ _ us hl => match us, hl with | [_], _ => rfl,
    g_is_name := PySem.W.mg_of X G a0,
    f_is_names := f1, d_is_names := _, F_is_names := fun_mk (st := s_is_names) l1 c1 k1,
    b_is_names := (fun_mk (st := s_is_names) l1 c1 k1).binds (ps := ["value", "least", "most"]) fun _ _ _ _ _ _ us hl => match us, hl with | [_, _, _], _ => rfl,
    g_is_names := PySem.W.mg_of X G a1,
    f_is_type := f2, d_is_type := _, F_is_type := fun_mk (st := s_is_type) l2 c2 k2,
    b_is_type := (fun_mk (st := s_is_type) l2 c2 k2).binds (ps := ["value"]) fun _ _ _ _ _ _ us hl => match us, hl with | [_], _ => rfl,
    g_is_type := PySem.W.mg_of X G a2,
    f_words_of := f3, d_words_of := _, F_words_of := fun_mk (st := s_words_of) l3 c3 k3,
    b_words_of := (fun_mk (st := s_words_of) l3 c3 k3).binds (ps := ["text"]) fun _ _ _ _ _ _ us hl => match us, hl with | [_], _ => rfl,
    g_words_of := PySem.W.mg_of X G a3,
    f_write_type := f4, d_write_type := _, F_write_type := fun_mk (st := s_write_type) l4 c4 k4,
    b_write_type := (fun_mk (st := s_write_type) l4 c4 k4).binds (ps := ["names"]) fun _ _ _ _ _ _ us hl => match us, hl with | [_], _ => rfl,
    g_write_type := PySem.W.mg_of X G a4,
    f_read_type := f5, d_read_type := _, F_read_type := fun_mk (st := s_read_type) l5 c5 k5,
    b_read_type := (fun_mk (st := s_read_type) l5 c5 k5).binds (ps := ["text"]) fun _ _ _ _ _ _ us hl => match us, hl with | [_], _ => rfl,
    g_read_type := PySem.W.mg_of X G a5,
    f__law_dice := f6, d__law_dice := _, F__law_dice := fun_mk (st := s_law_dice) l6 c6 k6,
    b__law_dice := (fun_mk (st := s_law_dice) l6 c6 k6).binds (ps := ["_law_script", "_law_spot"]) fun _ _ _ _ _ _ us hl => match us, hl with | [_, _], _ => rfl,
    g__law_dice := PySem.W.mg_of X G a6,
    f__law_roll := f7, d__law_roll := _, F__law_roll := fun_mk (st := s_law_roll) l7 c7 k7,
    b__law_roll := (fun_mk (st := s_law_roll) l7 c7 k7).binds (ps := ["_law_dice_here", "_law_upto"]) fun _ _ _ _ _ _ us hl => match us, hl with | [_, _], _ => rfl,
    g__law_roll := PySem.W.mg_of X G a7,
    f__law_pick := f8, d__law_pick := _, F__law_pick := fun_mk (st := s_law_pick) l8 c8 k8,
    b__law_pick := (fun_mk (st := s_law_pick) l8 c8 k8).binds (ps := ["_law_dice_here", "_law_items"]) fun _ _ _ _ _ _ us hl => match us, hl with | [_, _], _ => rfl,
    g__law_pick := PySem.W.mg_of X G a8,
    f__law_some := f9, d__law_some := _, F__law_some := fun_mk (st := s_law_some) l9 c9 k9,
    b__law_some := (fun_mk (st := s_law_some) l9 c9 k9).binds (ps := ["_law_dice_here", "_law_items", "_law_many"]) fun _ _ _ _ _ _ us hl => match us, hl with | [_, _, _], _ => rfl,
    g__law_some := PySem.W.mg_of X G a9,
    f__law_names := f10, d__law_names := _, F__law_names := fun_mk (st := s_law_names) l10 c10 k10,
    b__law_names := (fun_mk (st := s_law_names) l10 c10 k10).binds (ps := ["_law_dice_here", "_law_many"]) fun _ _ _ _ _ _ us hl => match us, hl with | [_, _], _ => rfl,
    g__law_names := PySem.W.mg_of X G a10,
    f__law_met := f11, d__law_met := _, F__law_met := fun_mk (st := s_law_met) l11 c11 k11,
    b__law_met := (fun_mk (st := s_law_met) l11 c11 k11).binds (ps := ["_law_call"]) fun _ _ _ _ _ _ us hl => match us, hl with | [_], _ => rfl,
    g__law_met := PySem.W.mg_of X G a11,
    f__law_read := f12, d__law_read := _, F__law_read := fun_mk (st := s_law_read) l12 c12 k12,
    b__law_read := (fun_mk (st := s_law_read) l12 c12 k12).binds (ps := ["_law_text"]) fun _ _ _ _ _ _ us hl => match us, hl with | [_], _ => rfl,
    g__law_read := PySem.W.mg_of X G a12,
    f__law_text_right := f13, d__law_text_right := _, F__law_text_right := fun_mk (st := s_law_text_right) l13 c13 k13,
    b__law_text_right := (fun_mk (st := s_law_text_right) l13 c13 k13).binds (ps := ["_law_text"]) fun _ _ _ _ _ _ us hl => match us, hl with | [_], _ => rfl,
    g__law_text_right := PySem.W.mg_of X G a13,
    f__law_spoiled := f14, d__law_spoiled := _, F__law_spoiled := fun_mk (st := s_law_spoiled) l14 c14 k14,
    b__law_spoiled := (fun_mk (st := s_law_spoiled) l14 c14 k14).binds (ps := ["_law_dice_here", "_law_text"]) fun _ _ _ _ _ _ us hl => match us, hl with | [_, _], _ => rfl,
    g__law_spoiled := PySem.W.mg_of X G a14,
    f__law_right := f15, d__law_right := _, F__law_right := fun_mk (st := s_law_right) l15 c15 k15,
    b__law_right := (fun_mk (st := s_law_right) l15 c15 k15).binds (ps := ["_law_dice_here"]) fun _ _ _ _ _ _ us hl => match us, hl with | [_], _ => rfl,
    g__law_right := PySem.W.mg_of X G a15,
    f_law := f16, d_law := _, F_law := fun_mk (st := s_law) l16 c16 k16,
    b_law := (fun_mk (st := s_law) l16 c16 k16).binds (ps := ["_law_script"]) fun _ _ _ _ _ _ us hl => match us, hl with | [_], _ => rfl,
    g_law := PySem.W.mg_of X G a16,
    t_MAX_DEPTH := t_MAX_DEPTH, m_MAX_DEPTH := PySem.W.mg_of X G e_MAX_DEPTH,
    t_MAX_LETTERS := t_MAX_LETTERS, m_MAX_LETTERS := PySem.W.mg_of X G e_MAX_LETTERS,
    a_KEYWORDS := a_KEYWORDS, m_KEYWORDS := PySem.W.mg_of X G e_KEYWORDS, q_KEYWORDS := fun H => .inr ⟨_, _, _, w_KEYWORDS, rfl, rfl, (by show 2 ≤ sizeLine; decide), .cons ⟨_, rfl⟩ (.cons ⟨_, rfl⟩ (.nil))⟩,
    n_abs := PySem.W.mg_none_of X G z_abs,
    n_all := PySem.W.mg_none_of X G z_all,
    n_int := PySem.W.mg_none_of X G z_int,
    n_isinstance := PySem.W.mg_none_of X G z_isinstance,
    n_len := PySem.W.mg_none_of X G z_len,
    n_list := PySem.W.mg_none_of X G z_list,
    n_max := PySem.W.mg_none_of X G z_max,
    n_min := PySem.W.mg_none_of X G z_min,
    n_range := PySem.W.mg_none_of X G z_range,
    n_repr := PySem.W.mg_none_of X G z_repr,
    n_str := PySem.W.mg_none_of X G z_str,
    n_tuple := PySem.W.mg_none_of X G z_tuple,
    c__law_text_right := cc13, P__law_text_right := PP13, k__law_text_right := cd13_,
    c__law_right := cc15, P__law_right := PP15, k__law_right := cd15_,
    c_law := cc16, P_law := PP16, k_law := cd16_,
    pn__law_text_right__law_right := rn13_15,
    pn__law_text_right_law := rn13_16,
    pn__law_right_law := rn15_16,
    C_RivalError := C_RivalError, m_RivalError := PySem.W.mg_of X G e_RivalError,
    C_InvalidWord := C_InvalidWord, m_InvalidWord := PySem.W.mg_of X G e_InvalidWord,
    C_ParseError := C_ParseError, m_ParseError := PySem.W.mg_of X G e_ParseError,
    x_InvalidWord := ⟨PySem.W.mg_of X G e_InvalidWord, ex_InvalidWord, kp_InvalidWord, sb_InvalidWord, ty_InvalidWord, ⟨hg_InvalidWord, hk_InvalidWord, sb_InvalidWord, hd_InvalidWord, ha_InvalidWord, hn_InvalidWord, ht_InvalidWord, hm_InvalidWord⟩⟩,
    fI_ParseError := fI_ParseError, p_ParseError := { gC := PySem.W.mg_of X G e_ParseError, cls := ⟨_, _, _, _, _, _, _, _, _, _, _, _, _, _, _, ycl_ParseError, yve_ParseError⟩, sa := ysa_ParseError, ga := yga_ParseError, gg := ygg_ParseError, noN := yno_ParseError, iC := yic_ParseError, tC := ytc_ParseError, kC := ykc_ParseError, exC := yex_ParseError, veC := yvc_ParseError, tyC := yty_ParseError, hdC := yhd_ParseError, sup := ysu_ParseError, op := yop_ParseError, msub := yms_ParseError, nsup := PySem.W.mg_none_of X G yns_ParseError, top := yto_ParseError, fn := ⟨_, _, _, _, _, _, _, _, ⟨⟨8, 17, 8, 21⟩, ⟨8, 23, 8, 27⟩, ⟨9, 8, 9, 13⟩, ⟨9, 8, 9, 15⟩, ⟨9, 8, 9, 24⟩, ⟨9, 27, 9, 32⟩, ⟨9, 33, 9, 37⟩, ⟨9, 32, 9, 38⟩, ⟨9, 38, 9, 53⟩, ⟨9, 25, 9, 54⟩, ⟨9, 8, 9, 55⟩, ⟨9, 8, 9, 55⟩, ⟨10, 8, 10, 12⟩, ⟨10, 8, 10, 17⟩, ⟨10, 20, 10, 24⟩, ⟨10, 8, 10, 24⟩⟩, _, _, _, _, _, _, _, _, _, _, yfn_ParseError, yci_ParseError, yce_ParseError, yco_ParseError, yvs_ParseError, yfi_ParseError, rfl⟩ },
    exm_InvalidWord_InvalidWord := PySem.W.exm_ref zb_InvalidWord zd_InvalidWord zt_InvalidWord su_InvalidWord_InvalidWord,
    exm_InvalidWord_ParseError := PySem.W.exm_ref zb_ParseError zd_ParseError zt_ParseError su_InvalidWord_ParseError,
    exm_ParseError_InvalidWord := PySem.W.exm_ref zb_InvalidWord zd_InvalidWord zt_InvalidWord su_ParseError_InvalidWord,
    exm_ParseError_ParseError := PySem.W.exm_ref zb_ParseError zd_ParseError zt_ParseError su_ParseError_ParseError,
    kit_ParseError_RivalError := kit_sub rq_ParseError_RivalError zt_RivalError su_ParseError_RivalError ic_RivalError }
  have t13 := tab_at X (PySem.W.mg_of X G a13) l13 cd13_ lc13 pv13 (tab "_law_text_right" rc13)
  have t15 := tab_at X (PySem.W.mg_of X G a15) l15 cd15_ lc15 pv15 (tab "_law_right" rc15)
  have t16 := tab_at X (PySem.W.mg_of X G a16) l16 cd16_ lc16 pv16 (tab "law" rc16)
  refine ⟨T.d_law, [(cc13, PP13), (cc15, PP15), (cc16, PP16)], ?_, ?_, ?_, fun s v => .of_eq rfl, fun base _ _ TB => ok_law T (TB (cc13, PP13) (by simp)) (TB (cc15, PP15) (by simp)) (TB (cc16, PP16) (by simp))⟩
  · intro p hp
    simp only [List.mem_cons, List.not_mem_nil, or_false] at hp
    rcases hp with rfl | rfl | rfl
    · exact t13.1
    · exact t15.1
    · exact t16.1
  · intro p hp
    simp only [List.mem_cons, List.not_mem_nil, or_false] at hp
    rcases hp with rfl | rfl | rfl
    · exact np13
    · exact np15
    · exact np16
  · intro p hp
    simp only [List.mem_cons, List.not_mem_nil, or_false] at hp
    rcases hp with rfl | rfl | rfl
    · exact t13.2
    · exact t15.2
    · exact t16.2
end K02
open PySem PySem.W PyProof.Rows
set_option maxHeartbeats 0 in
theorem PySem.Challenge.cw_laterivals_k02_texts_of_types_holds : PySem.Challenge.rw_laterivals_k02_texts_of_types.Holds := by
  w_on; o_law; k_head; (case hw => w_witness2)
  k_fill
  refine Lv.walkGT (l := PySem.Challenge.rw_laterivals_k02_texts_of_types) (n := 63) (k := 10) (x := "_law_script") (sp := K02.spLaw) rfl (by decide) rfl ⟨rfl, by decide, by decide⟩ (fun w h Y => PySem.W.km_in_of Y) ?F K02.law_sp
  case F =>
    intro w mg fa h KX G hmg tab
    refine' K02.all_mk KX G tab hmg ?a0 ?l0 ?c0 ?k0 ?a1 ?l1 ?c1 ?k1 ?a2 ?l2 ?c2 ?k2 ?a3 ?l3 ?c3 ?k3 ?a4 ?l4 ?c4 ?k4 ?a5 ?l5 ?c5 ?k5 ?a6 ?l6 ?c6 ?k6 ?a7 ?l7 ?c7 ?k7 ?a8 ?l8 ?c8 ?k8 ?a9 ?l9 ?c9 ?k9 ?a10 ?l10 ?c10 ?k10 ?a11 ?l11 ?c11 ?k11 ?a12 ?l12 ?c12 ?k12 ?a13 ?l13 ?c13 ?k13 ?a14 ?l14 ?c14 ?k14 ?a15 ?l15 ?c15 ?k15 ?a16 ?l16 ?c16 ?k16 ?e_MAX_DEPTH ?e_MAX_LETTERS ?e_KEYWORDS ?w_KEYWORDS ?z_abs ?z_all ?z_int ?z_isinstance ?z_len ?z_list ?z_max ?z_min ?z_range ?z_repr ?z_str ?z_tuple ?cd13_ ?lc13 ?pv13 ?np13 ?rc13 ?cd15_ ?lc15 ?pv15 ?np15 ?rc15 ?cd16_ ?lc16 ?pv16 ?np16 ?rc16 ?rn13_15 ?rn13_16 ?rn15_16 ?e_RivalError ?e_InvalidWord ?e_ParseError ?ex_InvalidWord ?kp_InvalidWord ?sb_InvalidWord ?ty_InvalidWord ?hg_InvalidWord ?hk_InvalidWord ?hd_InvalidWord ?ha_InvalidWord ?hn_InvalidWord ?ht_InvalidWord ?hm_InvalidWord ?ycl_ParseError ?yve_ParseError ?ysa_ParseError ?yga_ParseError ?ygg_ParseError ?yno_ParseError ?yic_ParseError ?ytc_ParseError ?ykc_ParseError ?yex_ParseError ?yvc_ParseError ?yty_ParseError ?yhd_ParseError ?ysu_ParseError ?yop_ParseError ?yms_ParseError ?yns_ParseError ?yto_ParseError ?yfn_ParseError ?yci_ParseError ?yce_ParseError ?yco_ParseError ?yvs_ParseError ?yfi_ParseError ?zt_InvalidWord ?su_InvalidWord_InvalidWord ?zb_InvalidWord ?zd_InvalidWord ?zt_ParseError ?su_InvalidWord_ParseError ?zb_ParseError ?zd_ParseError ?su_ParseError_InvalidWord ?su_ParseError_ParseError ?zt_RivalError ?su_ParseError_RivalError ?ic_RivalError ?rq_ParseError_RivalError
    (case a0 => k_is)
    (case l0 => k_is)
    (case c0 => k_is)
    (case k0 => k_is)
    (case a1 => k_is)
    (case l1 => k_is)
    (case c1 => k_is)
    (case k1 => k_is)
    (case a2 => k_is)
    (case l2 => k_is)
    (case c2 => k_is)
    (case k2 => k_is)
    (case a3 => k_is)
    (case l3 => k_is)
    (case c3 => k_is)
    (case k3 => k_is)
    (case a4 => k_is)
    (case l4 => k_is)
    (case c4 => k_is)
    (case k4 => k_is)
    (case a5 => k_is)
    (case l5 => k_is)
    (case c5 => k_is)
    (case k5 => k_is)
    (case a6 => k_is)
    (case l6 => k_is)
    (case c6 => k_is)
    (case k6 => k_is)
    (case a7 => k_is)
    (case l7 => k_is)
    (case c7 => k_is)
    (case k7 => k_is)
    (case a8 => k_is)
    (case l8 => k_is)
    (case c8 => k_is)
    (case k8 => k_is)
    (case a9 => k_is)
    (case l9 => k_is)
    (case c9 => k_is)
    (case k9 => k_is)
    (case a10 => k_is)
    (case l10 => k_is)
    (case c10 => k_is)
    (case k10 => k_is)
    (case a11 => k_is)
    (case l11 => k_is)
    (case c11 => k_is)
    (case k11 => k_is)
    (case a12 => k_is)
    (case l12 => k_is)
    (case c12 => k_is)
    (case k12 => k_is)
    (case a13 => k_is)
    (case l13 => k_is)
    (case c13 => k_is)
    (case k13 => k_is)
    (case a14 => k_is)
    (case l14 => k_is)
    (case c14 => k_is)
    (case k14 => k_is)
    (case a15 => k_is)
    (case l15 => k_is)
    (case c15 => k_is)
    (case k15 => k_is)
    (case a16 => k_is)
    (case l16 => k_is)
    (case c16 => k_is)
    (case k16 => k_is)
    (case e_MAX_DEPTH => k_is)
    (case e_MAX_LETTERS => k_is)
    (case e_KEYWORDS => k_is)
    (case w_KEYWORDS => k_is)
    (case z_abs => k_is)
    (case z_all => k_is)
    (case z_int => k_is)
    (case z_isinstance => k_is)
    (case z_len => k_is)
    (case z_list => k_is)
    (case z_max => k_is)
    (case z_min => k_is)
    (case z_range => k_is)
    (case z_repr => k_is)
    (case z_str => k_is)
    (case z_tuple => k_is)
    (case cd13_ => rfl)
    (case lc13 => k_is)
    (case pv13 => rfl)
    (case np13 => first | k_is | rfl)
    (case rc13 => rfl)
    (case cd15_ => rfl)
    (case lc15 => k_is)
    (case pv15 => rfl)
    (case np15 => first | k_is | rfl)
    (case rc15 => rfl)
    (case cd16_ => rfl)
    (case lc16 => k_is)
    (case pv16 => rfl)
    (case np16 => first | k_is | rfl)
    (case rc16 => rfl)
    (case rn13_15 => decide)
    (case rn13_16 => decide)
    (case rn15_16 => decide)
    (case e_RivalError => k_is)
    (case e_InvalidWord => k_is)
    (case e_ParseError => k_is)
    (case ex_InvalidWord => k_exc)
    (case kp_InvalidWord => k_is)
    (case sb_InvalidWord => k_is)
    (case ty_InvalidWord => k_is)
    (case hg_InvalidWord => k_is)
    (case hk_InvalidWord => k_is)
    (case hd_InvalidWord => k_is)
    (case ha_InvalidWord => k_is)
    (case hn_InvalidWord => k_is)
    (case ht_InvalidWord => k_is)
    (case hm_InvalidWord => k_is)
    (case ycl_ParseError => k_is)
    (case yve_ParseError => decide +kernel)
    (case ysa_ParseError => k_is)
    (case yga_ParseError => k_is)
    (case ygg_ParseError => k_is)
    (case yno_ParseError => k_is)
    (case yic_ParseError => k_is)
    (case ytc_ParseError => k_is)
    (case ykc_ParseError => k_is)
    (case yex_ParseError => k_is)
    (case yvc_ParseError => k_is)
    (case yty_ParseError => k_is)
    (case yhd_ParseError => k_is)
    (case ysu_ParseError => ks_is)
    (case yop_ParseError => k_is)
    (case yms_ParseError => k_is)
    (case yns_ParseError => k_is)
    (case yto_ParseError => decide +kernel)
    (case yfn_ParseError => k_is)
    (case yci_ParseError => k_is)
    (case yce_ParseError => k_is)
    (case yco_ParseError => k_is)
    (case yvs_ParseError => rfl)
    (case yfi_ParseError => rfl)
    (case zt_InvalidWord => k_is)
    (case su_InvalidWord_InvalidWord => k_is)
    (case zb_InvalidWord => k_is)
    (case zd_InvalidWord => k_is)
    (case zt_ParseError => k_is)
    (case su_InvalidWord_ParseError => k_is)
    (case zb_ParseError => k_is)
    (case zd_ParseError => k_is)
    (case su_ParseError_InvalidWord => k_is)
    (case su_ParseError_ParseError => k_is)
    (case zt_RivalError => k_is)
    (case su_ParseError_RivalError => k_is)
    (case ic_RivalError => k_is)
    (case rq_ParseError_RivalError => rfl)

