import PyProof.Rows.All
import Wide.All
import OpenK.AllK
import Wide.FinOn
import HandS.ForMost
import HandS.IsInst
import HandS.TupMul
import HandS.TupAny
import HandS.Wide
import PyProof.ReprRoads
import HandS.Evl
import HandS.Walk
import PyProof.ReprLen
import PySem.Challenge.RW_laterivals_k01_integers_names_types_and
set_option Elab.async false
set_option linter.all false
set_option maxRecDepth 100000
set_option maxHeartbeats 2000000
/-! calls where no repr is under way: a def's promise that may lean on it -/
namespace Lv
open PySem PySem.Spec PyProof.Rows L2

/-- as FnOk, for arounds in which no guarded call runs -/
structure FnG (P : Program) (w : World) (K : PySem.W.Frag) (mg : Str → Option Value) (base : Heap)
    (CX : CXT) (k : Nat) (f : Addr) (fd : FuncData) (ps : List Str) (sp : Sp) : Prop where
  len : ∀ vs H Q E, sp vs H Q E → vs.length = ps.length
  run : ∀ (A : Around), A.guards = some [] → ∀ (outer : List Env) (s : Shared) (H : Hp) (args : Args)
    (us : List Value) (vs : List V) (Q : VK) (E : XK), Room k A → Env0 P w K mg base A outer s H →
    BindsTo s fd args (ps.zip us) → Vals vs us → sp vs H Q E →
    codeAny (model P w) A (.call (.ref f) args) (CR CX outer P w H s Q E) s

theorem FnG.of {P : Program} {w : World} {K : PySem.W.Frag} {mg : Str → Option Value} {base : Heap}
    {CX : CXT} {k : Nat} {f : Addr} {fd : FuncData} {ps : List Str} {sp : Sp}
    (F : FnOk P w K mg base CX k f fd ps sp) : FnG P w K mg base CX k f fd ps sp :=
  ⟨F.len, fun A _ outer s H args us vs Q E hr he hb hv h => F.run A outer s H args us vs Q E hr he hb hv h⟩

section
variable {X : Cx} {CX : CXT} {k : Nat} {f : Addr} {fd : FuncData} {ps : List Str} {sp : Sp}
  {dvs : List V} {ds : List Value} {E : XK} {x : Str} {p pos : Pos} {e : Expr} {es : List Expr} {t : TA}

theorem pe_callG (F : FnG X.prog X.w X.K X.mg X.base CX k f fd ps sp) (hgd : X.A.guards = some [])
    (hr : Room k X.A) (hg : Gl X x) (hm : X.mg x = some (.ref f))
    (hk : PySem.W.keepIn X.K (.ref f) = true) (hb : Binds X.K fd ps ds) (hd : Vals dvs ds)
    (hx : Passes CX X E) (ha : PA X (e :: es) t) (hdb : (x == ("__debug__" : Str)) = false := by decide)
    (he : starEach (e :: es) X.env = (false, eval e X.env) :: starEach es X.env := by rfl)
    (hpl : (backTo pos (starEach es X.env)).any (·.1) = false := by rfl) :
    PE X (.Call (.Name x p) (e :: es) [] pos) (tCall sp dvs E t) := by
  constructor
  intro pins s σ H Q I h
  refine wpAny_Call_Name_kw (ld_glob I hg hm ?_ hdb)
  refine PySem.W.callWith_K (h₀ := X.base) I.ok.mod.kin hk (thn (ha.run pos pins s σ H _ I h) ?_) he hpl
  rintro us s1 ⟨vs, H1, I1, r, q⟩
  refine ⟨I1.kIn, ?_⟩
  have r2 : Vals (vs ++ dvs) (us ++ ds) := r.append hd
  have hl : (us ++ ds).length = ps.length := by
    rw [← r2.length]
    exact F.len _ _ _ _ q
  have run := F.run X.A hgd X.stack s1 H1 ⟨us, []⟩ (us ++ ds) (vs ++ dvs) Q E hr I1.env0 (hb s1 us I1.kIn hl) r2 q
  refine wpAny_call (codeAny_mono run ?_)
  rintro (er | (_ | _ | _ | u)) s' hq
  all_goals first
    | exact hx pins σ H1 s1 _ s' I1 hq
    | exact I1.after hq
    | exact False.elim hq
end

section
variable {P : Program} {w : World} {K : PySem.W.Frag} {mg : Str → Option Value} {base : Heap}
/-- a def by its body, where no guarded call runs -/
theorem okG {x qual : Str} {st : Stmt} {f : Addr} {fd : FuncData} {N ps : List Str} {k : Nat} {sp : Sp}
    (F : Fun K x qual st f fd) (S : FnScope N ps (defScope st))
    (len : ∀ vs H Q E, sp vs H Q E → vs.length = ps.length)
    (hbody : ∀ (cdv : Value) (A : Around) (outer : List Env) (s : Shared) (H : Hp) (vs : List V) (Q : VK) (E : XK),
      (A.deeper (envOfC qual (defScope st) s.heap.objs.size f cdv)).guards = some [] →
      Room k (A.deeper (envOfC qual (defScope st) s.heap.objs.size f cdv)) → sp vs H Q E →
      ∃ t, PSs (cxOf CX0 P w K mg base N qual (defScope st) f cdv A outer s H E).nox (defBody st) t ∧
        t { nx := fun _ H' => Q .non H', rt := Q } (start N vs) H) :
    FnG P w K mg base CX0 (k + 1) f fd ps sp := by
  obtain ⟨oc, od, kV, doc, pm, an, cdv, ct, osl, rfl, lk, hcd⟩ := F.ex
  refine ⟨len, fun A hgd outer s H args us vs Q E hr e0 hb hv hsp => ?_⟩
  have kept := fun b o (z : base.get? b = some o) => (e0.bs b o z).1
  have hK : K.In s.heap := e0.mod.kin.keeps kept
  have hL : s.heap.NoLimit := e0.mod.nolimit.keeps kept
  refine codeAny_call_function hr.depth (hK _ _ lk) rfl S.co S.gen rfl (PySem.W.codeRec_of hK hcd)
    (hb _ _ _ _ ?_)
  have kinds : ∀ y ∈ ps.zip us, (defScope st).names.lookup y.1 = some .local ∨
      ((defScope st).names.lookup y.1 = some .cell ∧
        ((cellsFrom (s.heap.objs.size + 1) (defScope st).names []).lookup y.1).isSome = true) := by
    rintro ⟨n, v⟩ hy
    rcases S.par n (List.of_mem_zip hy).1 with z | z
    · exact .inl z
    · exact .inr ⟨z, PySem.W.cellsFrom_some _ _ _ (.inl z)⟩
  refine wpAny_newFunctionEnv_cells S.kind kinds ?_
  rintro env rfl s1 x
  refine ⟨hL.keeps x.toInCall.keep, codeAny_func ?_⟩
  obtain ⟨t, ht, hq⟩ := hbody cdv A outer s H vs Q E hgd (hr.deeper _) hsp
  have I := inv_start (CX := CX0) (E := E) S hr.hd e0 (len _ _ _ _ hsp) hv x
  refine wpAny_mono (ht.nox.run [] s1 (start N vs) H _ I hq) ?_ (fun e s' z => z)
  rintro (_ | _ | _ | u) s' hs
  · obtain ⟨σ', H', J, q⟩ := hs
    exact ⟨V.non, H', J.os, J.bare, J.base, J.hok, (rfl : RelV V.non Value.none), q⟩
  · obtain ⟨_, _, _, q⟩ := hs
    exact False.elim q
  · obtain ⟨_, _, _, q⟩ := hs
    exact False.elim q
  · obtain ⟨v, σ', H', J, rv, q⟩ := hs
    exact ⟨v, H', J.os, J.bare, J.base, J.hok, rv, q⟩
end
/-- the law's call from its promise, at the heap behind the top -/
theorem lawG {P : Program} {w : World} {K : PySem.W.Frag} {mg mb : Str → Option Value} {k : Nat} {fa a : Addr}
    {fd : FuncData} {x : Str} {sp : Sp} {s₁ : Shared} {vs : List Value} {ns : List Int}
    (hK : K.In s₁.heap) (hG : s₁.heap.Ns mainGlobals mg) (hB : s₁.heap.Ns builtinsNs mb)
    (hB2 : ∀ x : Str, x ≠ "__name__" → mb x = bootBuiltins x) (hL : s₁.heap.NoLimit) (hg : s₁.gens = #[])
    (ha : s₁.heap.get? a = some { cls := .type "list", data := .seq vs.toArray }) (hi : IntsAre vs ns)
    (hl : ns.length ≤ sizeLine) (hr : Room k callerA)
    (F : ∀ base : Heap, K.In base → base.Ns mainGlobals mg → FnG P w K mg base CX0 k fa fd [x] sp)
    (hbind : ∀ (s : Shared) (u : Value), BindsTo s fd ⟨[u], []⟩ [(x, u)])
    (hsp : ∀ H : Hp, Only H → SqL K H a (ns.map V.int) → sp [.ref a] H (fun v _ => v = .bl true) E0) :
    codeAny (model P w) callerA (.call (.ref fa) ⟨[.ref a], []⟩)
      (fun r s' => r = .ok (.ret (.bool true)) ∧ OldK s₁.heap s'.heap ∧ s'.os = s₁.os ∧ AllBare s'.gens) s₁ := by
  have rv := vals_ints hi
  have lenV := hi.length
  have key : ∀ H : Hp, Only H → SqL K H a (ns.map V.int) → HOk P w H s₁.heap →
      (∀ b, H b ≠ none → b = a ∧ K.lookup b = none) →
      codeAny (model P w) callerA (.call (.ref fa) ⟨[.ref a], []⟩)
        (fun r s' => r = .ok (.ret (.bool true)) ∧ OldK s₁.heap s'.heap ∧ s'.os = s₁.os ∧ AllBare s'.gens) s₁ := by
    intro H hO hS hok hA
    have free : ∀ {b : Addr}, (b = a ∧ K.lookup b = none → False) → H b = none := by
      intro b hb
      cases q : H b with
      | none => rfl
      | some u => exact (hb (hA b (by rw [q]; exact fun z => nomatch z))).elim
    have ns2 : ∀ {b : Addr} {m : Str → Option Value}, s₁.heap.Ns b m → (hidT s₁.heap H).Ns b m := by
      rintro b m ⟨o, es, ep, e, d, r⟩
      refine ⟨o, es, ep, hidT_get e (free ?_), d, r⟩
      rintro ⟨rfl, -⟩
      rw [ha] at e
      cases e
      exact nomatch d
    have hKb : K.In (hidT s₁.heap H) := by
      intro b o e
      refine hidT_get (hK b o e) (free ?_)
      rintro ⟨-, z⟩
      rw [e] at z
      cases z
    have hM : Mod K mg (hidT s₁.heap H) := by
      refine ⟨hKb, ns2 hG, ⟨mb, ns2 hB, hB2⟩, ?_⟩
      obtain ⟨mc, h1, h2⟩ := hL
      exact ⟨mc, ns2 h1, h2⟩
    have e0 : Env0 P w K mg (hidT s₁.heap H) callerA [] s₁ H := by
      refine ⟨rfl, hM, fun b o e => of_hidT e, Nat.le_of_eq (hidT_size _ _), trivial, ?_, hok, .of_eq hg⟩
      intro b hb
      exact absurd (show b ∈ ([] : List Addr) from hb) (by simp)
    have run := (F _ hKb (ns2 hG)).run callerA rfl [] s₁ H ⟨[.ref a], []⟩ [.ref a] [.ref a] _ _ hr e0
      (hbind s₁ (.ref a)) (.cons rfl .nil) (hsp H hO hS)
    refine codeAny_mono run ?_
    rintro (er | (_ | _ | _ | u)) s' h
    · exact False.elim h
    · exact False.elim h
    · exact False.elim h
    · exact False.elim h
    · obtain ⟨v, H', os, bare, un, hok', r', q⟩ := h
      obtain rfl : v = V.bl true := q
      obtain rfl : u = Value.bool true := r'
      refine ⟨rfl, OldK.of_keep ?_, os, bare⟩
      intro b o e
      cases q : H b with
      | none => exact un.keep b o e q (fun z => absurd (show b ∈ ([] : List Addr) from z) (by simp)) (by simp)
      | some u =>
        rcases hO b with z | ⟨ob, xs, z⟩
        · rw [q] at z
          cases z
        · obtain ⟨e1, _⟩ := hok b _ z
          obtain ⟨e2, _⟩ := hok' b _ (un.frzs b ob _ z)
          rw [e] at e1
          cases e1
          exact e2
  cases hk : K.lookup a with
  | some o =>
    have e := hK a o hk
    rw [ha] at e
    cases e
    refine key (fun _ => none) (fun _ => .inl rfl) (.inr ?_) ?_ (fun b z => absurd rfl z)
    · exact ⟨_, vs.toArray, _, hk, rfl, rfl, rfl, by rw [List.size_toArray, lenV]; exact hl, by simpa using rv⟩
    · intro b u z
      exact nomatch (show (none : Option HO) = some u from z)
  | none =>
    let o₁ : Obj := { cls := .type "list", data := .seq vs.toArray }
    have up : ∀ b, upd (fun _ => none) a (.frz o₁ (.lst (ns.map V.int))) b ≠ none → b = a := by
      intro b z
      by_cases hb : b = a
      · exact hb
      · rw [upd_ne hb] at z
        exact absurd rfl z
    refine key (upd (fun _ => none) a (.frz o₁ (.lst (ns.map V.int)))) ?_ (.inl (.inr ⟨o₁, upd_same⟩)) ?_ ?_
    · intro b
      by_cases hb : b = a
      · subst hb
        exact .inr ⟨_, _, upd_same⟩
      · exact .inl (upd_ne hb)
    · intro b u z
      have hb : b = a := up b (by rw [z]; exact fun z => nomatch z)
      subst hb
      rw [upd_same] at z
      cases z
      exact ⟨ha, by rw [List.length_map]; exact hl, vs, _, rv, ha⟩
    · intro b z
      have hb := up b z
      subst hb
      exact ⟨rfl, hk⟩
theorem walkG {l : PySem.W.OpenLaw} {n k : Nat} {q : Program} {loose : List Str}
    {XP : (Str → Option Value) → Heap → Prop} {YP : World → Heap → Prop} {d : DefRec}
    {K : Params → PySem.W.Frag} {sp : PySem.W.Frag → Sp} {x : Str}
    (hn : l.most = some n) (hn2 : n ≤ sizeLine) (hdf : d.params.defaults = []) (hr : Room k callerA)
    (hY : ∀ (w : World) (h : Heap), YP w h → (K w.params).In h)
    (F : ∀ (w : World) (mg : Str → Option Value) (fa : Addr) (h : Heap), (K w.params).In h →
      h.Ns mainGlobals mg → mg d.name = some (.ref fa) →
      ∃ fd : FuncData, (∀ (s : Shared) (u : Value), BindsTo s fd ⟨[u], []⟩ [(x, u)]) ∧
        ∀ base : Heap, (K w.params).In base → base.Ns mainGlobals mg →
          FnG l.prog w (K w.params) mg base CX0 k fa fd [x] (sp (K w.params)))
    (hsp : ∀ (K : PySem.W.Frag) (H : Hp) (a : Addr) (ns : List Int), ns.length ≤ n → Only H →
      SqL K H a (ns.map V.int) → sp K [.ref a] H (fun v _ => v = .bl true) E0) :
    PySem.W.WalkO q loose XP YP l.row.toRowW d [] (fun f vs => PySem.call f vs) := by
  refine Att.attach_call hn hdf ?_
  intro w s₀ s₁ mg mb fa o pm cd doc a vs ns G Y ho hd hcd hmg hobj hints hlen hg
  obtain ⟨fd, hb, hF⟩ := F w mg fa _ (hY w _ Y) G.T.g hmg
  exact lawG (hY w _ Y) G.T.g G.T.b G.T.builtins G.T.nolimit hg hobj hints (Nat.le_trans hlen hn2) hr hF hb
    (fun H hO hS => hsp _ H a ns hlen hO hS)
section
variable {X : Cx}
/-- repr of data that is told by its values -/
theorem call_reprD (hgd : X.A.guards = some []) (hu : X.A.units + 64 < cLine) :
    CallR X (.builtin "repr") (fun xs H Q => ∃ (v : V) (d : PyData), xs = [v] ∧ Dp X.K H v d ∧
      isDisplay d = true ∧ d.showable = true ∧ d.hasDict = false ∧ d.depth ≤ 60 ∧ d.shown.length ≤ sizeLine ∧
      Q (.str d.shown) H) := by
  intro pins s σ H xs us Q I r h
  obtain ⟨v, d, rfl, hd, hi, hs, hn, hp, hz, q⟩ := h
  obtain ⟨u, rfl, rx⟩ := vals1 r
  obtain ⟨as, rd⟩ := Dp.reads I d v u hd rx
  obtain ⟨a, rfl⟩ := isRef_of_reads rd hi
  refine repr_of_reads' rd hs (PyData.noDict_hsm hn) hgd (by omega) (fun _ _ e => e) ?_ hz
  intro h' u tk hk
  exact ⟨.str d.shown, H, I.kept hk, ⟨u, rfl⟩, q⟩
end
end Lv

/-! further rules and what is said of heaps -/
namespace Lv
open PySem PySem.Spec PyProof.Rows L2
section
variable {X : Cx}
/-- powers of great numbers -/
def CPowW (i j : Int) : Prop := 0 ≤ j ∧ (Builtin.Int.intBits i : Int) * j ≤ 2 ^ 27
theorem op_powW : OpR X (binaryOp .Pow) (rI CPowW fun i j => .int (i ^ j.toNat)) :=
  opI fun _ _ _ _ _ _ _ hc q => pow_int hc.1 hc.2 q
theorem bits_le {i : Int} {n : Nat} (h : i.natAbs < 2 ^ n) (h0 : 0 < n) : (Builtin.Int.intBits i : Int) ≤ n := by
  have := PySem.Flt.log2_lt_of h0 h
  unfold Builtin.Int.intBits
  split <;> omega
theorem vals_get : ∀ {xs : List V} {us : List Value}, xs.length = us.length →
    (∀ (j : Nat) (u : Value), us[j]? = some u → ∃ x, xs[j]? = some x ∧ RelV x u) → Vals xs us
  | [], [], _, _ => .nil
  | [], _ :: _, h, _ => nomatch h
  | _ :: _, [], h, _ => nomatch h
  | x :: xs, u :: us, h, g => by
    obtain ⟨y, hy, r⟩ := g 0 u rfl
    cases hy
    refine .cons r (vals_get (Nat.succ.inj h) fun j v hv => ?_)
    exact g (j + 1) v hv
/-- the signs of a text as texts -/
def sgs (z : Str) : List V := z.cps.toList.map fun c => V.str ⟨#[c]⟩
/-- list(text) -/
theorem call_listS (hc : X.calm = true) : CallR X (.type "list") (fun xs H Q => ∃ z : Str, xs = [.str z] ∧
    z.length ≤ sizeLine ∧ ∀ l, H l = none → Q (.ref l) (upd H l (.lst (sgs z)))) := by
  intro pins s σ H xs us Q I r h
  obtain ⟨z, rfl, hz, q⟩ := h
  obtain ⟨u, rfl, t, rfl⟩ := vals1 r
  refine PySem.call_list_str (I.ok.hd hc) z t (fun h' tk acc c kp ho hit => ?_) hz
  obtain ⟨acc⟩ := acc
  refine ⟨.ref s.heap.objs.size, _, I.laid (t' := tk) kp (Nat.le_refl _)
    (show ObjOk X.prog X.w _ h' _ (.lst (sgs z)) from ⟨?_, acc, c, ?_, ho⟩), rfl, q _ (I.hok.fresh (Nat.le_refl _))⟩
  · unfold sgs
    rw [List.length_map]
    exact hz
  · refine vals_get ?_ ?_
    · unfold sgs
      have := hit.1
      simp at this ⊢
      exact this.symm
    · intro j v hv
      obtain ⟨c, u, hc, rfl⟩ := hit.2 j v (by simpa using hv)
      refine ⟨.str ⟨#[c]⟩, ?_, u, rfl⟩
      unfold sgs
      rw [List.getElem?_map, Array.getElem?_toList, hc]
      rfl
end
section
variable {X : Cx}
theorem call_intI : CallR X (.type "int") (fun xs H Q => ∃ i, xs = [.int i] ∧ Q (.int i) H) :=
  fun pins s σ H xs us Q I r h => call_int1 pins s σ H xs us Q I r (.inl h)
theorem call_intB : CallR X (.type "int") (fun xs H Q => ∃ k, xs = [.bl k] ∧ Q (.int (if k then 1 else 0)) H) :=
  fun pins s σ H xs us Q I r h => call_int1 pins s σ H xs us Q I r (.inr h)
end
section
variable {X : Cx}
/-- tuple(list) -/
def rTupL (K : PySem.W.Frag) : List V → Hp → VK → Prop := fun xs H Q => ∃ p ys, xs = [.ref p] ∧ SqL K H p ys ∧ ∀ l, H l = none → Q (.ref l) (upd H l (.tup ys))
theorem call_tupL : CallR X (.type "tuple") (rTupL X.K) := fun pins s σ H xs us Q I r h => by
  obtain ⟨p, ys, e, h1, h2⟩ := h
  exact call_tuple_of pins s σ H xs us Q I r ⟨p, ys, e, .inl ⟨h1, h2⟩⟩
/-- len of a list or a tuple -/
def rLenQ (K : PySem.W.Frag) : List V → Hp → VK → Prop := fun xs H Q => ∃ p ys, xs = [.ref p] ∧ (SqL K H p ys ∨ SqT K H p ys) ∧ Q (.int ys.length) H
theorem call_lenQ : CallR X (.builtin "len") (rLenQ X.K) := call_len_seq
/-- sep.join(list) -/
def rJoin (K : PySem.W.Frag) : V → List V → Hp → VK → Prop := fun x xs H Q => ∃ a p, ∃ ys : List Str, x = .str a ∧ xs = [.ref p] ∧ (SqL K H p (ys.map V.str) ∨ SqT K H p (ys.map V.str)) ∧
  (ys.map (·.length)).sum + ys.length * a.length ≤ 16777216 ∧ Q (.str (Txt.join a ys)) H
theorem pe_joinN {o e : Expr} {to te : TE} {apos pos : Pos} (ho : PE X o to) (he : PE X e te) (hs : starEach [e] X.env = [(false, eval e X.env)] := by rfl)
    (hbase : attributeBase o "join" X.env (eval o X.env) = eval o X.env := by rfl) (hline : (apos.endLine == pos.line) = true := by rfl) :
    PE X (.Call (.Attribute o "join" apos) [e] [] pos) (tM1 (rJoin X.K) to te) := pe_join ho he hs hbase hline
/-- dict(list of pairs) -/
def rDictPs (K : PySem.W.Frag) : List V → Hp → VK → Prop := fun xs H Q => ∃ (a : Addr) (ps : List Addr) (kvs : List (Key × V)), xs = [.ref a] ∧ SqL K H a (ps.map V.ref) ∧
  Paired (fun p kv => SqT K H p [kV kv.1, kv.2]) ps kvs ∧ ∀ p, H p = none → Q (.ref p) (upd H p (.dK (mergeK [] kvs)))
theorem call_dictPs (hc : X.calm = true) : CallR X (.type "dict") (rDictPs X.K) := call_dictP hc
end
theorem tupL {K : PySem.W.Frag} {H : Hp} {a : Addr} {xs : List V} {Q : VK} (h : SqL K H a xs) (q : ∀ p, H p = none → Q (.ref p) (upd H p (.tup xs))) : rTupL K [.ref a] H Q := ⟨a, xs, rfl, h, q⟩
theorem lenL {K : PySem.W.Frag} {H : Hp} {a : Addr} {xs : List V} {Q : VK} (h : SqL K H a xs) (q : Q (.int xs.length) H) : rLenQ K [.ref a] H Q := ⟨a, xs, rfl, .inl h, q⟩
theorem lenT {K : PySem.W.Frag} {H : Hp} {a : Addr} {xs : List V} {Q : VK} (h : SqT K H a xs) (q : Q (.int xs.length) H) : rLenQ K [.ref a] H Q := ⟨a, xs, rfl, .inr h, q⟩
theorem joinL' {K : PySem.W.Frag} {H : Hp} {a : Addr} {s : Str} {ys : List Str} {Q : VK} (h : SqL K H a (ys.map V.str)) (hl : (ys.map (·.length)).sum + ys.length * s.length ≤ 16777216)
    (q : Q (.str (Txt.join s ys)) H) : rJoin K (.str s) [.ref a] H Q := ⟨s, a, ys, rfl, rfl, .inl h, hl, q⟩
theorem tyl {K : PySem.W.Frag} {H : Hp} {a : Addr} {xs : List V} (h : SqL K H a xs) : tyV K "list" (.ref a) H := .inl ⟨rfl, xs, h⟩
theorem sql_of {K : PySem.W.Frag} {H : Hp} {a : Addr} {xs : List V} (h : H a = some (.lst xs)) : SqL K H a xs := .inl (.inl h)
theorem sqt_of {K : PySem.W.Frag} {H : Hp} {a : Addr} {xs : List V} (h : H a = some (.tup xs)) : SqT K H a xs := .inl (.inl h)
theorem sz100 {n : Nat} (h : n ≤ 100000) : n ≤ sizeLine := Nat.le_trans h (by decide)
theorem sz100' {n : Nat} (h : n < 100000) : n < sizeLine := Nat.lt_of_lt_of_le h (by decide)
theorem ixl {K : PySem.W.Frag} {H : Hp} {a : Addr} {xs : List V} {i : Int} {v : V} {Q : VK} (h : SqL K H a xs) (e : atI xs i = some v) (q : Q v H) :
    rIxL K (.ref a) (.int i) H Q := ⟨a, xs, i, v, rfl, rfl, h, e, q⟩
theorem setl {H : Hp} {a : Addr} {xs : List V} {i : Int} {j : Nat} {v : V} {Q : Hp → Prop} (h : H a = some (.lst xs)) (e : ixN xs.length i = some j)
    (q : Q (upd H a (.lst (xs.set j v)))) : rSetL (.ref a) (.int i) v H Q := ⟨a, xs, i, j, rfl, rfl, h, e, q⟩
theorem ixl_nat {K : PySem.W.Frag} {H : Hp} {a : Addr} {xs : List V} {j : Nat} {v : V} {Q : VK} (h : SqL K H a xs) (e : xs[j]? = some v) (q : Q v H) :
    rIxL K (.ref a) (.int j) H Q := ⟨a, xs, j, v, rfl, rfl, h, atI_nat e, q⟩
/-- of which built-in kind a value is; objects are tracked ones -/
inductive Kn (H : Hp) : V → String → Prop where
  | non : Kn H .non "NoneType"
  | bl (b : Bool) : Kn H (.bl b) "bool"
  | int (i : Int) : Kn H (.int i) "int"
  | str (z : Str) : Kn H (.str z) "str"
  | lst {a : Addr} {xs : List V} (h : H a = some (.lst xs)) : Kn H (.ref a) "list"
  | tup {a : Addr} {xs : List V} (h : H a = some (.tup xs)) : Kn H (.ref a) "tuple"
  | dK {a : Addr} {kvs : List (Key × V)} (h : H a = some (.dK kvs)) : Kn H (.ref a) "dict"
theorem Kn.ty {K : PySem.W.Frag} {H : Hp} {v : V} {t : String} (k : Kn H v t) : TyX K H v (.type t) := by
  cases k with
  | non => exact .base .non
  | bl b => exact .base (.bl b)
  | int i => exact .base (.int i)
  | str z => exact .base (.str z)
  | lst h => exact .base (.lst h)
  | tup h => exact .base (.tup h)
  | dK h => exact .base (.dK h)
theorem Kn.same {H H' : Hp} {v : V} {t : String} (e : Same H H') (k : Kn H v t) : Kn H' v t := by
  cases k with
  | non => exact .non
  | bl b => exact .bl b
  | int i => exact .int i
  | str z => exact .str z
  | lst h => exact .lst (e _ _ h)
  | tup h => exact .tup (e _ _ h)
  | dK h => exact .dK (e _ _ h)
/-- isinstance of such a value -/
theorem isi_kn {K : PySem.W.Frag} {H : Hp} {v : V} {t n : String} {b : Bool} {Q : VK} (k : Kn H v t)
    (hb : kitB t n = some b) (q : Q (.bl b) H) : rIsi K [v, .ty n] H Q :=
  ⟨v, .ty n, .type t, .type n, b, rfl, .ty n, k.ty, kit_ty hb, q⟩
theorem kit_bool : ∀ t ∈ ["NoneType", "int", "str", "list", "tuple", "dict"], kitB t "bool" = some false := by decide +kernel
theorem kit_int : ∀ t ∈ ["NoneType", "str", "list", "tuple", "dict"], kitB t "int" = some false := by decide +kernel
theorem kit_str : ∀ t ∈ ["NoneType", "bool", "int", "list", "tuple", "dict"], kitB t "str" = some false := by decide +kernel
theorem kit_tup : ∀ t ∈ ["NoneType", "bool", "int", "str", "list", "dict"], kitB t "tuple" = some false := by decide +kernel
theorem kit_self : ∀ t ∈ ["NoneType", "bool", "int", "str", "list", "tuple", "dict"], kitB t t = some true := by decide +kernel
theorem Kn.mem {H : Hp} {v : V} {t : String} (k : Kn H v t) : t ∈ ["NoneType", "bool", "int", "str", "list", "tuple", "dict"] := by
  cases k <;> decide
theorem same_new {H : Hp} {p : Addr} {o : HO} (h : H p = none) : Same H (upd H p o) := fun b x e => by
  rw [upd_ne (ne_of_none e h)]
  exact e
theorem same_mut {H H' : Hp} {p : Addr} {o : HO} (e : Same H H') (h : H p = none) : Same H (upd H' p o) := fun b x q => by
  rw [upd_ne (ne_of_none q h)]
  exact e _ _ q
/-! ### dice -/
/-- a list of three ints -/
def Dc (H : Hp) (d : Addr) : Prop := ∃ x y z : Int, H d = some (.lst [.int x, .int y, .int z])
/-- all but the dice is kept, and the dice are dice -/
structure Gr (d : Addr) (H H' : Hp) : Prop where
  pre : Dc H d
  keep : ∀ a o, a ≠ d → H a = some o → H' a = some o
  dice : Dc H' d
theorem Gr.refl {d : Addr} {H : Hp} (h : Dc H d) : Gr d H H := ⟨h, fun _ _ _ h => h, h⟩
theorem Gr.trans {d : Addr} {H H1 H2 : Hp} (a : Gr d H H1) (b : Gr d H1 H2) : Gr d H H2 :=
  ⟨a.pre, fun x o n h => b.keep x o n (a.keep x o n h), b.dice⟩
theorem Gr.roll {d : Addr} {H : Hp} {x y z : Int} (h : Dc H d) : Gr d H (upd H d (.lst [.int x, .int y, .int z])) :=
  ⟨h, fun a o n h => by rw [upd_ne n]; exact h, x, y, z, upd_same⟩
theorem Dc.same {d : Addr} {H H' : Hp} (h : Dc H d) (e : Same H H') : Dc H' d :=
  let ⟨x, y, z, q⟩ := h
  ⟨x, y, z, e _ _ q⟩
theorem Gr.same {d : Addr} {H H' : Hp} (h : Dc H d) (e : Same H H') : Gr d H H' := ⟨h, fun a o _ q => e a o q, h.same e⟩
theorem Dc.ne {d p : Addr} {H : Hp} (h : Dc H d) (n : H p = none) : p ≠ d := fun e => by
  obtain ⟨x, y, z, q⟩ := h
  rw [e, q] at n
  cases n
theorem Dc.ne_tup {d p : Addr} {H : Hp} {xs : List V} (h : Dc H d) (n : H p = some (.tup xs)) : p ≠ d := fun e => by
  obtain ⟨x, y, z, q⟩ := h
  rw [e, q] at n
  cases n
/-- what was free and is not the dice came later -/
theorem Gr.back {d p : Addr} {H H' : Hp} (g : Gr d H H') (h : H' p = none) : H p = none := by
  have ne := g.dice.ne h
  cases q : H p with
  | none => rfl
  | some o =>
    rw [g.keep p o ne q] at h
    cases h
/-- a thing that was not there before changes -/
theorem Gr.mut {d p : Addr} {H H' : Hp} {o : HO} (g : Gr d H H') (h : H p = none) (ne : p ≠ d) : Gr d H (upd H' p o) := by
  refine ⟨g.pre, fun a u n q => ?_, ?_⟩
  · rw [upd_ne (ne_of_none q h)]
    exact g.keep a u n q
  · obtain ⟨x, y, z, q⟩ := g.dice
    exact ⟨x, y, z, by rw [upd_ne ne.symm]; exact q⟩
theorem Gr.new {d p : Addr} {H : Hp} {o : HO} (h : Dc H d) (n : H p = none) : Gr d H (upd H p o) := Gr.same h (same_new n)
theorem Gr.rd {d p : Addr} {H H' : Hp} {u : HO} (g : Gr d H H') (ne : p ≠ d) (h : Rd H p u) : Rd H' p u := by
  rcases h with h | ⟨o, h⟩
  · exact .inl (g.keep _ _ ne h)
  · exact .inr ⟨o, g.keep _ _ ne h⟩
theorem Gr.sql {K : PySem.W.Frag} {d p : Addr} {H H' : Hp} {xs : List V} (g : Gr d H H') (ne : p ≠ d) (h : SqL K H p xs) : SqL K H' p xs := by
  rcases h with h | h
  · exact .inl (g.rd ne h)
  · exact .inr h
theorem Gr.sqt {K : PySem.W.Frag} {d p : Addr} {H H' : Hp} {xs : List V} (g : Gr d H H') (ne : p ≠ d) (h : SqT K H p xs) : SqT K H' p xs := by
  rcases h with h | h
  · exact .inl (g.rd ne h)
  · exact .inr h
theorem Kn.gr {d : Addr} {H H' : Hp} {v : V} {t : String} (g : Gr d H H') (k : Kn H v t) : Kn H' v t := by
  obtain ⟨x, y, z, hd⟩ := g.dice
  obtain ⟨x', y', z', h0⟩ := g.pre
  cases k with
  | non => exact .non
  | bl b => exact .bl b
  | int i => exact .int i
  | str z => exact .str z
  | @lst a xs h =>
    by_cases e : a = d
    · rw [e]
      exact .lst hd
    · exact .lst (g.keep _ _ e h)
  | @tup a xs h =>
    by_cases e : a = d
    · rw [e, h0] at h
      cases h
    · exact .tup (g.keep _ _ e h)
  | @dK a kvs h =>
    by_cases e : a = d
    · rw [e, h0] at h
      cases h
    · exact .dK (g.keep _ _ e h)
end Lv

/-! comprehensions whose elements leave all as it was, and such that roll dice -/
namespace Lv
open PySem PySem.Spec PyProof.Rows L2
section
variable {J : It} {n : Nat} {G : Hp → Prop} {Y : Nat → Hp → V → Hp → Prop} {g : TG} {tt : TT} {te : TE}
  {vs : List Nat} {σ : L2.St} {H1 : Hp} {Q : VK}
/-- the body of a comprehension's reading, behind what it walks -/
def LcB (J : It) (g : TG) (tt : TT) (te : TE) (vs : List Nat) (σ : L2.St) (Q : VK) (H1 : Hp) : Prop :=
  ∀ D, H1 D = none → ∃ W : Nat → Nat → Hp → Prop, (∃ m, W 0 m (upd H1 D (.lst []))) ∧ ∀ i m H, W i m H →
    (J.stop i H ∧ Q (.ref D) H) ∨ (J.go i H ∧ ∃ Nx : Hp → Prop, (∀ H', Nx H' → ∃ m', m' < m ∧ W (i + 1) m' H') ∧
      ∀ x H', J.yld i H x H' → g x (wipe σ vs) H' fun σ2 H2 => wipe σ2 vs = wipe σ vs ∧ tt σ2 H2 fun b H3 =>
        if b = true then te σ2 H3 fun y H4 => ∃ acc, H4 D = some (.lst acc) ∧ acc.length < sizeLine ∧
          Nx (upd H4 D (.lst (acc ++ [y]))) else Nx H3)
theorem tLc_eq {wi : TI} {H : Hp} : tLc wi g tt te vs σ H Q = wi σ H fun J H1 => LcB J g tt te vs σ Q H1 := rfl
/-- each element is f i, and all stays as it was -/
theorem lc_same (w : Walk J n G Y) (f : Nat → V) (hn : n ≤ sizeLine) (hG : ∀ H, Same H1 H → G H)
    (hs : ∀ i x H H', i < n → Same H1 H → Y i H x H' → ∀ R : VK, (∀ H4, Same H H4 → R (f i) H4) →
      g x (wipe σ vs) H' fun σ2 H2 => wipe σ2 vs = wipe σ vs ∧ tt σ2 H2 fun b H3 => b = true ∧ te σ2 H3 R)
    (mono : ∀ (x : V) (σ' : L2.St) (H' : Hp) (A B : L2.St → Hp → Prop), (∀ s h, A s h → B s h) → g x σ' H' A → g x σ' H' B)
    (monoT : ∀ (σ' : L2.St) (H' : Hp) (A B : Bool → Hp → Prop), (∀ b h, A b h → B b h) → tt σ' H' A → tt σ' H' B)
    (hd : ∀ H D, Same H1 H → H1 D = none → H D = some (.lst ((List.range n).map f)) → Q (.ref D) H) :
    LcB J g tt te vs σ Q H1 := by
  intro D hD
  refine lc_it w (fun i H => Same H1 H ∧ H D = some (.lst ((List.range i).map f))) ⟨same_new hD, upd_same⟩
    (fun i H _ h => hG H h.1) ?_ (fun H h => hd H D h.1 hD h.2)
  rintro i x H H' hi ⟨hS, hL⟩ hy
  have := hs i x H H' hi hS hy
    (fun y H4 => ∃ acc, H4 D = some (.lst acc) ∧ acc.length < sizeLine ∧
      (Same H1 (upd H4 D (.lst (acc ++ [y]))) ∧ upd H4 D (.lst (acc ++ [y])) D = some (.lst ((List.range (i + 1)).map f))))
    (fun H4 h4 => ⟨_, h4 _ _ hL, by rw [List.length_map, List.length_range]; omega, same_mut (hS.trans h4) hD, by
      rw [upd_same, List.range_succ, List.map_append]
      rfl⟩)
  refine mono _ _ _ _ _ ?_ this
  rintro s h ⟨e, h2⟩
  refine ⟨e, monoT _ _ _ _ ?_ h2⟩
  rintro b h3 ⟨rfl, h4⟩
  rw [if_pos rfl]
  exact h4
/-- elements that are drawn: each has P -/
theorem lc_gr {d : Addr} (w : Walk J n G Y) (P : Nat → V → Prop) (hn : n ≤ sizeLine) (h0 : Dc H1 d) (hG : ∀ H, Gr d H1 H → G H)
    (hs : ∀ i x H H', i < n → Gr d H1 H → Y i H x H' → ∀ R : VK, (∀ y H4, P i y → Gr d H H4 → R y H4) →
      g x (wipe σ vs) H' fun σ2 H2 => wipe σ2 vs = wipe σ vs ∧ tt σ2 H2 fun b H3 => b = true ∧ te σ2 H3 R)
    (mono : ∀ (x : V) (σ' : L2.St) (H' : Hp) (A B : L2.St → Hp → Prop), (∀ s h, A s h → B s h) → g x σ' H' A → g x σ' H' B)
    (monoT : ∀ (σ' : L2.St) (H' : Hp) (A B : Bool → Hp → Prop), (∀ b h, A b h → B b h) → tt σ' H' A → tt σ' H' B)
    (hd : ∀ H D ys, Gr d H1 H → H1 D = none → D ≠ d → ys.length = n → (∀ i y, ys[i]? = some y → P i y) →
      H D = some (.lst ys) → Q (.ref D) H) :
    LcB J g tt te vs σ Q H1 := by
  intro D hD
  have ne := h0.ne hD
  refine lc_it w (fun i H => Gr d H1 H ∧ ∃ ys : List V, ys.length = i ∧ (∀ j y, ys[j]? = some y → P j y) ∧ H D = some (.lst ys))
    ⟨Gr.new h0 hD, [], rfl, (fun j y e => by simp at e), upd_same⟩ (fun i H _ h => hG H h.1) ?_
    (fun H h => ?_)
  · rintro i x H H' hi ⟨hS, ys, hl, hp, hL⟩ hy
    have := hs i x H H' hi hS hy
      (fun y H4 => ∃ acc, H4 D = some (.lst acc) ∧ acc.length < sizeLine ∧ (Gr d H1 (upd H4 D (.lst (acc ++ [y]))) ∧
        ∃ zs : List V, zs.length = i + 1 ∧ (∀ j z, zs[j]? = some z → P j z) ∧ upd H4 D (.lst (acc ++ [y])) D = some (.lst zs)))
      (fun y H4 hy h4 => ⟨ys, h4.keep _ _ ne hL, by omega, (hS.trans h4).mut hD ne, ys ++ [y], by
        rw [List.length_append, hl]
        rfl, fun j z hz => ?_, upd_same⟩)
    · refine mono _ _ _ _ _ ?_ this
      rintro s h ⟨e, h2⟩
      refine ⟨e, monoT _ _ _ _ ?_ h2⟩
      rintro b h3 ⟨rfl, h4⟩
      rw [if_pos rfl]
      exact h4
    · by_cases hj : j < ys.length
      · rw [List.getElem?_append_left hj] at hz
        exact hp j z hz
      · rw [List.getElem?_append_right (by omega)] at hz
        have e : j = i := by
          cases hq : j - ys.length with
          | zero => omega
          | succ m =>
            rw [hq] at hz
            exact nomatch hz
        subst e
        rw [hl, Nat.sub_self] at hz
        cases hz
        exact hy
  · obtain ⟨hS, ys, hl, hp, hL⟩ := h
    exact hd H D ys hS hD ne hl hp hL
end
section
variable {J : It} {n : Nat} {G : Hp → Prop} {Y : Nat → Hp → V → Hp → Prop} {g : TG} {tb : TS} {D : Ends} {σ : L2.St} {H : Hp}
/-- the body of a for's reading, behind what it walks -/
def ForB (J : It) (g : TG) (tb : TS) (D : Ends) (σ : L2.St) (H : Hp) : Prop :=
  ∃ W : Nat → Nat → L2.St → Hp → Prop, (∃ m, W 0 m σ H) ∧ ∀ i m σ H, W i m σ H →
    (J.stop i H ∧ D.nx σ H) ∨ (J.go i H ∧ ∃ N : L2.St → Hp → Prop, (∀ σ' H', N σ' H' → ∃ m', m' < m ∧ W (i + 1) m' σ' H') ∧
      ∀ x H', J.yld i H x H' → g x σ H' fun σ2 H2 => tb { D with nx := N, ct := N, bk := D.nx } σ2 H2)
theorem tFor_eq {wi : TI} : tFor wi g tb D σ H = wi σ H fun J H1 => ForB J g tb D σ H1 := rfl
/-- a for by its invariant -/
theorem forB (w : Walk J n G Y) (Pv : Nat → L2.St → Hp → Prop) (h0 : Pv 0 σ H) (hG : ∀ i σ H, i ≤ n → Pv i σ H → G H)
    (hs : ∀ i x σ H H', i < n → Pv i σ H → Y i H x H' → g x σ H' fun σ2 H2 => tb { D with nx := Pv (i + 1), ct := Pv (i + 1), bk := D.nx } σ2 H2)
    (hd : ∀ σ H, Pv n σ H → D.nx σ H) : ForB J g tb D σ H := for_it w Pv h0 hG hs hd
end
theorem mono_name {i : Nat} (x : V) (σ' : L2.St) (H' : Hp) (A B : L2.St → Hp → Prop) (h : ∀ s h, A s h → B s h) (q : gName i x σ' H' A) : gName i x σ' H' B := h _ _ q
theorem mono_yes (σ' : L2.St) (H' : Hp) (A B : Bool → Hp → Prop) (h : ∀ b h, A b h → B b h) (q : tYes σ' H' A) : tYes σ' H' B := h _ _ q
end Lv

/-! texts made of drawn signs -/
namespace Lv
open PySem PySem.Spec PyProof.Rows L2
/-- a text of one sign -/
abbrev sg (c : Nat) : Str := ⟨#[c]⟩
theorem sgs_eq (z : Str) : sgs z = z.cps.toList.map fun c => V.str (sg c) := rfl
theorem ex_cs {P : Nat → Prop} : ∀ {ys : List V}, (∀ (i : Nat) (y : V), ys[i]? = some y → ∃ c, y = V.str (sg c) ∧ P c) →
    ∃ cs : List Nat, ys = (cs.map sg).map V.str ∧ cs.length = ys.length ∧ ∀ c ∈ cs, P c
  | [], _ => ⟨[], rfl, rfl, fun c h => nomatch h⟩
  | y :: ys, h => by
    obtain ⟨c, rfl, pc⟩ := h 0 y rfl
    obtain ⟨cs, rfl, e, p⟩ := ex_cs (ys := ys) fun i y hy => h (i + 1) y hy
    refine ⟨c :: cs, rfl, by simp, fun x hx => ?_⟩
    rcases List.mem_cons.mp hx with rfl | hx
    · exact pc
    · exact p x hx
theorem joinL_nil : ∀ ps : List (List Nat), TL.joinL [] ps = ps.flatten
  | [] => rfl
  | [p] => by simp [TL.joinL]
  | p :: q :: r => by
    show p ++ ([] ++ TL.joinL [] (q :: r)) = _
    rw [joinL_nil (q :: r)]
    rfl
theorem tl_joinSg (cs : List Nat) : TL.tl (Txt.join (Str.ofString "") (cs.map sg)) = cs := by
  rw [TL.join_eq, TL.tl_join, show TL.tl (Str.ofString "") = [] from rfl, joinL_nil, List.map_map]
  induction cs with
  | nil => rfl
  | cons c cs ih =>
    show [c] ++ (cs.map (TL.tl ∘ sg)).flatten = c :: cs
    rw [ih]
    rfl
theorem sum_ones : ∀ cs : List Nat, ((cs.map sg).map (·.length)).sum = cs.length
  | [] => rfl
  | c :: cs => by
    show 1 + ((cs.map sg).map (·.length)).sum = cs.length + 1
    rw [sum_ones cs]
    omega
theorem len_tl (z : Str) : z.length = (TL.tl z).length := by
  show z.cps.size = z.cps.toList.length
  rw [Array.length_toList]
theorem inV_swap (x a b : V) : inV x [a, b] = inV x [b, a] := by
  unfold inV
  simp [Bool.or_comm]
end Lv

/-! repr of lists of truths -/
namespace Lv
open PySem PySem.Spec PyProof.Rows L2
/-- what repr asks of data -/
def RpOk (d : PyData) : Prop := isDisplay d = true ∧ d.showable = true ∧ d.hasDict = false ∧ d.depth ≤ 60 ∧ d.shown.length ≤ sizeLine
def rRp (K : PySem.W.Frag) : List V → Hp → VK → Prop := fun xs H Q => ∃ (v : V) (d : PyData), xs = [v] ∧ Dp K H v d ∧ RpOk d ∧ Q (.str d.shown) H
theorem call_rp {X : Cx} (hgd : X.A.guards = some []) (hu : X.A.units + 64 < cLine) : CallR X (.builtin "repr") (rRp X.K) := by
  intro pins s σ H xs us Q I r h
  obtain ⟨v, d, rfl, hd, ⟨h1, h2, h3, h4, h5⟩, q⟩ := h
  exact call_reprD hgd hu pins s σ H _ us Q I r ⟨v, d, rfl, hd, h1, h2, h3, h4, h5, q⟩
def dB (bs : List Bool) : PyData := .list (bs.map PyData.bool)
theorem shownB : ∀ bs : List Bool, ((PyData.shownAll (bs.map PyData.bool)).map (·.length)).sum + 2 * (PyData.shownAll (bs.map PyData.bool)).length ≤ 7 * bs.length
  | [] => by simp [PyData.shownAll]
  | b :: bs => by
    have := shownB bs
    rw [List.map_cons, PyData.shownAll, List.map_cons, List.sum_cons, List.length_cons, List.length_cons]
    have : (PyData.bool b).shown.length ≤ 5 := by cases b <;> decide +kernel
    omega
theorem showB : ∀ bs : List Bool, PyData.showableAll (bs.map PyData.bool) = true
  | [] => by simp [PyData.showableAll]
  | b :: bs => by simp [PyData.showableAll, PyData.showable, showB bs]
theorem dictB : ∀ bs : List Bool, PyData.hasDictAll (bs.map PyData.bool) = false
  | [] => by simp [PyData.hasDictAll]
  | b :: bs => by simp [PyData.hasDictAll, PyData.hasDict, dictB bs]
theorem depthB : ∀ bs : List Bool, PyData.depthAll (bs.map PyData.bool) ≤ 10
  | [] => by simp [PyData.depthAll]
  | b :: bs => by
    have := depthB bs
    rw [List.map_cons, PyData.depthAll]
    simp [PyData.depth]
    omega
theorem dB_ok {bs : List Bool} (h : bs.length ≤ 1000) : RpOk (dB bs) := by
  refine ⟨rfl, ?_, ?_, ?_, ?_⟩
  · simp only [dB, PyData.showable]
    exact showB bs
  · simp only [dB, PyData.hasDict]
    exact dictB bs
  · have := depthB bs
    simp only [dB, PyData.depth]
    omega
  · have h1 := shownB bs
    have h2 := listText_len_le (PyData.shownAll (bs.map PyData.bool))
    simp only [dB, PyData.shown]
    exact sz100 (by omega)
theorem dpB {K : PySem.W.Frag} {H : Hp} : ∀ bs : List Bool, DpAll K H (bs.map V.bl) (bs.map PyData.bool)
  | [] => .nil
  | b :: bs => .cons (.bl b) (dpB bs)
theorem qeq {x y : Str} {H : Hp} {Q : VK} (h : x = y) (q : Q (.bl true) H) : Q (.bl (decide (V.str x = V.str y))) H := by
  subst h
  rw [decide_eq_true rfl]
  exact q
theorem qne {x y : Str} {H : Hp} {Q : VK} (h : x = y) (q : Q (.bl false) H) : Q (.bl (!decide (V.str x = V.str y))) H := by
  subst h
  rw [decide_eq_true rfl]
  exact q
/-- repr of a list of truths -/
theorem rp_bools {K : PySem.W.Frag} {H : Hp} {p : Addr} {Q : VK} (bs : List Bool) (hp : SqL K H p (bs.map V.bl)) (hn : bs.length ≤ 1000) (q : Q (.str (dB bs).shown) H) :
    rRp K [.ref p] H Q := ⟨.ref p, dB bs, rfl, .lst hp (dpB bs), dB_ok hn, q⟩
/-- repr(p) != repr([..]) of equal truths, and repr(p) == repr([..]) -/
theorem rp_ne {K : PySem.W.Frag} {H : Hp} {p : Addr} {n : Nat} {A B : Hp → Prop} (bs cs : List Bool) (hp : SqL K H p (bs.map V.bl)) (hn : bs.length ≤ 1000) (hs : n ≤ sizeLine) (e : bs = cs)
    (h : ∀ q, H q = none → B (upd H q (.lst (cs.map V.bl)))) :
    rRp K [.ref p] H fun x H1 => n ≤ sizeLine ∧ ∀ q, H1 q = none → rRp K [.ref q] (upd H1 q (.lst (cs.map V.bl))) fun y H2 =>
      scal x y = true ∧ if (!decide (x = y)) = true then A H2 else B H2 := by
  subst e
  refine rp_bools bs hp hn ⟨hs, fun q hq => rp_bools bs (sql_of upd_same) hn ⟨rfl, ?_⟩⟩
  rw [decide_eq_true rfl]
  exact iteF (h q hq)
theorem rp_eq {K : PySem.W.Frag} {H : Hp} {p : Addr} {n : Nat} {Q : VK} (bs cs : List Bool) (hp : SqL K H p (bs.map V.bl)) (hn : bs.length ≤ 1000) (hs : n ≤ sizeLine) (e : bs = cs)
    (h : ∀ q, H q = none → Q (.bl true) (upd H q (.lst (cs.map V.bl)))) :
    rRp K [.ref p] H fun x H1 => n ≤ sizeLine ∧ ∀ q, H1 q = none → rRp K [.ref q] (upd H1 q (.lst (cs.map V.bl))) fun y H2 =>
      scal x y = true ∧ Q (.bl (decide (x = y))) H2 := by
  subst e
  refine rp_bools bs hp hn ⟨hs, fun q hq => rp_bools bs (sql_of upd_same) hn ⟨rfl, ?_⟩⟩
  rw [decide_eq_true rfl]
  exact h q hq
end Lv

namespace K01
open PySem PySem.Spec PyProof.Rows L2 Lv
def topS (i : Nat) : Stmt := PySem.Challenge.pw_laterivals_k01_integers_names_types_and.main.body.getD i (.Pass ⟨0, 0, 0, 0⟩)
abbrev s_is_integer : Stmt := topS 5
abbrev s_is_name : Stmt := topS 6
abbrev s_is_names : Stmt := topS 7
abbrev s_is_type : Stmt := topS 8
abbrev s_is_front : Stmt := topS 9
abbrev s_law_dice : Stmt := topS 11
abbrev s_law_roll : Stmt := topS 12
abbrev s_law_pick : Stmt := topS 13
abbrev s_law_some : Stmt := topS 14
abbrev s_law_names : Stmt := topS 15
abbrev s_law_integers_right : Stmt := topS 16
abbrev s_law_odd_sign : Stmt := topS 17
abbrev s_law_names_right : Stmt := topS 18
abbrev s_law_tuples_right : Stmt := topS 19
abbrev s_law : Stmt := topS 20
theorem sc_is_integer : FnScope ["value"] ["value"] (defScope s_is_integer) :=
  ⟨rfl, rfl, rfl, by decide +kernel, rfl, by decide +kernel, by decide +kernel⟩
theorem sc_is_name : FnScope ["value", "sign"] ["value"] (defScope s_is_name) :=
  ⟨rfl, rfl, rfl, by decide +kernel, rfl, by decide +kernel, by decide +kernel⟩
theorem sc_is_names : FnScope ["value", "least", "most", "name"] ["value", "least", "most"] (defScope s_is_names) :=
  ⟨rfl, rfl, rfl, by decide +kernel, rfl, by decide +kernel, by decide +kernel⟩
theorem sc_is_type : FnScope ["value"] ["value"] (defScope s_is_type) :=
  ⟨rfl, rfl, rfl, by decide +kernel, rfl, by decide +kernel, by decide +kernel⟩
theorem sc_is_front : FnScope ["value"] ["value"] (defScope s_is_front) :=
  ⟨rfl, rfl, rfl, by decide +kernel, rfl, by decide +kernel, by decide +kernel⟩
theorem sc_law_dice : FnScope ["_law_script", "_law_spot", "_law_cell", "_law_whole"] ["_law_script", "_law_spot"] (defScope s_law_dice) :=
  ⟨rfl, rfl, rfl, by decide +kernel, rfl, by decide +kernel, by decide +kernel⟩
theorem sc_law_roll : FnScope ["_law_dice_here", "_law_upto", "_law_found", "_law_one", "_law_two"] ["_law_dice_here", "_law_upto"] (defScope s_law_roll) :=
  ⟨rfl, rfl, rfl, by decide +kernel, rfl, by decide +kernel, by decide +kernel⟩
theorem sc_law_pick : FnScope ["_law_dice_here", "_law_items"] ["_law_dice_here", "_law_items"] (defScope s_law_pick) :=
  ⟨rfl, rfl, rfl, by decide +kernel, rfl, by decide +kernel, by decide +kernel⟩
theorem sc_law_some : FnScope ["_law_dice_here", "_law_items", "_law_many", "_law_left", "_law_found", "_law_turn"] ["_law_dice_here", "_law_items", "_law_many"] (defScope s_law_some) :=
  ⟨rfl, rfl, rfl, by decide +kernel, rfl, by decide +kernel, by decide +kernel⟩
theorem sc_law_names : FnScope ["_law_dice_here", "_law_many", "_law_found", "_law_letters", "_law_letter", "_law_more", "_law_word", "_law_turn"] ["_law_dice_here", "_law_many"] (defScope s_law_names) :=
  ⟨rfl, rfl, rfl, by decide +kernel, rfl, by decide +kernel, by decide +kernel⟩
theorem sc_law_integers_right : FnScope ["_law_dice_here", "_law_most", "_law_near", "_law_number", "_law_odd", "_law_told"] ["_law_dice_here"] (defScope s_law_integers_right) :=
  ⟨rfl, rfl, rfl, by decide +kernel, rfl, by decide +kernel, by decide +kernel⟩
theorem sc_law_odd_sign : FnScope ["_law_dice_here"] ["_law_dice_here"] (defScope s_law_odd_sign) :=
  ⟨rfl, rfl, rfl, by decide +kernel, rfl, by decide +kernel, by decide +kernel⟩
theorem sc_law_names_right : FnScope ["_law_dice_here", "_law_letters", "_law_many", "_law_word", "_law_at", "_law_bad", "_law_told", "_law_due", "_law_near", "_law_odd", "_law_turn"] ["_law_dice_here"] (defScope s_law_names_right) :=
  ⟨rfl, rfl, rfl, by decide +kernel, rfl, by decide +kernel, by decide +kernel⟩
theorem sc_law_tuples_right : FnScope ["_law_dice_here", "_law_words", "_law_told", "_law_odd", "_law_nested", "_law_row", "_law_spot"] ["_law_dice_here"] (defScope s_law_tuples_right) :=
  ⟨rfl, rfl, rfl, by decide +kernel, rfl, by decide +kernel, by decide +kernel⟩
theorem sc_law : FnScope ["_law_script", "_law_spot", "_law_dice_here"] ["_law_script"] (defScope s_law) :=
  ⟨rfl, rfl, rfl, by decide +kernel, rfl, by decide +kernel, by decide +kernel⟩
/-- where the text's defs and constants stand; which names are still built-in -/
structure Tx (K : PySem.W.Frag) (mg : Str → Option Value) where
  f_is_integer : Addr
  d_is_integer : FuncData
  F_is_integer : Fun K "is_integer" "is_integer" s_is_integer f_is_integer d_is_integer
  b_is_integer : Binds K d_is_integer ["value"] []
  g_is_integer : mg "is_integer" = some (.ref f_is_integer)
  f_is_name : Addr
  d_is_name : FuncData
  F_is_name : Fun K "is_name" "is_name" s_is_name f_is_name d_is_name
  b_is_name : Binds K d_is_name ["value"] []
  g_is_name : mg "is_name" = some (.ref f_is_name)
  f_is_names : Addr
  d_is_names : FuncData
  F_is_names : Fun K "is_names" "is_names" s_is_names f_is_names d_is_names
  b_is_names : Binds K d_is_names ["value", "least", "most"] []
  g_is_names : mg "is_names" = some (.ref f_is_names)
  f_is_type : Addr
  d_is_type : FuncData
  F_is_type : Fun K "is_type" "is_type" s_is_type f_is_type d_is_type
  b_is_type : Binds K d_is_type ["value"] []
  g_is_type : mg "is_type" = some (.ref f_is_type)
  f_is_front : Addr
  d_is_front : FuncData
  F_is_front : Fun K "is_front" "is_front" s_is_front f_is_front d_is_front
  b_is_front : Binds K d_is_front ["value"] []
  g_is_front : mg "is_front" = some (.ref f_is_front)
  f__law_dice : Addr
  d__law_dice : FuncData
  F__law_dice : Fun K "_law_dice" "_law_dice" s_law_dice f__law_dice d__law_dice
  b__law_dice : Binds K d__law_dice ["_law_script", "_law_spot"] []
  g__law_dice : mg "_law_dice" = some (.ref f__law_dice)
  f__law_roll : Addr
  d__law_roll : FuncData
  F__law_roll : Fun K "_law_roll" "_law_roll" s_law_roll f__law_roll d__law_roll
  b__law_roll : Binds K d__law_roll ["_law_dice_here", "_law_upto"] []
  g__law_roll : mg "_law_roll" = some (.ref f__law_roll)
  f__law_pick : Addr
  d__law_pick : FuncData
  F__law_pick : Fun K "_law_pick" "_law_pick" s_law_pick f__law_pick d__law_pick
  b__law_pick : Binds K d__law_pick ["_law_dice_here", "_law_items"] []
  g__law_pick : mg "_law_pick" = some (.ref f__law_pick)
  f__law_some : Addr
  d__law_some : FuncData
  F__law_some : Fun K "_law_some" "_law_some" s_law_some f__law_some d__law_some
  b__law_some : Binds K d__law_some ["_law_dice_here", "_law_items", "_law_many"] []
  g__law_some : mg "_law_some" = some (.ref f__law_some)
  f__law_names : Addr
  d__law_names : FuncData
  F__law_names : Fun K "_law_names" "_law_names" s_law_names f__law_names d__law_names
  b__law_names : Binds K d__law_names ["_law_dice_here", "_law_many"] []
  g__law_names : mg "_law_names" = some (.ref f__law_names)
  f__law_integers_right : Addr
  d__law_integers_right : FuncData
  F__law_integers_right : Fun K "_law_integers_right" "_law_integers_right" s_law_integers_right f__law_integers_right d__law_integers_right
  b__law_integers_right : Binds K d__law_integers_right ["_law_dice_here"] []
  g__law_integers_right : mg "_law_integers_right" = some (.ref f__law_integers_right)
  f__law_odd_sign : Addr
  d__law_odd_sign : FuncData
  F__law_odd_sign : Fun K "_law_odd_sign" "_law_odd_sign" s_law_odd_sign f__law_odd_sign d__law_odd_sign
  b__law_odd_sign : Binds K d__law_odd_sign ["_law_dice_here"] []
  g__law_odd_sign : mg "_law_odd_sign" = some (.ref f__law_odd_sign)
  f__law_names_right : Addr
  d__law_names_right : FuncData
  F__law_names_right : Fun K "_law_names_right" "_law_names_right" s_law_names_right f__law_names_right d__law_names_right
  b__law_names_right : Binds K d__law_names_right ["_law_dice_here"] []
  g__law_names_right : mg "_law_names_right" = some (.ref f__law_names_right)
  f__law_tuples_right : Addr
  d__law_tuples_right : FuncData
  F__law_tuples_right : Fun K "_law_tuples_right" "_law_tuples_right" s_law_tuples_right f__law_tuples_right d__law_tuples_right
  b__law_tuples_right : Binds K d__law_tuples_right ["_law_dice_here"] []
  g__law_tuples_right : mg "_law_tuples_right" = some (.ref f__law_tuples_right)
  f_law : Addr
  d_law : FuncData
  F_law : Fun K "law" "law" s_law f_law d_law
  b_law : Binds K d_law ["_law_script"] []
  g_law : mg "law" = some (.ref f_law)
  t_MAX_DEPTH : Tok
  m_MAX_DEPTH : mg "MAX_DEPTH" = some (.int (400) t_MAX_DEPTH)
  t_MAX_RANK : Tok
  m_MAX_RANK : mg "MAX_RANK" = some (.int (9) t_MAX_RANK)
  t_MAX_LETTERS : Tok
  m_MAX_LETTERS : mg "MAX_LETTERS" = some (.int (8) t_MAX_LETTERS)
  a_KEYWORDS : Addr
  m_KEYWORDS : mg "KEYWORDS" = some (.ref a_KEYWORDS)
  q_KEYWORDS : ∀ H : Hp, SqT K H a_KEYWORDS [.str "gives", .str "to"]
  n_abs : mg "abs" = none
  n_all : mg "all" = none
  n_bool : mg "bool" = none
  n_dict : mg "dict" = none
  n_int : mg "int" = none
  n_isinstance : mg "isinstance" = none
  n_len : mg "len" = none
  n_list : mg "list" = none
  n_max : mg "max" = none
  n_min : mg "min" = none
  n_range : mg "range" = none
  n_repr : mg "repr" = none
  n_str : mg "str" = none
  n_tuple : mg "tuple" = none

open PySem PySem.Spec PyProof.Rows L2 Lv
local macro_rules | `(tactic| walk_at "rd") => `(tactic| simp only [cxOf, Cx.nox, Cx.wish, tSeq, tIfS, tOr, tAnd, tB, tTest, tCB, tCons, tVar, tC, tNil, tNot, tNotV, tRet, tOp, tUn, tNext, tDrop, tAsg, gName, gSub, gCons, gNil, gSub, gCons, gNil, tYes, wipe, tFor_eq, tLc_eq, iStr, iTup, iList, iRng1, tBM, tBM0, tM0, tM1, tSl, tPart, tNoPart, tDisp, tPairs, tDNewK, rU, and_assoc, tIf, tAndV, tOrV, tChain, tTup, tLst, tCall, tPar, rI0, rI, rEq, rNe, L2.start,
  List.map_cons, List.map_nil, List.length_cons, List.length_nil, Nat.reduceAdd, Nat.reduceSub, Nat.zero_add, Nat.sub_self, Nat.add_one_sub_one, List.replicate_zero, List.replicate_succ, List.append_nil, List.cons_append, List.nil_append, List.set_cons_zero, List.set_cons_succ,
  List.getElem?_cons_zero, List.getElem?_cons_succ, Option.some.injEq, exists_eq_left', exists_eq_left, exists_eq_right, exists_and_left, exists_and_right, V.bl.injEq, V.int.injEq, V.str.injEq, V.ref.injEq, List.cons.injEq, and_true, true_and, Bool.false_eq_true, Bool.true_eq_false, if_true, if_false, ite_true, ite_false, Bool.not_false, Bool.not_true, if_pos, reduceIte])
local macro_rules | `(tactic| walk_at "kn") => `(tactic| first | exact Kn.non | exact Kn.bl _ | exact Kn.int _ | exact Kn.str _ | exact Kn.lst (by assumption) | exact Kn.tup (by assumption) | exact Kn.dK (by assumption))
local macro_rules | `(tactic| walk_at "isi") => `(tactic| first | refine isi_kn (b := true) (by walk_at "kn") (by decide +kernel) ?_ | refine isi_kn (b := false) (by walk_at "kn") (by decide +kernel) ?_)

section
variable {P : Program} {w : World} {K : PySem.W.Frag} {mg : Str → Option Value} {base : Heap}
/-- is_integer -/
def intV : V → Bool
  | .int i => decide ((if i < 0 then -i else i) < 10 ^ 60)
  | _ => false
def sp_is_integer : Sp := fun vs H Q _ => ∃ (v : V) (t : String), vs = [v] ∧ Kn H v t ∧ Q (.bl (intV v)) H
theorem ok_is_integer (T : Tx K mg) : FnOk P w K mg base CX0 1 T.f_is_integer T.d_is_integer ["value"] sp_is_integer := by
  refine T.F_is_integer.ok sc_is_integer (fun vs H Q E h => ?_) (fun cdv A outer s H vs Q E hr h => ?_)
  · obtain ⟨v, t, rfl, _⟩ := h
    rfl
  · obtain ⟨v, t, rfl, k, q⟩ := h
    refine ⟨_, (pss_cons (ps_if (PW.pt (pw_or (pt_val (pe_callB call_isi (by rfl) T.n_isinstance (by decide +kernel) (pa_cons (pv 0) (pa_cons (pe_bltn (v := .ty "bool") (by rfl) T.n_bool (by decide +kernel) rfl) pa_nil)))) (pw_or1 (pt_not (pt_val (pe_callB call_isi (by rfl) T.n_isinstance (by decide +kernel) (pa_cons (pv 0) (pa_cons (pe_bltn (v := .ty "int") (by rfl) T.n_int (by decide +kernel) rfl) pa_nil)))))))) (pss_one (ps_ret pe_bl)) pss_nil)
      (pss_one (ps_ret (pe_cmpR op_lt (pe_callB call_abs (by rfl) T.n_abs (by decide +kernel) (pa_cons (pv 0) pa_nil)) (pe_op op_pow pe_int pe_int) (nomark _))))), ?_⟩
    walk_at "rd"
    cases k
    all_goals (walk_at "isi"; walk_at "rd")
    all_goals try exact q
    all_goals (walk_at "isi"; walk_at "rd")
    all_goals try exact q
    exact ⟨⟨by decide, by decide, by decide⟩, q⟩
/-- is_name -/
def lowC (c : Nat) : Bool := !decide ([c] < (Str.ofString "a").cps.toList) && !decide ((Str.ofString "z").cps.toList < [c])
theorem range_map {α : Type} (f : Nat → α) (l : List Nat) : ((List.range l.length).map fun i => f (l[i]?.getD 0)) = l.map f := by
  apply List.ext_getElem
  · simp
  · intro i h1 h2
    have h3 : i < l.length := by simpa using h2
    simp [h3]
def isNm (z : Str) : Bool := decide ((1 : Int) ≤ z.length) && decide ((z.length : Int) ≤ 8) && !inV (.str z) [.str "gives", .str "to"] && z.cps.toList.all lowC
def nameV : V → Bool
  | .str z => isNm z
  | _ => false
def sp_is_name : Sp := fun vs H Q _ => ∃ (v : V) (t : String), vs = [v] ∧ Kn H v t ∧ (∀ z, v = .str z → z.length ≤ sizeLine) ∧ ∀ H', Same H H' → Q (.bl (nameV v)) H'
theorem ok_is_name (T : Tx K mg) : FnOk P w K mg base CX0 1 T.f_is_name T.d_is_name ["value"] sp_is_name := by
  refine T.F_is_name.ok sc_is_name (fun vs H Q E h => ?_) (fun cdv A outer s H vs Q E hr h => ?_)
  · obtain ⟨v, t, rfl, _⟩ := h
    rfl
  · obtain ⟨v, t, rfl, k, hz, q⟩ := h
    refine ⟨_, (pss_cons (ps_if (PW.pt (pw_or (pt_not (pt_val (pe_callB call_isi (by rfl) T.n_isinstance (by decide +kernel) (pa_cons (pv 0) (pa_cons (pe_bltn (v := .ty "str") (by rfl) T.n_str (by decide +kernel) rfl) pa_nil))))) (pw_or (pt_not (pt_chain op_le op_le pe_int (pe_callB call_len_str (by rfl) T.n_len (by decide +kernel) (pa_cons (pv 0) pa_nil)) (pe_glob (v := .int (8)) (by rfl) T.m_MAX_LETTERS ⟨_, rfl⟩))) (pw_or1 (pt_cmpR op_in_seq (pv 0) (pe_glob (v := .ref T.a_KEYWORDS) (by rfl) T.m_KEYWORDS rfl) (by rfl)))))) (pss_one (ps_ret pe_bl)) pss_nil)
      (pss_one (ps_ret (pe_callB (cr_all rfl) (by rfl) T.n_all (by decide +kernel) (pa_cons (pe_lc (own := [("sign", 1)]) (g := gName 1) (by rfl) sc_is_name.nd (pi_str (pv 0)) (blkOk_by (own := [("sign", 1)]) (N := ["value", "sign"]) (sc := defScope s_is_name) (by decide +kernel)) (fun _ _ _ _ _ => (pg_name (i := 1) sc_is_name.nd rfl (Or.inl rfl))) (fun _ _ _ _ _ => pts_nil) (fun _ _ _ _ _ => (pe_chain op_le_str op_le_str pe_str (pv 1) pe_str))) pa_nil))))), ?_⟩
    walk_at "rd"
    cases k
    all_goals (walk_at "isi"; walk_at "rd")
    all_goals try exact q _ (Same.refl _)
    rename_i z
    have hl := hz z rfl
    have q' : ∀ (b : Bool) H', isNm z = b → Same H H' → Q (V.bl b) H' := fun b H' e s => e ▸ q H' s
    refine ⟨hl, ite2 (fun h1 => ite2 (fun h2 => ?_) (fun h2 => ?_)) (fun h1 => ?_)⟩
    · refine q' _ _ ?_ (Same.refl _)
      unfold isNm
      have h2' : decide ((z.length : Int) ≤ 8) = false := by simpa using h2
      simp only [h2', Bool.and_false, Bool.false_and]
    · refine ⟨T.a_KEYWORDS, _, rfl, .inr (T.q_KEYWORDS H), rfl, rfl, _, rfl, ite2 (fun h3 => ?_) (fun h3 => ?_)⟩
      · refine q' _ _ ?_ (Same.refl _)
        unfold isNm
        simp only [Bool.false_eq_true, if_false] at h3
        simp [h3]
      · refine lc_same walk_str (fun i => .bl (lowC (z.cps.toList[i]?.getD 0))) hl (fun _ _ => trivial) ?_ mono_name mono_yes ?_
        · rintro i x H1 H2 hi hS ⟨rfl, c, hc, rfl⟩ R hR
          walk_at "rd"
          have e : z.cps.toList[i]?.getD 0 = c := by
            rw [Array.getElem?_toList, hc]
            rfl
          have hR' := hR H2 (Same.refl _)
          rw [e] at hR'
          unfold lowC at hR'
          refine ite2 (fun h4 => ?_) (fun h4 => ?_)
          · rw [show (!decide ([c] < (Str.ofString "a").cps.toList)) = true from h4, Bool.true_and] at hR'
            exact hR'
          · rw [Bool.not_eq_true] at h4
            rw [show (!decide ([c] < (Str.ofString "a").cps.toList)) = false from h4, Bool.false_and] at hR'
            exact hR'
        · intro H2 D hS hD hL
          have e : ((List.range z.cps.size).map fun i => V.bl (lowC (z.cps.toList[i]?.getD 0))) = (z.cps.toList.map lowC).map V.bl := by
            rw [← range_map lowC z.cps.toList, List.map_map]
            rfl
          rw [e] at hL
          refine ⟨D, z.cps.toList.map lowC, rfl, .inl (.inl hL), q' _ _ ?_ hS⟩
          unfold isNm
          simp only [Bool.false_eq_true, if_false] at h3
          simp at h1 h2 h3
          simp [h1, h2, h3]
    · refine q' _ _ ?_ (Same.refl _)
      unfold isNm
      have h1' : decide ((1 : Int) ≤ z.length) = false := by simpa using h1
      simp only [h1', Bool.false_and]
theorem kit_ntup {H : Hp} {v : V} {t : String} (k : Kn H v t) (n : t ≠ "tuple") : kitB t "tuple" = some false := by
  cases k with
  | tup h => exact absurd rfl n
  | _ => decide +kernel
/-- is_names -/
def namesV (xs : List V) (lo hi : Int) : Bool := decide (lo ≤ (xs.length : Int)) && decide ((xs.length : Int) ≤ hi) && xs.all nameV
/-- a value told to is_names: of which kind it is, and if it is a tuple, its items -/
inductive Told (H : Hp) : V → List V → Bool → Prop where
  | tup {a : Addr} {xs : List V} (h : H a = some (.tup xs)) (k : ∀ x ∈ xs, ∃ t, Kn H x t) (z : ∀ y, V.str y ∈ xs → y.length ≤ sizeLine) : Told H (.ref a) xs true
  | oth {v : V} {t : String} (k : Kn H v t) (n : t ≠ "tuple") : Told H v [] false
def sp_is_names : Sp := fun vs H Q _ => ∃ (v : V) (xs : List V) (b : Bool) (lo hi : Int), vs = [v, .int lo, .int hi] ∧ hi ≤ 1000 ∧ Told H v xs b ∧ ∀ H', Same H H' → Q (.bl (b && namesV xs lo hi)) H'
theorem ok_is_names (T : Tx K mg) : FnOk P w K mg base CX0 2 T.f_is_names T.d_is_names ["value", "least", "most"] sp_is_names := by
  refine T.F_is_names.ok sc_is_names (fun vs H Q E h => ?_) (fun cdv A outer s H vs Q E hr h => ?_)
  · obtain ⟨v, xs, b, lo, hi, rfl, _⟩ := h
    rfl
  · obtain ⟨v, xs, b, lo, hi, rfl, hh, k, q⟩ := h
    refine ⟨_, (pss_one (ps_ret (pe_and (pe_callB call_isi (by rfl) T.n_isinstance (by decide +kernel) (pa_cons (pv 0) (pa_cons (pe_bltn (v := .ty "tuple") (by rfl) T.n_tuple (by decide +kernel) rfl) pa_nil))) (pe_and (pe_chain op_le op_le (pv 1) (pe_callB call_lenQ (by rfl) T.n_len (by decide +kernel) (pa_cons (pv 0) pa_nil)) (pv 2)) (pe_one (pe_callB (cr_all rfl) (by rfl) T.n_all (by decide +kernel) (pa_cons (pe_lc (own := [("name", 3)]) (g := gName 3) (by rfl) sc_is_names.nd (pi_tup (pv 0)) (blkOk_by (own := [("name", 3)]) (N := ["value", "least", "most", "name"]) (sc := defScope s_is_names) (by decide +kernel)) (fun _ _ _ _ _ => (pg_name (i := 3) sc_is_names.nd rfl (Or.inl rfl))) (fun _ _ _ _ _ => pts_nil) (fun _ _ _ _ _ => (pe_call (ok_is_name T) (hr.mono (by decide)) (by rfl) T.g_is_name T.F_is_name.kp T.b_is_name .nil pass0 (pa_cons (pv 3) pa_nil)))) pa_nil))))))), ?_⟩
    walk_at "rd"
    cases k with
    | oth k n =>
      refine isi_kn k (kit_ntup k n) ?_
      walk_at "rd"
      exact q _ (Same.refl _)
    | tup h k z =>
      walk_at "isi"
      walk_at "rd"
      rename_i a
      have hT : SqT K H a xs := .inl (.inl h)
      have q' : ∀ (b : Bool) H', namesV xs lo hi = b → Same H H' → Q (V.bl b) H' := fun b H' e s => by
        have := q H' s
        rw [Bool.true_and, e] at this
        exact this
      refine lenT hT ?_
      walk_at "rd"
      refine ite2 (fun h1 => ite2 (fun h2 => ?_) (fun h2 => ?_)) (fun h1 => ?_)
      · refine ⟨⟨xs, hT⟩, lc_same walk_tup (fun i => .bl (nameV (xs[i]?.getD .non))) (Nat.le_of_lt (small1000 (by have := of_decide_eq_true h2; omega))) (fun H' s => Evl.ex_t s hT) ?_ mono_name mono_yes ?_⟩
        · rintro i x H1 H2 hi hS ⟨rfl, hx⟩ R hR
          walk_at "rd"
          have hm : x ∈ xs := List.mem_of_getElem? hx
          obtain ⟨t, kt⟩ := k x hm
          rw [hx] at hR
          exact ⟨x, t, rfl, kt.same hS, fun y e => z y (e ▸ hm), hR⟩
        · intro H2 D hS hD hL
          have e : ((List.range xs.length).map fun i => V.bl (nameV (xs[i]?.getD .non))) = (xs.map nameV).map V.bl := by
            rw [List.map_map]
            apply List.ext_getElem
            · simp
            · intro i h1 h2
              have h3 : i < xs.length := by simpa using h2
              simp [h3]
          rw [e] at hL
          refine ⟨D, xs.map nameV, rfl, .inl (.inl hL), q' _ _ ?_ hS⟩
          unfold namesV
          rw [h1, h2]
          simp
      · refine q' _ _ ?_ (Same.refl _)
        unfold namesV
        have h2' : decide ((xs.length : Int) ≤ hi) = false := by simpa using h2
        rw [h2', Bool.and_false, Bool.false_and]
      · refine q' _ _ ?_ (Same.refl _)
        unfold namesV
        have h1' : decide (lo ≤ (xs.length : Int)) = false := by simpa using h1
        rw [h1', Bool.false_and, Bool.false_and]
def sp_is_type : Sp := fun vs H Q _ => ∃ (v : V) (xs : List V) (b : Bool), vs = [v] ∧ Told H v xs b ∧ ∀ H', Same H H' → Q (.bl (b && namesV xs 1 401)) H'
theorem ok_is_type (T : Tx K mg) : FnOk P w K mg base CX0 3 T.f_is_type T.d_is_type ["value"] sp_is_type := by
  refine T.F_is_type.ok sc_is_type (fun vs H Q E h => ?_) (fun cdv A outer s H vs Q E hr h => ?_)
  · obtain ⟨v, xs, b, rfl, _⟩ := h
    rfl
  · obtain ⟨v, xs, b, rfl, k, q⟩ := h
    refine ⟨_, (pss_one (ps_ret (pe_call (ok_is_names T) (hr.mono (by decide)) (by rfl) T.g_is_names T.F_is_names.kp T.b_is_names .nil pass0 (pa_cons (pv 0) (pa_cons pe_int (pa_cons (pe_op op_add (pe_glob (v := .int (400)) (by rfl) T.m_MAX_DEPTH ⟨_, rfl⟩) pe_int) pa_nil)))))), ?_⟩
    walk_at "rd"
    exact ⟨v, xs, b, 1, 401, rfl, by decide, k, q⟩
def sp_is_front : Sp := fun vs H Q _ => ∃ (v : V) (xs : List V) (b : Bool), vs = [v] ∧ Told H v xs b ∧ ∀ H', Same H H' → Q (.bl (b && namesV xs 0 400)) H'
theorem ok_is_front (T : Tx K mg) : FnOk P w K mg base CX0 3 T.f_is_front T.d_is_front ["value"] sp_is_front := by
  refine T.F_is_front.ok sc_is_front (fun vs H Q E h => ?_) (fun cdv A outer s H vs Q E hr h => ?_)
  · obtain ⟨v, xs, b, rfl, _⟩ := h
    rfl
  · obtain ⟨v, xs, b, rfl, k, q⟩ := h
    refine ⟨_, (pss_one (ps_ret (pe_call (ok_is_names T) (hr.mono (by decide)) (by rfl) T.g_is_names T.F_is_names.kp T.b_is_names .nil pass0 (pa_cons (pv 0) (pa_cons pe_int (pa_cons (pe_glob (v := .int (400)) (by rfl) T.m_MAX_DEPTH ⟨_, rfl⟩) pa_nil)))))), ?_⟩
    walk_at "rd"
    exact ⟨v, xs, b, 0, 400, rfl, by decide, k, q⟩
end

section
variable {P : Program} {w : World} {K : PySem.W.Frag} {mg : Str → Option Value} {base : Heap}
theorem seqIx {j n : Nat} (h : j < n) : seqIndex? (j : Int) n = some j := by
  unfold seqIndex?
  simp
  omega
/-- _law_dice: three ints, whatever they are -/
def sp_law_dice (K : PySem.W.Frag) : Sp := fun vs H Q _ => ∃ (a : Addr) (ns : List Int) (k : Nat), vs = [.ref a, .int k] ∧ SqL K H a (ns.map V.int) ∧ k ≤ 100 ∧
  ∀ p x y z, H p = none → Q (.ref p) (upd H p (.lst [.int x, .int y, .int z]))
theorem ok_law_dice (T : Tx K mg) : FnOk P w K mg base CX0 1 T.f__law_dice T.d__law_dice ["_law_script", "_law_spot"] (sp_law_dice K) := by
  refine T.F__law_dice.ok sc_law_dice (fun vs H Q E h => ?_) (fun cdv A outer s H vs Q E hr h => ?_)
  · obtain ⟨a, ns, k, rfl, _⟩ := h
    rfl
  · obtain ⟨a, ns, k, rfl, hS, hk, q⟩ := h
    refine ⟨_, (pss_cons (ps_set (i := 2) sc_law_dice.nd rfl (Or.inl rfl) (pe_ifExp (pt_cmpR op_lt (pv 1) (pe_callB call_lenQ (by rfl) T.n_len (by decide +kernel) (pa_cons (pv 0) pa_nil)) (nomark _)) (pe_ix ix_list (pv 0) (pv 1) (fun _ _ => rfl)) (pe_op op_add (pe_op op_mul pe_int (pv 1)) pe_int)))
      (pss_cons (ps_set (i := 3) sc_law_dice.nd rfl (Or.inl rfl) (pe_op op_mod (pe_callTy call_intI (by rfl) T.n_int (by decide +kernel) (pa_cons (pe_callB call_abs (by rfl) T.n_abs (by decide +kernel) (pa_cons (pv 2) pa_nil)) pa_nil)) (pe_op op_powW (pe_op op_pow pe_int pe_int) pe_int)))
      (pss_one (ps_ret (pe_lst (pa_cons (pe_ifExp (pt_cmpR op_ge (pv 3) (pe_op op_pow pe_int pe_int) (nomark _)) (pv 3) pe_int) (pa_cons (pe_op op_add (pe_op op_add (pe_op op_add (pe_op op_mul pe_int (pv 3)) (pe_callTy call_intB (by rfl) T.n_int (by decide +kernel) (pa_cons (pe_cmpR op_lt (pv 2) pe_int (nomark _)) pa_nil))) (pe_op op_mul pe_int (pv 1))) pe_int) (pa_cons pe_int pa_nil)))))))), ?_⟩
    walk_at "rd"
    have big : ((10 : Int) ^ Int.toNat 57).natAbs < 2 ^ 192 := by decide +kernel
    have pw : CPowW ((10 : Int) ^ Int.toNat 57) 11 := ⟨by decide, by
      have := bits_le big (by decide)
      omega⟩
    have pos : (0 : Int) < ((10 : Int) ^ Int.toNat 57) ^ Int.toNat 11 := by decide +kernel
    have all : ∀ i : Int, CPow 10 57 ∧ CPowW (10 ^ Int.toNat 57) 11 ∧ 0 < ((10 : Int) ^ Int.toNat 57) ^ Int.toNat 11 ∧ CPow 10 18 := fun i =>
      ⟨⟨by decide, by decide, by decide⟩, pw, pos, ⟨by decide, by decide, by decide⟩⟩
    have m1 : ∀ j : Int, CMul 2 j := fun j => .inl ⟨by decide, by decide⟩
    have m2 : ∀ j : Int, CMul 131071 j := fun j => .inl ⟨by decide, by decide⟩
    refine lenL hS ?_
    walk_at "rd"
    refine ite2 (fun h1 => ?_) (fun h1 => ?_)
    · have h2 : k < ns.length := by
        have := of_decide_eq_true h1
        rw [List.length_map] at this
        omega
      refine ixl_nat hS (by rw [List.getElem?_map, List.getElem?_eq_getElem h2]; rfl) ?_
      walk_at "rd"
      exact ⟨(all 0).1, pw, pos, (all 0).2.2.2, ite2 (fun _ => ⟨m1 _, m2 _, by decide, fun p hp => q p _ _ _ hp⟩) (fun _ => ⟨m1 _, m2 _, by decide, fun p hp => q p _ _ _ hp⟩)⟩
    · exact ⟨.inl ⟨by decide, by decide⟩, (all 0).1, pw, pos, (all 0).2.2.2, ite2 (fun _ => ⟨m1 _, m2 _, by decide, fun p hp => q p _ _ _ hp⟩) (fun _ => ⟨m1 _, m2 _, by decide, fun p hp => q p _ _ _ hp⟩)⟩
/-- _law_roll: a number below the bound -/
def sp_law_roll : Sp := fun vs H Q _ => ∃ (d : Addr) (n : Int), vs = [.ref d, .int n] ∧ 0 < n ∧ n < 1073741824 ∧ Dc H d ∧
  ∀ r x y z : Int, 0 ≤ r → r < n → Q (.int r) (upd H d (.lst [.int x, .int y, .int z]))
theorem ok_law_roll (T : Tx K mg) : FnOk P w K mg base CX0 1 T.f__law_roll T.d__law_roll ["_law_dice_here", "_law_upto"] sp_law_roll := by
  refine T.F__law_roll.ok sc_law_roll (fun vs H Q E h => ?_) (fun cdv A outer s H vs Q E hr h => ?_)
  · obtain ⟨d, n, rfl, _⟩ := h
    rfl
  · obtain ⟨d, n, rfl, h0, h1, ⟨x, y, z, hd⟩, q⟩ := h
    refine ⟨_, (pss_cons (ps_if (pt_cmpR op_gt (pe_ix ix_list (pv 0) pe_int (fun _ _ => rfl)) pe_int (nomark _)) (pss_cons (ps_set (i := 2) sc_law_roll.nd rfl (Or.inl rfl) (pe_op op_mod (pe_callTy call_intI (by rfl) T.n_int (by decide +kernel) (pa_cons (pe_ix ix_list (pv 0) pe_int (fun _ _ => rfl)) pa_nil)) (pv 1)))
      (pss_cons (ps_asg (pe_op op_fdiv (pe_ix ix_list (pv 0) pe_int (fun _ _ => rfl)) (pv 1)) (pg_sub (pv 0) pe_int set_list))
      (pss_one (ps_ret (pv 2))))) pss_nil)
      (pss_cons (ps_asg (pe_op op_add (pe_ix ix_list (pv 0) pe_int (fun _ _ => rfl)) pe_int) (pg_sub (pv 0) pe_int set_list))
      (pss_cons (ps_set (i := 3) sc_law_roll.nd rfl (Or.inl rfl) (pe_op op_mod (pe_callTy call_intI (by rfl) T.n_int (by decide +kernel) (pa_cons (pe_op op_add (pe_op op_mul (pe_ix ix_list (pv 0) pe_int (fun _ _ => rfl)) pe_int) (pe_op op_mul (pe_ix ix_list (pv 0) pe_int (fun _ _ => rfl)) pe_int)) pa_nil)) pe_int))
      (pss_cons (ps_set (i := 4) sc_law_roll.nd rfl (Or.inl rfl) (pe_op op_mod (pe_callTy call_intI (by rfl) T.n_int (by decide +kernel) (pa_cons (pe_op op_add (pe_op op_mul (pv 3) (pv 3)) (pe_op op_mul (pe_ix ix_list (pv 0) pe_int (fun _ _ => rfl)) pe_int)) pa_nil)) pe_int))
      (pss_one (ps_ret (pe_op op_mod (pe_callTy call_intI (by rfl) T.n_int (by decide +kernel) (pa_cons (pe_op op_fdiv (pe_op op_mod (pe_callTy call_intI (by rfl) T.n_int (by decide +kernel) (pa_cons (pe_op op_add (pe_op op_mul (pv 4) (pv 4)) (pv 3)) pa_nil)) pe_int) pe_int) pa_nil)) (pv 1)))))))), ?_⟩
    walk_at "rd"
    have b1 := Int.emod_nonneg
    refine ixl (.inl (.inl hd)) rfl ?_
    walk_at "rd"
    refine ite2 (fun hx => ?_) (fun hx => ?_)
    · refine ixl (.inl (.inl hd)) rfl ?_
      walk_at "rd"
      refine ⟨h0, ixl (.inl (.inl hd)) rfl ?_⟩
      walk_at "rd"
      refine ⟨⟨h0, h1⟩, setl hd rfl ?_⟩
      exact q _ _ _ _ (Int.emod_nonneg _ (by omega)) (Int.emod_lt_of_pos _ h0)
    · refine ixl (.inl (.inl hd)) rfl ?_
      walk_at "rd"
      refine setl hd rfl ?_
      refine ixl (.inl (.inl upd_same)) rfl ?_
      walk_at "rd"
      refine ⟨.inr ⟨by decide, by decide⟩, ixl (.inl (.inl upd_same)) rfl ?_⟩
      walk_at "rd"
      refine ⟨.inr ⟨by decide, by decide⟩, by decide, ?_⟩
      generalize hone : (y * 25214903917 + (z + 1) * 40692) % 2305843009213693951 = one
      have o1 : 0 ≤ one := hone ▸ Int.emod_nonneg _ (by decide)
      have o2 : one < 2305843009213693951 := hone ▸ Int.emod_lt_of_pos _ (by decide)
      refine ⟨.inl ⟨by omega, by omega⟩, ixl (.inl (.inl upd_same)) rfl ?_⟩
      walk_at "rd"
      refine ⟨.inr ⟨by decide, by decide⟩, by decide, ?_⟩
      generalize htwo : (one * one + (z + 1) * 69621) % 1152921504606846883 = two
      have t1 : 0 ≤ two := htwo ▸ Int.emod_nonneg _ (by decide)
      have t2 : two < 1152921504606846883 := htwo ▸ Int.emod_lt_of_pos _ (by decide)
      refine ⟨.inl ⟨by omega, by omega⟩, by decide, ⟨by decide, by decide⟩, h0, ?_⟩
      exact q _ _ _ _ (Int.emod_nonneg _ (by omega)) (Int.emod_lt_of_pos _ h0)
/-- _law_pick: one of the items -/
def sp_law_pick (K : PySem.W.Frag) : Sp := fun vs H Q _ => ∃ (d : Addr) (v : V), vs = [.ref d, v] ∧ Dc H d ∧
  ((∃ (p : Addr) (xs : List V), v = .ref p ∧ p ≠ d ∧ SqL K H p xs ∧ xs ≠ [] ∧ xs.length < 1073741824 ∧ ∀ y H', y ∈ xs → Gr d H H' → Q y H') ∨
   ∃ z : Str, v = .str z ∧ z.length ≤ sizeLine ∧ 0 < z.length ∧ z.length < 1073741824 ∧ ∀ c H', c ∈ z.cps.toList → Gr d H H' → Q (.str ⟨#[c]⟩) H')
theorem ok_law_pick (T : Tx K mg) : FnOk P w K mg base CX0 2 T.f__law_pick T.d__law_pick ["_law_dice_here", "_law_items"] (sp_law_pick K) := by
  refine T.F__law_pick.ok sc_law_pick (fun vs H Q E h => ?_) (fun cdv A outer s H vs Q E hr h => ?_)
  · obtain ⟨d, v, rfl, _⟩ := h
    rfl
  · obtain ⟨d, v, rfl, hd, h⟩ := h
    refine ⟨_, (pss_one (ps_ret (pe_ix ix_seq (pv 1) (pe_call (ok_law_roll T) (hr.mono (by decide)) (by rfl) T.g__law_roll T.F__law_roll.kp T.b__law_roll .nil pass0 (pa_cons (pv 0) (pa_cons (pe_callB call_len (by rfl) T.n_len (by decide +kernel) (pa_cons (pv 1) pa_nil)) pa_nil))) (fun _ _ => rfl)))), ?_⟩
    walk_at "rd"
    rcases h with ⟨p, xs, rfl, ne, hS, hne, hlen, q⟩ | ⟨z, rfl, hz, h0, h1, q⟩
    · have hpos : 0 < xs.length := List.length_pos_iff.mpr hne
      refine ⟨xs.length, .inl ⟨xs, hS, rfl⟩, d, _, rfl, by omega, by omega, hd, fun r x y z r0 r1 => ?_⟩
      obtain ⟨j, rfl⟩ := Int.eq_ofNat_of_zero_le r0
      have hj : j < xs.length := by omega
      have g : Gr d H _ := Gr.roll (x := x) (y := y) (z := z) hd
      exact .inl ⟨p, xs, _, xs[j], rfl, rfl, g.sql ne hS, atI_nat (List.getElem?_eq_getElem hj), q _ _ (List.getElem_mem hj) g⟩
    · refine ⟨z.length, ⟨hz, rfl⟩, d, _, rfl, by omega, by omega, hd, fun r x y z' r0 r1 => ?_⟩
      obtain ⟨j, rfl⟩ := Int.eq_ofNat_of_zero_le r0
      have hj : j < z.cps.toList.length := by
        have : (j : Int) < (z.cps.size : Nat) := r1
        rw [Array.length_toList]
        omega
      have g : Gr d H _ := Gr.roll (x := x) (y := y) (z := z') hd
      exact .inr (.inr ⟨z, _, z.cps.toList[j], rfl, rfl, hz, atI_nat (List.getElem?_eq_getElem hj), q _ _ (List.getElem_mem hj) g⟩)
/-- _law_some of a text: signs of it, some of them -/
def sp_law_some : Sp := fun vs H Q _ => ∃ (d : Addr) (z : Str) (n : Int), vs = [.ref d, .str z, .int n] ∧ Dc H d ∧ 0 ≤ n ∧ z.length ≤ 1000 ∧
  ∀ p H' (ys : List V), Gr d H H' → H p = none → p ≠ d → H' p = some (.lst ys) → (∀ y ∈ ys, y ∈ sgs z) → ys.length = min n.toNat z.length → Q (.ref p) H'
def inv_some (d l p : Addr) (z : Str) (n : Int) (H : Hp) : Nat → L2.St → Hp → Prop := fun i σ H' =>
  ∃ (x5 : Option V) (ls fs : List V), σ = [some (.ref d), some (.str z), some (.int n), some (.ref l), some (.ref p), x5] ∧ Gr d H H' ∧
      H' l = some (.lst ls) ∧ H' p = some (.lst fs) ∧ ls.length + i = z.length ∧ fs.length = i ∧ (∀ y ∈ ls, y ∈ sgs z) ∧ ∀ y ∈ fs, y ∈ sgs z
theorem ok_law_some (T : Tx K mg) : FnOk P w K mg base CX0 2 T.f__law_some T.d__law_some ["_law_dice_here", "_law_items", "_law_many"] sp_law_some := by
  refine T.F__law_some.ok sc_law_some (fun vs H Q E h => ?_) (fun cdv A outer s H vs Q E hr h => ?_)
  · obtain ⟨d, v, n, rfl, _⟩ := h
    rfl
  · obtain ⟨d, z, n, rfl, hd, hn, hz, q⟩ := h
    refine ⟨_, (pss_cons (ps_par (i := 3) (j := 4) (by rfl) sc_law_some.nd rfl rfl (by decide) rfl rfl (pa_cons (pe_callTy (call_listS rfl) (by rfl) T.n_list (by decide +kernel) (pa_cons (pv 1) pa_nil)) (pa_cons (pe_lst pa_nil) pa_nil)) (by rfl))
      (pss_cons (ps_for PassesOwn.never rfl (pi_range1 (by rfl) T.n_range (pa_cons (pe_callB (call_min2 rfl) (by rfl) T.n_min (by decide +kernel) (pa_cons (pv 2) (pa_cons (pe_callB call_lenQ (by rfl) T.n_len (by decide +kernel) (pa_cons (pv 3) pa_nil)) pa_nil))) pa_nil)) (pg_name (i := 5) sc_law_some.nd rfl (Or.inl rfl)) (pss_one (ps_expr (pe_bm PySem.F.plainAttrs_list PySem.F.slot_list_append PySem.F.type_list_append mt_append (pv 4) (pa_cons (pe_bm PySem.F.plainAttrs_list PySem.F.slot_list_pop PySem.F.type_list_pop mt_popAt (pv 3) (pa_cons (pe_call (ok_law_roll T) (hr.mono (by decide)) (by rfl) T.g__law_roll T.F__law_roll.kp T.b__law_roll .nil pass0 (pa_cons (pv 0) (pa_cons (pe_callB call_lenQ (by rfl) T.n_len (by decide +kernel) (pa_cons (pv 3) pa_nil)) pa_nil))) pa_nil)) pa_nil)))))
      (pss_one (ps_ret (pv 4))))), ?_⟩
    walk_at "rd"
    refine ⟨sz100 (by omega), fun l hl => ⟨by decide, fun p hp => ?_⟩⟩
    have npl : p ≠ l := fun e => by
      rw [e, upd_same] at hp
      cases hp
    have nl : l ≠ d := hd.ne hl
    have hp0 : H p = none := by
      rw [upd_ne npl] at hp
      exact hp
    have np : p ≠ d := hd.ne hp0
    have hlen : (sgs z).length = z.length := by
      unfold sgs
      rw [List.length_map, Array.length_toList]
      rfl
    refine lenL (xs := sgs z) (sql_of (by rw [upd_ne npl.symm, upd_same])) ?_
    walk_at "rd"
    rw [hlen]
    have em : (if (z.length : Int) < n then (z.length : Int) else n).toNat = min n.toNat z.length := by
      split <;> omega
    refine ⟨by split <;> omega, by split <;> omega, ?_⟩
    rw [em]
    refine forB walk_range (inv_some d l p z n H) ?_ (fun _ _ _ _ _ => trivial) ?_ ?_
    · refine ⟨none, sgs z, [], rfl, ?_, ?_, upd_same, by omega, rfl, fun y h => h, fun y h => nomatch h⟩
      · exact ((Gr.new hd hl).mut hp0 np)
      · rw [upd_ne npl.symm, upd_same]
    · rintro i x σ H1 H2 hi ⟨x5, ls, fs, rfl, g, h1, h2, e1, e2, m1, m2⟩ ⟨rfl, rfl⟩
      walk_at "rd"
      refine ⟨tyl (sql_of h2), tyl (sql_of h1), lenL (sql_of h1) ?_⟩
      refine ⟨d, _, rfl, by omega, by omega, g.dice, fun r x y w r0 r1 => ?_⟩
      obtain ⟨j, rfl⟩ := Int.eq_ofNat_of_zero_le r0
      have hj : j < ls.length := by omega
      have g2 : Gr d H2 (upd H2 d (.lst [.int x, .int y, .int w])) := Gr.roll g.dice
      refine ⟨l, ls, _, j, ls[j], rfl, rfl, g2.keep _ _ nl h1, by omega, ?_, seqIx hj, List.getElem?_eq_getElem hj, ?_⟩
      · omega
      refine ⟨p, fs, ls[j], rfl, rfl, ?_, sz100' (by omega), ?_⟩
      · rw [upd_ne npl]
        exact g2.keep _ _ np h2
      · refine ⟨_, ls.eraseIdx j, fs ++ [ls[j]], rfl, ((g.trans g2).mut hl nl).mut hp0 np, ?_, upd_same, ?_, ?_, ?_, ?_⟩
        · rw [upd_ne npl.symm, upd_same]
        · rw [List.length_eraseIdx, if_pos hj]
          omega
        · rw [List.length_append, e2]
          rfl
        · intro y hy
          exact m1 y (List.mem_of_mem_eraseIdx hy)
        · intro y hy
          rcases List.mem_append.mp hy with hy | hy
          · exact m2 y hy
          · rw [List.mem_singleton.mp hy]
            exact m1 _ (List.getElem_mem hj)
    · rintro σ H1 ⟨x5, ls, fs, rfl, g, h1, h2, e1, e2, m1, m2⟩
      walk_at "rd"
      exact q p H1 fs g hp0 np h2 m2 e2
end

section
variable {P : Program} {w : World} {K : PySem.W.Frag} {mg : Str → Option Value} {base : Heap}
abbrev abc : Str := "abcdefghijklmnopqrstuvwxyz"
def sp_law_names : Sp := fun vs H Q _ => ∃ (d : Addr) (n : Int), vs = [.ref d, .int n] ∧ Dc H d ∧ 0 ≤ n ∧
  ∀ p H' (ws : List Str), Gr d H H' → H p = none → p ≠ d → H' p = some (.lst (ws.map V.str)) → (∀ w ∈ ws, isNm w = true) → ws.length = min n.toNat 26 → Q (.ref p) H'
def inv_names (d l p : Addr) (n : Int) (ys : List V) (H : Hp) : Nat → L2.St → Hp → Prop := fun i σ H' =>
  ∃ (x4 x5 x6 x7 : Option V) (ws : List Str), σ = [some (.ref d), some (.int n), some (.ref p), some (.str abc), x4, x5, x6, x7] ∧ Gr d H H' ∧
      H' l = some (.lst ys) ∧ H' p = some (.lst (ws.map V.str)) ∧ ws.length = i ∧ ∀ w ∈ ws, isNm w = true
theorem abc_low : ∀ c ∈ abc.cps.toList, lowC c = true := by decide +kernel
theorem isNm_of {z : Str} (h1 : 1 ≤ z.length) (h2 : z.length ≤ 8) (h3 : inV (.str z) [.str "gives", .str "to"] = false) (h4 : ∀ c ∈ TL.tl z, lowC c = true) : isNm z = true := by
  unfold isNm
  rw [decide_eq_true (show (1 : Int) ≤ z.length by omega), decide_eq_true (show (z.length : Int) ≤ 8 by omega), h3, show z.cps.toList.all lowC = true from List.all_eq_true.mpr h4]
  rfl
theorem isNm_one : ∀ c ∈ abc.cps.toList, isNm (sg c) = true := by decide +kernel
theorem ok_law_names (T : Tx K mg) : FnOk P w K mg base CX0 3 T.f__law_names T.d__law_names ["_law_dice_here", "_law_many"] sp_law_names := by
  refine T.F__law_names.ok sc_law_names (fun vs H Q E h => ?_) (fun cdv A outer s H vs Q E hr h => ?_)
  · obtain ⟨d, n, rfl, _⟩ := h
    rfl
  · obtain ⟨d, n, rfl, hd, hn, q⟩ := h
    refine ⟨_, (pss_cons (ps_asg (pe_tup (pa_cons (pe_lst pa_nil) (pa_cons pe_str pa_nil))) (pg_tup rfl (pgs_cons (pg_name (i := 2) sc_law_names.nd rfl (Or.inl rfl)) (pgs_cons (pg_name (i := 3) sc_law_names.nd rfl (Or.inr rfl)) pgs_nil))))
      (pss_cons (ps_for PassesOwn.never rfl (pi_list (pe_call (ok_law_some T) (hr.mono (by decide)) (by rfl) T.g__law_some T.F__law_some.kp T.b__law_some .nil pass0 (pa_cons (pv 0) (pa_cons (pv 3) (pa_cons (pv 1) pa_nil))))) (pg_name (i := 4) sc_law_names.nd rfl (Or.inl rfl)) (pss_cons (ps_set (i := 5) sc_law_names.nd rfl (Or.inl rfl) (pe_call (ok_law_pick T) (hr.mono (by decide)) (by rfl) T.g__law_pick T.F__law_pick.kp T.b__law_pick .nil pass0 (pa_cons (pv 0) (pa_cons (pe_lst (pa_cons pe_int (pa_cons pe_int (pa_cons pe_int (pa_cons pe_int (pa_cons pe_int (pa_cons pe_int (pa_cons pe_int (pa_cons pe_int pa_nil))))))))) pa_nil))))
      (pss_cons (ps_set (i := 6) sc_law_names.nd rfl (Or.inl rfl) (pe_op op_add_str (pv 4) (pe_joinN pe_str (pe_lc (own := [("_law_turn", 7)]) (g := gName 7) (by rfl) sc_law_names.nd (pi_range1 (by rfl) T.n_range (pa_cons (pv 5) pa_nil)) (blkOk_by (own := [("_law_turn", 7)]) (N := ["_law_dice_here", "_law_many", "_law_found", "_law_letters", "_law_letter", "_law_more", "_law_word", "_law_turn"]) (sc := defScope s_law_names) (by decide +kernel)) (fun _ _ _ _ _ => (pg_name (i := 7) sc_law_names.nd rfl (Or.inl rfl))) (fun _ _ _ _ _ => pts_nil) (fun _ _ _ _ _ => (pe_call (ok_law_pick T) (hr.mono (by decide)) (by rfl) T.g__law_pick T.F__law_pick.kp T.b__law_pick .nil pass0 (pa_cons (pv 0) (pa_cons (pv 3) pa_nil))))))))
      (pss_one (ps_expr (pe_bm PySem.F.plainAttrs_list PySem.F.slot_list_append PySem.F.type_list_append mt_append (pv 2) (pa_cons (pe_ifExp (pt_cmpR op_in_seq (pv 6) (pe_tup (pa_cons pe_str (pa_cons pe_str pa_nil))) (by rfl)) (pv 4) (pv 6)) pa_nil)))))))
      (pss_one (ps_ret (pv 2))))), ?_⟩
    walk_at "rd"
    refine ⟨by decide, fun p hp => ⟨by decide, fun t ht => ⟨t, _, rfl, sqt_of upd_same, rfl, ?_⟩⟩⟩
    walk_at "rd"
    have np : p ≠ d := hd.ne hp
    have ntp : t ≠ p := fun e => by
      rw [e, upd_same] at ht
      cases ht
    have ht0 : H t = none := by
      rw [upd_ne ntp] at ht
      exact ht
    have g0 : Gr d H (upd (upd H p (.lst [])) t (.tup [.ref p, .str abc])) := (Gr.new hd hp).mut ht0 (hd.ne ht0)
    refine ⟨d, abc, n, rfl, g0.dice, hn, by decide +kernel, fun l H1 ys g1 hl nl h1 hy hlen => ?_⟩
    walk_at "rd"
    have npl : p ≠ l := fun e => by
      rw [← e, upd_ne ntp.symm, upd_same] at hl
      cases hl
    have hl0 : H l = none := g0.back hl
    refine ⟨⟨ys, sql_of h1⟩, forB (walk_list (xs := ys)) (inv_names d l p n ys H) ?_ ?_ ?_ ?_⟩
    · refine ⟨none, none, none, none, [], rfl, g0.trans g1, h1, g1.keep _ _ np ?_, rfl, fun w h => nomatch h⟩
      rw [upd_ne ntp.symm, upd_same]
      rfl
    · rintro i σ H2 _ ⟨x4, x5, x6, x7, ws, rfl, g, e1, e2, e3, e4⟩
      exact sql_of e1
    · rintro i x σ H2 H3 hi ⟨x4, x5, x6, x7, ws, rfl, g, e1, e2, e3, e4⟩ ⟨rfl, hx⟩
      have hys : ys.length ≤ 26 := by
        have : abc.length = 26 := by decide +kernel
        omega
      have hm := hy x (List.mem_of_getElem? hx)
      obtain ⟨c, hc, rfl⟩ := List.mem_map.mp hm
      walk_at "rd"
      refine ⟨by decide, fun r hr => ?_⟩
      have nr : r ≠ d := g.dice.ne hr
      refine ⟨d, _, rfl, (Gr.new g.dice hr).dice, .inl ⟨r, _, rfl, nr, sql_of upd_same, by simp, by decide, fun y H4 hy4 g4 => ?_⟩⟩
      have hy5 : ∃ k : Nat, y = .int k ∧ k ≤ 7 := by
        simp only [List.mem_cons, List.not_mem_nil, or_false] at hy4
        rcases hy4 with h | h | h | h | h | h | h | h <;> subst h
        · exact ⟨0, rfl, by decide⟩
        · exact ⟨0, rfl, by decide⟩
        · exact ⟨0, rfl, by decide⟩
        · exact ⟨0, rfl, by decide⟩
        · exact ⟨1, rfl, by decide⟩
        · exact ⟨2, rfl, by decide⟩
        · exact ⟨4, rfl, by decide⟩
        · exact ⟨7, rfl, by decide⟩
      obtain ⟨m, rfl, hm7⟩ := hy5
      have g5 := ((Gr.new g.dice hr).trans g4)
      walk_at "rd"
      refine ⟨⟨_, rfl⟩, by omega, by omega, ?_⟩
      refine lc_gr walk_range (fun _ y => ∃ c, y = V.str (sg c) ∧ c ∈ abc.cps.toList) (sz100 (by omega)) g5.dice (fun _ _ => trivial) ?_ mono_name mono_yes ?_
      · rintro i2 x2 H5 H6 hi2 g6 ⟨rfl, rfl⟩ R hR
        walk_at "rd"
        refine ⟨d, _, rfl, g6.dice, .inr ⟨abc, rfl, by decide +kernel, by decide +kernel, by decide +kernel, fun c H7 hc g7 => hR _ _ ⟨c, rfl, hc⟩ g7⟩⟩
      · intro H5 D zs g6 hD nD hzl hzs hL
        obtain ⟨cs, rfl, hcl, hcs⟩ := ex_cs (P := fun c => c ∈ abc.cps.toList) fun i y hy => hzs i y hy
        have htl : TL.tl (sg c ++ Txt.join (Str.ofString "") (cs.map sg)) = c :: cs := by
          rw [TL.tl_append, tl_joinSg]
          rfl
        have hwl : (sg c ++ Txt.join (Str.ofString "") (cs.map sg)).length = 1 + cs.length := by
          rw [len_tl, htl, List.length_cons]
          omega
        have hjl : (Txt.join (Str.ofString "") (cs.map sg)).length = cs.length := by
          rw [len_tl, tl_joinSg]
        have hc7 : cs.length ≤ 7 := by
          rw [hcl, hzl]
          omega
        have hp5 : H5 p = some (.lst (ws.map V.str)) := g6.keep _ _ np (g5.keep _ _ np e2)
        refine joinL' (sql_of hL) ?_ ?_
        · rw [sum_ones, show (Str.ofString "").length = 0 from rfl]
          omega
        walk_at "rd"
        refine ⟨?_, tyl (sql_of hp5), by decide, fun t2 ht2 => ⟨t2, _, rfl, .inr (sqt_of upd_same), rfl, rfl, _, rfl, ?_⟩⟩
        · rw [hjl]
          show 1 + cs.length ≤ sizeLine
          exact sz100 (by omega)
        have gH : Gr d H H5 := (g.trans g5).trans g6
        have ht20 : H t2 = none := gH.back ht2
        have nt2 : t2 ≠ d := hd.ne ht20
        have nt2p : p ≠ t2 := fun e => by
          rw [← e, hp5] at ht2
          cases ht2
        have nt2l : l ≠ t2 := fun e => by
          rw [← e, g6.keep _ _ nl (g5.keep _ _ nl e1)] at ht2
          cases ht2
        have gH2 : Gr d H (upd H5 t2 (.tup [.str (Str.ofString "to"), .str (Str.ofString "gives")])) := gH.mut ht20 nt2
        have hp6 : (upd H5 t2 (.tup [.str (Str.ofString "to"), .str (Str.ofString "gives")])) p = some (.lst (ws.map V.str)) := by
          rw [upd_ne nt2p]
          exact hp5
        have hcl' : lowC c = true := abc_low c hc
        have fin : ∀ wd : Str, isNm wd = true → ∀ x6 x7, rAppend (V.ref p) [V.str wd] (upd H5 t2 (.tup [.str (Str.ofString "to"), .str (Str.ofString "gives")])) fun x H1 =>
            inv_names d l p n ys H (i + 1) [some (V.ref d), some (V.int n), some (V.ref p), some (V.str abc), some (V.str (sg c)), some (V.int m), x6, x7] H1 := by
          intro wd hw x6 x7
          refine ⟨p, _, _, rfl, rfl, hp6, by rw [List.length_map]; exact sz100' (by omega), some (.str (sg c)), some (.int m), x6, x7, ws ++ [wd], rfl, gH2.mut hp np, ?_, ?_, ?_, ?_⟩
          · rw [upd_ne npl.symm, upd_ne nt2l]
            exact g6.keep _ _ nl (g5.keep _ _ nl e1)
          · rw [upd_same, List.map_append]
            rfl
          · rw [List.length_append, e3]
            rfl
          · intro w hw2
            rcases List.mem_append.mp hw2 with h | h
            · exact e4 w h
            · rw [List.mem_singleton.mp h]
              exact hw
        refine ite2 (fun h => fin _ (isNm_one c hc) _ _) (fun h => fin _ ?_ _ _)
        refine isNm_of (Nat.le_trans (Nat.le_add_right 1 cs.length) (Nat.le_of_eq hwl.symm)) (Nat.le_trans (Nat.le_of_eq hwl) (by omega)) ?_ ?_
        · rw [inV_swap]
          simpa using h
        · rw [htl]
          intro x hx
          rcases List.mem_cons.mp hx with rfl | hx
          · exact hcl'
          · exact abc_low x (hcs x hx)
    · rintro σ H2 ⟨x4, x5, x6, x7, ws, rfl, g, e1, e2, e3, e4⟩
      walk_at "rd"
      have : abc.length = 26 := by decide +kernel
      exact q p H2 ws g hp np e2 e4 (by rw [e3, hlen, this])
def sp_law_odd_sign : Sp := fun vs H Q _ => ∃ (d : Addr), vs = [.ref d] ∧ Dc H d ∧ ∀ c H', lowC c = false → Gr d H H' → Q (.str ⟨#[c]⟩) H'
theorem ok_law_odd_sign (T : Tx K mg) : FnOk P w K mg base CX0 3 T.f__law_odd_sign T.d__law_odd_sign ["_law_dice_here"] sp_law_odd_sign := by
  refine T.F__law_odd_sign.ok sc_law_odd_sign (fun vs H Q E h => ?_) (fun cdv A outer s H vs Q E hr h => ?_)
  · obtain ⟨d, rfl, _⟩ := h
    rfl
  · obtain ⟨d, rfl, hd, q⟩ := h
    refine ⟨_, (pss_one (ps_ret (pe_call (ok_law_pick T) (hr.mono (by decide)) (by rfl) T.g__law_pick T.F__law_pick.kp T.b__law_pick .nil pass0 (pa_cons (pv 0) (pa_cons pe_str pa_nil))))), ?_⟩
    walk_at "rd"
    refine ⟨d, _, rfl, hd, .inr ⟨_, rfl, by decide +kernel, by decide +kernel, by decide +kernel, fun c H' hc g => q c H' ?_ g⟩⟩
    revert c
    decide +kernel
end

section
variable {P : Program} {w : World} {K : PySem.W.Frag} {mg : Str → Option Value} {base : Heap}
theorem pick_new {H : Hp} {d p : Addr} {xs : List V} {Q : VK} {E : XK} (hd : Dc H d) (hp : H p = none) (hne : xs ≠ []) (hl : xs.length < 1073741824)
    (q : ∀ y H', y ∈ xs → Gr d H H' → Q y H') : sp_law_pick K [.ref d, .ref p] (upd H p (.lst xs)) Q E :=
  ⟨d, _, rfl, (Gr.new hd hp).dice, .inl ⟨p, xs, rfl, hd.ne hp, sql_of upd_same, hne, hl, fun y H' hy g => q y H' hy ((Gr.new hd hp).trans g)⟩⟩
theorem roll_new {H : Hp} {d : Addr} {n : Int} {Q : VK} {E : XK} (hd : Dc H d) (h0 : 0 < n) (h1 : n < 1073741824)
    (q : ∀ (r : Int) H', 0 ≤ r → r < n → Gr d H H' → Q (.int r) H') : sp_law_roll [.ref d, .int n] H Q E :=
  ⟨d, n, rfl, h0, h1, hd, fun r x y z a b => q r _ a b (Gr.roll hd)⟩
theorem isint {H : Hp} {v : V} {t : String} {Q : VK} {E : XK} (k : Kn H v t) (q : Q (.bl (intV v)) H) : sp_is_integer [v] H Q E := ⟨v, t, rfl, k, q⟩
def sp_right : Sp := fun vs H Q _ => ∃ (d : Addr), vs = [.ref d] ∧ Dc H d ∧ ∀ H', Gr d H H' → Q (.bl true) H'
theorem ok_law_integers_right (T : Tx K mg) : FnG P w K mg base CX0 4 T.f__law_integers_right T.d__law_integers_right ["_law_dice_here"] sp_right := by
  refine okG T.F__law_integers_right sc_law_integers_right (fun vs H Q E h => ?_) (fun cdv A outer s H vs Q E hgd hr h => ?_)
  · obtain ⟨d, rfl, _⟩ := h
    rfl
  · obtain ⟨d, rfl, hd, q⟩ := h
    refine ⟨_, (pss_cons (ps_set (i := 1) sc_law_integers_right.nd rfl (Or.inl rfl) (pe_op op_pow pe_int pe_int))
      (pss_cons (ps_set (i := 2) sc_law_integers_right.nd rfl (Or.inl rfl) (pe_call (ok_law_pick T) (hr.mono (by decide)) (by rfl) T.g__law_pick T.F__law_pick.kp T.b__law_pick .nil pass0 (pa_cons (pv 0) (pa_cons (pe_lst (pa_cons pe_int (pa_cons pe_int (pa_cons pe_int (pa_cons pe_int (pa_cons pe_int (pa_cons (pe_op op_pow pe_int pe_int) (pa_cons (pe_op op_pow pe_int pe_int) (pa_cons (pe_op op_pow pe_int pe_int) (pa_cons (pe_op op_sub (pv 1) pe_int) (pa_cons (pv 1) (pa_cons (pe_op op_mul (pv 1) pe_int) pa_nil)))))))))))) pa_nil))))
      (pss_cons (ps_set (i := 2) sc_law_integers_right.nd rfl (Or.inl rfl) (pe_op op_add (pv 2) (pe_call (ok_law_roll T) (hr.mono (by decide)) (by rfl) T.g__law_roll T.F__law_roll.kp T.b__law_roll .nil pass0 (pa_cons (pv 0) (pa_cons pe_int pa_nil)))))
      (pss_cons (ps_set (i := 3) sc_law_integers_right.nd rfl (Or.inl rfl) (pe_op op_mul (pv 2) (pe_call (ok_law_pick T) (hr.mono (by decide)) (by rfl) T.g__law_pick T.F__law_pick.kp T.b__law_pick .nil pass0 (pa_cons (pv 0) (pa_cons (pe_lst (pa_cons pe_int (pa_cons (pe_un un_neg pe_int) pa_nil))) pa_nil)))))
      (pss_cons (ps_set (i := 4) sc_law_integers_right.nd rfl (Or.inl rfl) (pe_call (ok_law_pick T) (hr.mono (by decide)) (by rfl) T.g__law_pick T.F__law_pick.kp T.b__law_pick .nil pass0 (pa_cons (pv 0) (pa_cons (pe_lst (pa_cons pe_non (pa_cons pe_bl (pa_cons pe_bl (pa_cons pe_str (pa_cons pe_str (pa_cons (pe_tup pa_nil) (pa_cons (pe_lst pa_nil) (pa_cons pe_dnewK (pa_cons (pe_tup (pa_cons pe_int pa_nil)) (pa_cons (pe_lst (pa_cons pe_int pa_nil)) (pa_cons pe_str (pa_cons (pv 1) (pa_cons (pe_op op_sub pe_int (pv 1)) pa_nil)))))))))))))) pa_nil))))
      (pss_cons (ps_set (i := 5) sc_law_integers_right.nd rfl (Or.inl rfl) (pe_lst (pa_cons (pe_call (ok_is_integer T) (hr.mono (by decide)) (by rfl) T.g_is_integer T.F_is_integer.kp T.b_is_integer .nil pass0 (pa_cons (pv 3) pa_nil)) (pa_cons (pe_call (ok_is_integer T) (hr.mono (by decide)) (by rfl) T.g_is_integer T.F_is_integer.kp T.b_is_integer .nil pass0 (pa_cons (pv 4) pa_nil)) (pa_cons (pe_call (ok_is_integer T) (hr.mono (by decide)) (by rfl) T.g_is_integer T.F_is_integer.kp T.b_is_integer .nil pass0 (pa_cons (pe_op op_sub (pv 1) pe_int) pa_nil)) (pa_cons (pe_call (ok_is_integer T) (hr.mono (by decide)) (by rfl) T.g_is_integer T.F_is_integer.kp T.b_is_integer .nil pass0 (pa_cons (pe_op op_sub pe_int (pv 1)) pa_nil)) (pa_cons (pe_call (ok_is_integer T) (hr.mono (by decide)) (by rfl) T.g_is_integer T.F_is_integer.kp T.b_is_integer .nil pass0 (pa_cons (pe_callTy call_str_int (by rfl) T.n_str (by decide +kernel) (pa_cons (pv 3) pa_nil)) pa_nil)) pa_nil)))))))
      (pss_one (ps_ret (pe_cmpR op_eq (pe_callB (call_rp hgd hr.units) (by rfl) T.n_repr (by decide +kernel) (pa_cons (pv 5) pa_nil)) (pe_callB (call_rp hgd hr.units) (by rfl) T.n_repr (by decide +kernel) (pa_cons (pe_lst (pa_cons (pe_cmpR op_lt (pv 2) (pv 1) (nomark _)) (pa_cons pe_bl (pa_cons pe_bl (pa_cons pe_bl (pa_cons pe_bl pa_nil)))))) pa_nil)) (nomark _)))))))))), ?_⟩
    walk_at "rd"
    refine ⟨⟨by decide, by decide, by decide⟩, ⟨by decide, by decide, by decide⟩, ⟨by decide, by decide, by decide⟩, ⟨by decide, by decide, by decide⟩, .inr ⟨by decide, by decide⟩, by decide, fun p hp => ?_⟩
    refine pick_new hd hp (by simp) (by simp) fun y H1 hy g1 => ?_
    obtain ⟨i, rfl, hi, hi2⟩ : ∃ i : Int, y = .int i ∧ 0 ≤ i ∧ i ≤ 10 ^ 61 := by
      simp only [List.mem_cons, List.not_mem_nil, or_false] at hy
      rcases hy with h | h | h | h | h | h | h | h | h | h | h <;> exact ⟨_, h, by decide +kernel, by decide +kernel⟩
    refine roll_new g1.dice (by decide) (by decide) fun x H2 hx0 hx9 g2 => ?_
    walk_at "rd"
    refine ⟨by decide, fun p2 hp2 => pick_new g2.dice hp2 (by simp) (by simp) fun y3 H3 hy3 g3 => ?_⟩
    obtain ⟨e, rfl, he⟩ : ∃ e : Int, y3 = .int e ∧ (e = 1 ∨ e = -1) := by
      simp only [List.mem_cons, List.not_mem_nil, or_false] at hy3
      rcases hy3 with h | h
      · exact ⟨_, h, .inl rfl⟩
      · exact ⟨_, h, .inr rfl⟩
    walk_at "rd"
    refine ⟨.inr ⟨by omega, by omega⟩, by decide, fun p4 hp4 => ⟨by decide, ?_⟩⟩
    have s4 := same_new (o := .tup []) hp4
    have f4 : upd H3 p4 (.tup []) p4 = some (.tup []) := upd_same
    generalize upd H3 p4 (.tup []) = H4 at *
    intro p5 hp5
    have s5 := same_new (o := .lst []) hp5
    have f5 : upd H4 p5 (.lst []) p5 = some (.lst []) := upd_same
    generalize upd H4 p5 (.lst []) = H5 at *
    intro p6 hp6
    have s6 := same_new (o := .dK []) hp6
    have f6 : upd H5 p6 (.dK []) p6 = some (.dK []) := upd_same
    generalize upd H5 p6 (.dK []) = H6 at *
    refine ⟨by decide, fun p7 hp7 => ⟨by decide, ?_⟩⟩
    have s7 := same_new (o := .tup [.int 1]) hp7
    have f7 : upd H6 p7 (.tup [.int 1]) p7 = some (.tup [.int 1]) := upd_same
    generalize upd H6 p7 (.tup [.int 1]) = H7 at *
    intro p8 hp8
    have s8 := same_new (o := .lst [.int 1]) hp8
    have f8 : upd H7 p8 (.lst [.int 1]) p8 = some (.lst [.int 1]) := upd_same
    generalize upd H7 p8 (.lst [.int 1]) = H8 at *
    refine ⟨by decide, fun p9 hp9 => ?_⟩
    have sa : Same H3 H8 := (((s4.trans s5).trans s6).trans s7).trans s8
    have g8 : Gr d H3 H8 := Gr.same g3.dice sa
    refine pick_new g8.dice hp9 (by simp) (by simp) fun y9 H9 hy9 g9 => ?_
    obtain ⟨t9, k9, z9⟩ : ∃ t, Kn H9 y9 t ∧ intV y9 = false := by
      simp only [List.mem_cons, List.not_mem_nil, or_false] at hy9
      rcases hy9 with h | h | h | h | h | h | h | h | h | h | h | h | h <;> subst h
      · exact ⟨_, .non, rfl⟩
      · exact ⟨_, .bl _, rfl⟩
      · exact ⟨_, .bl _, rfl⟩
      · exact ⟨_, .str _, rfl⟩
      · exact ⟨_, .str _, rfl⟩
      · exact ⟨_, Kn.gr g9 (.tup ((((s5.trans s6).trans s7).trans s8) _ _ f4)), rfl⟩
      · exact ⟨_, Kn.gr g9 (.lst (((s6.trans s7).trans s8) _ _ f5)), rfl⟩
      · exact ⟨_, Kn.gr g9 (.dK ((s7.trans s8) _ _ f6)), rfl⟩
      · exact ⟨_, Kn.gr g9 (.tup (s8 _ _ f7)), rfl⟩
      · exact ⟨_, Kn.gr g9 (.lst f8), rfl⟩
      · exact ⟨_, .str _, rfl⟩
      · exact ⟨_, .int _, by decide +kernel⟩
      · exact ⟨_, .int _, by decide +kernel⟩
    refine isint (.int _) (isint k9 (isint (.int _) (isint (.int _) ⟨?_, isint (.str _) ⟨by decide, fun pa hpa => ?_⟩⟩)))
    · refine PySem.Flt.log2_lt_of (by decide) (Nat.lt_of_le_of_lt ?_ (show (10 ^ 61 + 9 : Nat) < 2 ^ 1920 by decide +kernel))
      have h61 : ((10 ^ 61 : Nat) : Int) = (10 : Int) ^ 61 := by decide +kernel
      generalize (10 : Int) ^ 61 = B at hi2 h61
      generalize (10 ^ 61 : Nat) = C at h61 ⊢
      rcases he with rfl | rfl <;> omega
    · refine rp_bools [_, _, _, _, _] (sql_of upd_same) (by simp) ⟨by decide, fun pb hpb => rp_bools [_, _, _, _, _] (sql_of upd_same) (by simp) ⟨rfl, ?_⟩⟩
      have e1 : intV (.int ((i + x) * e)) = decide (i + x < 10 ^ Int.toNat 60) := by
        show decide ((if (i + x) * e < 0 then -((i + x) * e) else (i + x) * e) < 10 ^ 60) = decide (i + x < 10 ^ Int.toNat 60)
        rw [show Int.toNat 60 = 60 from rfl]
        congr 1
        have : (if (i + x) * e < 0 then -((i + x) * e) else (i + x) * e) = i + x := by
          rcases he with rfl | rfl <;> split <;> omega
        rw [this]
      have e3 : intV (.int (10 ^ Int.toNat 60 - 1)) = true := by decide +kernel
      have e4 : intV (.int (1 - 10 ^ Int.toNat 60)) = true := by decide +kernel
      have ga : Gr d H H9 := (((g1.trans g2).trans g3).trans g8).trans g9
      refine qeq ?_ (q _ ((ga.trans (Gr.new ga.dice hpa)).trans (Gr.new (Gr.new ga.dice hpa).dice hpb)))
      rw [e1, z9, e3, e4, show intV (V.str (Str.ofString (toString ((i + x) * e)))) = false from rfl]
end

section
variable {P : Program} {w : World} {K : PySem.W.Frag} {mg : Str → Option Value} {base : Heap}
theorem isname {H : Hp} {v : V} {t : String} {Q : VK} {E : XK} (k : Kn H v t) (z : ∀ y, v = .str y → y.length ≤ sizeLine) (q : ∀ H', Same H H' → Q (.bl (nameV v)) H') : sp_is_name [v] H Q E :=
  ⟨v, t, rfl, k, z, q⟩
theorem isnameS {H : Hp} {y : Str} {Q : VK} {E : XK} (z : y.length ≤ sizeLine) (q : ∀ H', Same H H' → Q (.bl (isNm y)) H') : sp_is_name [.str y] H Q E :=
  isname (.str y) (fun x e => by cases e; exact z) q
/-- items of a tuple that are told -/
structure Itm (H : Hp) (xs : List V) : Prop where
  kn : ∀ x ∈ xs, ∃ t, Kn H x t
  sz : ∀ y, V.str y ∈ xs → y.length ≤ sizeLine
theorem Itm.nil {H : Hp} : Itm H [] := ⟨(fun x h => nomatch h), (fun y h => nomatch h)⟩
theorem Itm.cons {H : Hp} {x : V} {xs : List V} {t : String} (k : Kn H x t) (z : ∀ y, x = .str y → y.length ≤ sizeLine) (r : Itm H xs) : Itm H (x :: xs) := by
  refine ⟨fun y h => ?_, fun y h => ?_⟩
  · rcases List.mem_cons.mp h with rfl | h
    · exact ⟨t, k⟩
    · exact r.kn y h
  · rcases List.mem_cons.mp h with h | h
    · exact z y h.symm
    · exact r.sz y h
theorem Itm.str {H : Hp} {y : Str} {xs : List V} (z : y.length ≤ sizeLine) (r : Itm H xs) : Itm H (.str y :: xs) := r.cons (.str y) (fun x e => by cases e; exact z)
theorem Itm.same {H H' : Hp} {xs : List V} (s : Same H H') (r : Itm H xs) : Itm H' xs := ⟨fun x h => (r.kn x h).imp fun _ k => k.same s, r.sz⟩
theorem Itm.gr {d : Addr} {H H' : Hp} {xs : List V} (s : Gr d H H') (r : Itm H xs) : Itm H' xs := ⟨fun x h => (r.kn x h).imp fun _ k => k.gr s, r.sz⟩
theorem istype {H : Hp} {p : Addr} {xs : List V} {Q : VK} {E : XK} (h : H p = some (.tup xs)) (i : Itm H xs) (q : ∀ H', Same H H' → Q (.bl (namesV xs 1 401)) H') : sp_is_type [.ref p] H Q E :=
  ⟨_, xs, true, rfl, .tup h i.kn i.sz, fun H' s => by rw [Bool.true_and]; exact q H' s⟩
theorem isfront {H : Hp} {p : Addr} {xs : List V} {Q : VK} {E : XK} (h : H p = some (.tup xs)) (i : Itm H xs) (q : ∀ H', Same H H' → Q (.bl (namesV xs 0 400)) H') : sp_is_front [.ref p] H Q E :=
  ⟨_, xs, true, rfl, .tup h i.kn i.sz, fun H' s => by rw [Bool.true_and]; exact q H' s⟩
theorem notype {H : Hp} {v : V} {t : String} {Q : VK} {E : XK} (k : Kn H v t) (n : t ≠ "tuple") (q : ∀ H', Same H H' → Q (.bl false) H') : sp_is_type [v] H Q E :=
  ⟨_, [], false, rfl, .oth k n, fun H' s => by rw [Bool.false_and]; exact q H' s⟩
theorem nofront {H : Hp} {v : V} {t : String} {Q : VK} {E : XK} (k : Kn H v t) (n : t ≠ "tuple") (q : ∀ H', Same H H' → Q (.bl false) H') : sp_is_front [v] H Q E :=
  ⟨_, [], false, rfl, .oth k n, fun H' s => by rw [Bool.false_and]; exact q H' s⟩
theorem due_new {c : Bool} {H : Hp} {x : V} {a b : Str} {R : VK} (hx : flatV x = true) (h : ∀ H', Same H H' → R (.bl (c && !inV x [.str a, .str b])) H') :
    if c = true then 2 ≤ sizeLine ∧ ∀ p, H p = none → rIn K true x (.ref p) (upd H p (.tup [.str a, .str b])) R else R (.bl false) H := by
  cases c with
  | true => exact iteT ⟨by decide, fun p hp => ⟨p, _, rfl, .inr (sqt_of upd_same), hx, rfl, h _ (same_new hp)⟩⟩
  | false => exact iteF (h _ (Same.refl _))
theorem ne_not {a b : Str} {A B : Prop} (e : a = b) (h : B) : if (!decide (V.str a = V.str b)) = true then A else B := by
  rw [decide_eq_true (congrArg V.str e)]
  exact iteF h
theorem names1 (z : Str) : namesV [.str z] 1 401 = isNm z := by
  simp [namesV, nameV]
theorem names0 (z : Str) : namesV [.str z] 0 400 = isNm z := by
  simp [namesV, nameV]
theorem names_bad {xs : List V} {lo hi : Int} {x : V} (h : x ∈ xs) (n : nameV x = false) : namesV xs lo hi = false := by
  unfold namesV
  have : xs.all nameV = false := by
    rw [List.all_eq_false]
    exact ⟨x, h, by rw [n]; exact Bool.false_ne_true⟩
  rw [this, Bool.and_false]
theorem ok_law_names_right (T : Tx K mg) : FnG P w K mg base CX0 4 T.f__law_names_right T.d__law_names_right ["_law_dice_here"] sp_right := by
  refine okG T.F__law_names_right sc_law_names_right (fun vs H Q E h => ?_) (fun cdv A outer s H vs Q E hgd hr h => ?_)
  · obtain ⟨d, rfl, _⟩ := h
    rfl
  · obtain ⟨d, rfl, hd, q⟩ := h
    refine ⟨_, (pss_cons (ps_set (i := 1) sc_law_names_right.nd rfl (Or.inr rfl) pe_str)
      (pss_cons (ps_set (i := 2) sc_law_names_right.nd rfl (Or.inl rfl) (pe_call (ok_law_pick T) (hr.mono (by decide)) (by rfl) T.g__law_pick T.F__law_pick.kp T.b__law_pick .nil pass0 (pa_cons (pv 0) (pa_cons (pe_lst (pa_cons pe_int (pa_cons pe_int (pa_cons pe_int (pa_cons pe_int (pa_cons pe_int (pa_cons pe_int (pa_cons pe_int (pa_cons pe_int (pa_cons pe_int pa_nil)))))))))) pa_nil))))
      (pss_cons (ps_set (i := 3) sc_law_names_right.nd rfl (Or.inl rfl) (pe_joinN pe_str (pe_lc (own := [("_law_turn", 10)]) (g := gName 10) (by rfl) sc_law_names_right.nd (pi_range1 (by rfl) T.n_range (pa_cons (pv 2) pa_nil)) (blkOk_by (own := [("_law_turn", 10)]) (N := ["_law_dice_here", "_law_letters", "_law_many", "_law_word", "_law_at", "_law_bad", "_law_told", "_law_due", "_law_near", "_law_odd", "_law_turn"]) (sc := defScope s_law_names_right) (by decide +kernel)) (fun _ _ _ _ _ => (pg_name (i := 10) sc_law_names_right.nd rfl (Or.inl rfl))) (fun _ _ _ _ _ => pts_nil) (fun _ _ _ _ _ => (pe_call (ok_law_pick T) (hr.mono (by decide)) (by rfl) T.g__law_pick T.F__law_pick.kp T.b__law_pick .nil pass0 (pa_cons (pv 0) (pa_cons (pv 1) pa_nil)))))))
      (pss_cons (ps_set (i := 4) sc_law_names_right.nd rfl (Or.inl rfl) (pe_call (ok_law_roll T) (hr.mono (by decide)) (by rfl) T.g__law_roll T.F__law_roll.kp T.b__law_roll .nil pass0 (pa_cons (pv 0) (pa_cons (pe_op op_add (pe_callB call_len_str (by rfl) T.n_len (by decide +kernel) (pa_cons (pv 3) pa_nil)) pe_int) pa_nil))))
      (pss_cons (ps_set (i := 5) sc_law_names_right.nd rfl (Or.inl rfl) (pe_op op_add_str (pe_op op_add_str (pe_slice sl_str (pv 3) po_none (po_some (pv 4))) (pe_call (ok_law_odd_sign T) (hr.mono (by decide)) (by rfl) T.g__law_odd_sign T.F__law_odd_sign.kp T.b__law_odd_sign .nil pass0 (pa_cons (pv 0) pa_nil))) (pe_slice sl_str (pv 3) (po_some (pe_op op_add (pv 4) (pe_call (ok_law_roll T) (hr.mono (by decide)) (by rfl) T.g__law_roll T.F__law_roll.kp T.b__law_roll .nil pass0 (pa_cons (pv 0) (pa_cons pe_int pa_nil))))) po_none)))
      (pss_cons (ps_set (i := 6) sc_law_names_right.nd rfl (Or.inl rfl) (pe_lst (pa_cons (pe_call (ok_is_name T) (hr.mono (by decide)) (by rfl) T.g_is_name T.F_is_name.kp T.b_is_name .nil pass0 (pa_cons (pv 3) pa_nil)) (pa_cons (pe_call (ok_is_name T) (hr.mono (by decide)) (by rfl) T.g_is_name T.F_is_name.kp T.b_is_name .nil pass0 (pa_cons (pv 5) pa_nil)) (pa_cons (pe_call (ok_is_type T) (hr.mono (by decide)) (by rfl) T.g_is_type T.F_is_type.kp T.b_is_type .nil pass0 (pa_cons (pe_tup (pa_cons (pv 3) pa_nil)) pa_nil)) (pa_cons (pe_call (ok_is_front T) (hr.mono (by decide)) (by rfl) T.g_is_front T.F_is_front.kp T.b_is_front .nil pass0 (pa_cons (pe_tup (pa_cons (pv 3) pa_nil)) pa_nil)) (pa_cons (pe_call (ok_is_type T) (hr.mono (by decide)) (by rfl) T.g_is_type T.F_is_type.kp T.b_is_type .nil pass0 (pa_cons (pe_tup (pa_cons (pv 5) pa_nil)) pa_nil)) (pa_cons (pe_call (ok_is_type T) (hr.mono (by decide)) (by rfl) T.g_is_type T.F_is_type.kp T.b_is_type .nil pass0 (pa_cons (pe_tup (pa_cons pe_str (pa_cons (pv 5) (pa_cons pe_str pa_nil)))) pa_nil)) pa_nil))))))))
      (pss_cons (ps_set (i := 7) sc_law_names_right.nd rfl (Or.inl rfl) (pe_and (pe_cmpR op_lt (pv 2) pe_int (nomark _)) (pe_one (pe_cmpR op_notIn_seq (pv 3) (pe_tup (pa_cons pe_str (pa_cons pe_str pa_nil))) (by rfl)))))
      (pss_cons (ps_if (pt_cmpR op_ne (pe_callB (call_rp hgd hr.units) (by rfl) T.n_repr (by decide +kernel) (pa_cons (pv 6) pa_nil)) (pe_callB (call_rp hgd hr.units) (by rfl) T.n_repr (by decide +kernel) (pa_cons (pe_lst (pa_cons (pv 7) (pa_cons pe_bl (pa_cons (pv 7) (pa_cons (pv 7) (pa_cons pe_bl (pa_cons pe_bl pa_nil))))))) pa_nil)) (nomark _)) (pss_one (ps_ret pe_bl)) pss_nil)
      (pss_cons (ps_set (i := 8) sc_law_names_right.nd rfl (Or.inl rfl) (pe_call (ok_law_pick T) (hr.mono (by decide)) (by rfl) T.g__law_pick T.F__law_pick.kp T.b__law_pick .nil pass0 (pa_cons (pv 0) (pa_cons (pe_lst (pa_cons pe_str (pa_cons pe_str (pa_cons pe_str (pa_cons pe_str (pa_cons pe_str (pa_cons pe_str (pa_cons pe_str (pa_cons pe_str (pa_cons pe_str (pa_cons pe_str (pa_cons pe_str pa_nil)))))))))))) pa_nil))))
      (pss_cons (ps_set (i := 9) sc_law_names_right.nd rfl (Or.inl rfl) (pe_call (ok_law_pick T) (hr.mono (by decide)) (by rfl) T.g__law_pick T.F__law_pick.kp T.b__law_pick .nil pass0 (pa_cons (pv 0) (pa_cons (pe_lst (pa_cons pe_str (pa_cons pe_str (pa_cons pe_str (pa_cons pe_str (pa_cons pe_non (pa_cons pe_int (pa_cons pe_bl (pa_cons (pe_tup pa_nil) (pa_cons (pe_tup (pa_cons pe_str pa_nil)) (pa_cons (pe_lst (pa_cons pe_str pa_nil)) (pa_cons pe_dnewK (pa_cons (pe_disp (pps_cons pe_str pe_str pps_nil) (by rfl) (by rfl) (fun z => by cases z) (by decide)) (pa_cons pe_int pa_nil)))))))))))))) pa_nil))))
      (pss_cons (ps_set (i := 6) sc_law_names_right.nd rfl (Or.inl rfl) (pe_lst (pa_cons (pe_call (ok_is_name T) (hr.mono (by decide)) (by rfl) T.g_is_name T.F_is_name.kp T.b_is_name .nil pass0 (pa_cons (pv 8) pa_nil)) (pa_cons (pe_call (ok_is_name T) (hr.mono (by decide)) (by rfl) T.g_is_name T.F_is_name.kp T.b_is_name .nil pass0 (pa_cons (pv 9) pa_nil)) (pa_cons (pe_call (ok_is_type T) (hr.mono (by decide)) (by rfl) T.g_is_type T.F_is_type.kp T.b_is_type .nil pass0 (pa_cons (pe_tup (pa_cons (pv 8) (pa_cons (pv 9) pa_nil))) pa_nil)) (pa_cons (pe_call (ok_is_type T) (hr.mono (by decide)) (by rfl) T.g_is_type T.F_is_type.kp T.b_is_type .nil pass0 (pa_cons (pe_tup (pa_cons (pv 9) (pa_cons (pv 8) pa_nil))) pa_nil)) (pa_cons (pe_call (ok_is_front T) (hr.mono (by decide)) (by rfl) T.g_is_front T.F_is_front.kp T.b_is_front .nil pass0 (pa_cons (pe_tup (pa_cons (pv 9) pa_nil)) pa_nil)) pa_nil)))))))
      (pss_one (ps_ret (pe_cmpR op_eq (pe_callB (call_rp hgd hr.units) (by rfl) T.n_repr (by decide +kernel) (pa_cons (pv 6) pa_nil)) (pe_callB (call_rp hgd hr.units) (by rfl) T.n_repr (by decide +kernel) (pa_cons (pe_lst (pa_cons pe_bl (pa_cons pe_bl (pa_cons pe_bl (pa_cons pe_bl (pa_cons pe_bl pa_nil)))))) pa_nil)) (nomark _))))))))))))))), ?_⟩
    walk_at "rd"
    refine ⟨by decide, fun p hp => ?_⟩
    refine pick_new hd hp (by simp) (by simp) fun y H1 hy g1 => ?_
    obtain ⟨m, rfl, hm⟩ : ∃ m : Nat, y = .int m ∧ (1 ≤ m ∧ m ≤ 40) := by
      simp only [List.mem_cons, List.not_mem_nil, or_false] at hy
      rcases hy with h | h | h | h | h | h | h | h | h
      · exact ⟨1, h, by decide⟩
      · exact ⟨2, h, by decide⟩
      · exact ⟨3, h, by decide⟩
      · exact ⟨5, h, by decide⟩
      · exact ⟨7, h, by decide⟩
      · exact ⟨8, h, by decide⟩
      · exact ⟨9, h, by decide⟩
      · exact ⟨10, h, by decide⟩
      · exact ⟨40, h, by decide⟩
    walk_at "rd"
    refine ⟨⟨_, rfl⟩, by omega, by omega, ?_⟩
    refine lc_gr walk_range (fun _ y => ∃ c, y = V.str (sg c) ∧ c ∈ abc.cps.toList) (sz100 (by omega)) g1.dice (fun _ _ => trivial) ?_ mono_name mono_yes ?_
    · rintro i2 x2 H5 H6 hi2 g6 ⟨rfl, rfl⟩ R hR
      walk_at "rd"
      refine ⟨d, _, rfl, g6.dice, .inr ⟨abc, rfl, by decide +kernel, by decide +kernel, by decide +kernel, fun c H7 hc g7 => hR _ _ ⟨c, rfl, hc⟩ g7⟩⟩
    · intro H2 D zs g2 hD nD hzl hzs hL
      obtain ⟨cs, rfl, hcl, hcs⟩ := ex_cs (P := fun c => c ∈ abc.cps.toList) fun i y hy => hzs i y hy
      refine joinL' (sql_of hL) ?_ ?_
      · rw [sum_ones, show (Str.ofString "").length = 0 from rfl]
        omega
      walk_at "rd"
      have htl := tl_joinSg cs
      generalize hw : Txt.join (Str.ofString "") (cs.map sg) = wd at htl ⊢
      have hwl : wd.length = m := by
        rw [len_tl, htl, hcl, hzl]
        omega
      rw [hwl]
      have wz : wd.length ≤ sizeLine := sz100 (by omega)
      refine ⟨sz100 (by omega), roll_new g2.dice (by omega) (by omega) fun r H3 r0 r1 g3 => ?_⟩
      walk_at "rd"
      refine ⟨wd, rfl, wz, d, rfl, g3.dice, fun c H4 hc g4 => ?_⟩
      walk_at "rd"
      have l1 := cutS_length wd none (some r)
      refine ⟨sz100 (show _ + 1 ≤ 100000 by omega), roll_new g4.dice (by decide) (by decide) fun r2 H5 r20 r21 g5 => ?_⟩
      walk_at "rd"
      have l2 := cutS_length wd (some (r + r2)) none
      refine ⟨wd, rfl, wz, ?_⟩
      walk_at "rd"
      generalize hc1 : cutS wd none (some r) = w1 at l1 ⊢
      generalize hc2 : cutS wd (some (r + r2)) none = w2 at l2 ⊢
      have lb : (w1 ++ sg c ++ w2).length ≤ 100 := by
        rw [strLen_append, strLen_append]
        show w1.length + 1 + w2.length ≤ 100
        omega
      have hb : isNm (w1 ++ sg c ++ w2) = false := by
        unfold isNm
        have : (w1 ++ sg c ++ w2).cps.toList.all lowC = false := by
          show (TL.tl (w1 ++ sg c ++ w2)).all lowC = false
          rw [TL.tl_append, TL.tl_append, List.all_append, List.all_append]
          show ((TL.tl w1).all lowC && (lowC c && true) && (TL.tl w2).all lowC) = false
          rw [hc]
          simp
        rw [this, Bool.and_false]
      generalize w1 ++ sg c ++ w2 = bad at lb hb ⊢
      have bz : bad.length ≤ sizeLine := sz100 (by omega)
      have gg := (((g1.trans g2).trans g3).trans g4).trans g5
      refine ⟨?_, isnameS wz fun H6 s6 => isnameS bz fun H7 s7 => ⟨by decide, fun p8 hp8 => istype upd_same (Itm.nil.str wz) fun H8 s8 => ⟨by decide, fun p9 hp9 =>
        isfront upd_same (Itm.nil.str wz) fun H9 s9 => ⟨by decide, fun pa hpa => istype upd_same (Itm.nil.str bz) fun Ha sa => ⟨by decide, fun pb hpb =>
        istype upd_same (((Itm.nil.str (by decide)).str bz).str (by decide)) fun Hb sb => ⟨by decide, fun pc hpc => due_new rfl fun Hc sc => ?_⟩⟩⟩⟩⟩⟩
      · rw [strLen_append]
        show w1.length + 1 + w2.length ≤ sizeLine
        exact sz100 (by omega)
      have s8' := (same_new hp8).trans s8
      have s9' := (same_new hp9).trans s9
      have sa' := (same_new hpa).trans sa
      have sb' := (same_new hpb).trans sb
      have gb : Gr d H Hb := gg.trans (Gr.same gg.dice (((((s6.trans s7).trans s8').trans s9').trans sa').trans sb'))
      have gc : Gr d H Hc := gb.trans (Gr.same gb.dice ((same_new hpc).trans sc))
      clear s8 s9 sa sb s8' s9' sa' sb'
      refine rp_bools [_, _, _, _, _, _] (sql_of (sc _ _ upd_same)) (by simp) ⟨by decide, fun pd hpd => rp_bools [_, _, _, _, _, _] (sql_of upd_same) (by simp) ⟨rfl, ne_not ?_ ?_⟩⟩
      · have : isNm wd = (decide ((m : Int) < 9) && !inV (V.str wd) [V.str (Str.ofString "to"), V.str (Str.ofString "gives")]) := by
          rw [inV_swap]
          unfold isNm
          have e1 : wd.cps.toList.all lowC = true := by
            rw [List.all_eq_true]
            intro c hc
            have hc2 : c ∈ TL.tl wd := hc
            rw [htl] at hc2
            exact abc_low c (hcs c hc2)
          rw [e1, hwl, Bool.and_true, decide_eq_true (show (1 : Int) ≤ m by omega), Bool.true_and]
          congr 1
          exact decide_eq_decide.mpr (by omega)
        rw [names1, names0, names1, hb, names_bad (x := .str bad) (by simp) hb, this]
      have gd : Gr d H (upd Hc pd (.lst [.bl (decide ((m : Int) < 9) && !inV (V.str wd) [V.str (Str.ofString "to"), V.str (Str.ofString "gives")]), .bl false, .bl (decide ((m : Int) < 9) && !inV (V.str wd) [V.str (Str.ofString "to"), V.str (Str.ofString "gives")]), .bl (decide ((m : Int) < 9) && !inV (V.str wd) [V.str (Str.ofString "to"), V.str (Str.ofString "gives")]), .bl false, .bl false])) := gc.trans (Gr.new gc.dice hpd)
      refine ⟨by decide, fun pe hpe => pick_new gd.dice hpe (by simp) (by simp) fun ye He hye ge => ?_⟩
      have gE : Gr d H He := gd.trans ge
      clear gd ge hpe hpd sc gc gb
      obtain ⟨near, rfl, hnear, zn⟩ : ∃ z : Str, ye = .str z ∧ isNm z = true ∧ z.length ≤ sizeLine := by
        simp only [List.mem_cons, List.not_mem_nil, or_false] at hye
        rcases hye with h | h | h | h | h | h | h | h | h | h | h <;> exact ⟨_, h, by decide +kernel, by decide +kernel⟩
      refine ⟨by decide, fun p4 hp4 => ⟨by decide, ?_⟩⟩
      have s4 := same_new (o := .tup []) hp4
      have f4 : upd He p4 (.tup []) p4 = some (.tup []) := upd_same
      generalize upd He p4 (.tup []) = H4' at *
      intro p5 hp5
      refine ⟨by decide, ?_⟩
      have s5 := same_new (o := .tup [.str (Str.ofString "a")]) hp5
      have f5 : upd H4' p5 (.tup [.str (Str.ofString "a")]) p5 = some (.tup [.str (Str.ofString "a")]) := upd_same
      generalize upd H4' p5 (.tup [.str (Str.ofString "a")]) = H5' at *
      intro p6 hp6
      have s6' := same_new (o := .lst [.str (Str.ofString "a")]) hp6
      have f6 : upd H5' p6 (.lst [.str (Str.ofString "a")]) p6 = some (.lst [.str (Str.ofString "a")]) := upd_same
      generalize upd H5' p6 (.lst [.str (Str.ofString "a")]) = H6' at *
      intro p7 hp7
      have s7' := same_new (o := .dK []) hp7
      have f7 : upd H6' p7 (.dK []) p7 = some (.dK []) := upd_same
      generalize upd H6' p7 (.dK []) = H7' at *
      intro p8' hp8'
      refine ⟨upd_same, [(.inr (Str.ofString "a"), .str (Str.ofString "b"))], rfl, by decide, by decide, ?_⟩
      rw [upd_upd]
      have s8 : Same H7' (upd H7' p8' (.dK (mergeK [] [(.inr (Str.ofString "a"), .str (Str.ofString "b"))]))) := same_new hp8'
      have f8 : upd H7' p8' (.dK (mergeK [] [(.inr (Str.ofString "a"), .str (Str.ofString "b"))])) p8' = some (.dK _) := upd_same
      generalize upd H7' p8' (.dK (mergeK [] [(.inr (Str.ofString "a"), .str (Str.ofString "b"))])) = H8' at s8 f8 ⊢
      have sall : Same He H8' := ((((s4.trans s5).trans s6').trans s7').trans s8)
      have g8 : Gr d He H8' := Gr.same gE.dice sall
      intro p9' hp9'
      refine pick_new g8.dice hp9' (by simp) (by simp) fun y9 H9' hy9 g9 => ?_
      obtain ⟨t9, k9, n9, z9⟩ : ∃ t, Kn H9' y9 t ∧ nameV y9 = false ∧ ∀ y, y9 = .str y → y.length ≤ sizeLine := by
        simp only [List.mem_cons, List.not_mem_nil, or_false] at hy9
        rcases hy9 with h | h | h | h | h | h | h | h | h | h | h | h | h <;> subst h
        · exact ⟨_, .str _, by decide +kernel, fun y e => by cases e; decide +kernel⟩
        · exact ⟨_, .str _, by decide +kernel, fun y e => by cases e; decide +kernel⟩
        · exact ⟨_, .str _, by decide +kernel, fun y e => by cases e; decide +kernel⟩
        · exact ⟨_, .str _, by decide +kernel, fun y e => by cases e; decide +kernel⟩
        · exact ⟨_, .non, rfl, fun y e => nomatch e⟩
        · exact ⟨_, .int _, rfl, fun y e => nomatch e⟩
        · exact ⟨_, .bl _, rfl, fun y e => nomatch e⟩
        · exact ⟨_, Kn.gr g9 (.tup ((((s5.trans s6').trans s7').trans s8) _ _ f4)), rfl, fun y e => nomatch e⟩
        · exact ⟨_, Kn.gr g9 (.tup (((s6'.trans s7').trans s8) _ _ f5)), rfl, fun y e => nomatch e⟩
        · exact ⟨_, Kn.gr g9 (.lst ((s7'.trans s8) _ _ f6)), rfl, fun y e => nomatch e⟩
        · exact ⟨_, Kn.gr g9 (.dK (s8 _ _ f7)), rfl, fun y e => nomatch e⟩
        · exact ⟨_, Kn.gr g9 (.dK f8), rfl, fun y e => nomatch e⟩
        · exact ⟨_, .int _, rfl, fun y e => nomatch e⟩
      clear s4 s5 s6' s7' s8 f4 f5 f6 f7 f8
      refine isnameS zn fun Hf sf => isname (k9.same sf) z9 fun Hg sg' => ⟨by decide, fun ph hph => ?_⟩
      have kg := (k9.same sf).same sg'
      have i1 := (Itm.nil.cons (kg.same (same_new (o := .tup [.str near, y9]) hph)) z9).str zn
      refine istype upd_same i1 fun Hh sh => ⟨by decide, fun pi hpi => ?_⟩
      have kh := (kg.same (same_new hph)).same sh
      have i2 := (Itm.nil.str zn).cons (kh.same (same_new (o := .tup [y9, .str near]) hpi)) z9
      refine istype upd_same i2 fun Hi si => ⟨by decide, fun pj hpj => ?_⟩
      have ki := (kh.same (same_new hpi)).same si
      have i3 := Itm.nil.cons (ki.same (same_new (o := .tup [y9]) hpj)) z9
      refine isfront upd_same i3 fun Hj sj => ⟨by decide, fun pk hpk => ?_⟩
      refine rp_bools [_, _, _, _, _] (sql_of upd_same) (by simp) ⟨by decide, fun pl hpl => rp_bools [_, _, _, _, _] (sql_of upd_same) (by simp) ⟨rfl, qeq ?_ ?_⟩⟩
      · rw [hnear, n9, names_bad (x := y9) (by simp) n9, names_bad (x := y9) (by simp) n9, names_bad (x := y9) (by simp) n9]
      · have gf : Gr d H Hj := (gE.trans g8).trans (g9.trans (Gr.same g9.dice (((sf.trans sg').trans ((same_new hph).trans sh)).trans (((same_new hpi).trans si).trans ((same_new hpj).trans sj)))))
        exact q _ ((gf.trans (Gr.new gf.dice hpk)).trans (Gr.new (Gr.new gf.dice hpk).dice hpl))
end

section
variable {P : Program} {w : World} {K : PySem.W.Frag} {mg : Str → Option Value} {base : Heap}
theorem slT {H : Hp} {a : Addr} {xs : List V} {lo hi : Option Int} {Q : VK} (h : H a = some (.tup xs))
    (q : ∀ p H', Same H H' → H' p = some (.tup (cutV xs lo hi)) → Q (.ref p) H') : rSlA K (.ref a) lo hi H Q := by
  refine ⟨a, xs, rfl, sqt_of h, fun e => q a H (Same.refl _) ?_, fun _ p hp => q p _ (same_new hp) upd_same⟩
  rw [h]
  unfold cutV
  rw [e.1, e.2]
  simp
theorem catT {H : Hp} {a b : Addr} {xs ys : List V} {Q : VK} (ha : H a = some (.tup xs)) (hb : H b = some (.tup ys)) (hl : xs.length + ys.length ≤ sizeLine)
    (q : ∀ p H', Same H H' → H' p = some (.tup (xs ++ ys)) → Q (.ref p) H') : rCatA K (.ref a) (.ref b) H Q := by
  refine ⟨a, b, xs, ys, rfl, rfl, sqt_of ha, sqt_of hb, hl, fun e => q b H (Same.refl _) ?_, fun _ e => q a H (Same.refl _) ?_, fun _ _ p hp => q p _ (same_new hp) upd_same⟩
  · rw [hb, e, List.nil_append]
  · rw [ha, e, List.append_nil]
theorem isNm_len {z : Str} (h : isNm z = true) : 1 ≤ z.length ∧ z.length ≤ 8 := by
  unfold isNm at h
  simp only [Bool.and_eq_true, decide_eq_true_eq] at h
  omega
theorem itmW {H : Hp} : ∀ {ws : List Str}, (∀ w ∈ ws, isNm w = true) → Itm H (ws.map V.str)
  | [], _ => Itm.nil
  | w :: ws, h => (itmW fun x hx => h x (List.mem_cons_of_mem _ hx)).str (sz100 (by have := isNm_len (h w List.mem_cons_self); omega))
theorem names_all {ws : List Str} {lo hi : Int} (h : ∀ w ∈ ws, isNm w = true) (h1 : lo ≤ ws.length) (h2 : ws.length ≤ hi) : namesV (ws.map V.str) lo hi = true := by
  unfold namesV
  rw [List.length_map, decide_eq_true h1, decide_eq_true h2]
  simp only [Bool.true_and, List.all_eq_true, List.mem_map]
  rintro x ⟨w, hw, rfl⟩
  exact h w hw
theorem sum_le8 : ∀ {ws : List Str}, (∀ w ∈ ws, isNm w = true) → (ws.map (·.length)).sum ≤ 8 * ws.length
  | [], _ => Nat.le_refl _
  | w :: ws, h => by
    have h1 := sum_le8 fun x hx => h x (List.mem_cons_of_mem _ hx)
    have h2 := isNm_len (h w List.mem_cons_self)
    rw [List.map_cons, List.sum_cons, List.length_cons]
    omega
theorem names_len {xs : List V} {lo hi : Int} (h : ¬ (lo ≤ xs.length ∧ xs.length ≤ hi)) : namesV xs lo hi = false := by
  unfold namesV
  by_cases h1 : lo ≤ (xs.length : Int)
  · rw [decide_eq_false (show ¬ ((xs.length : Int) ≤ hi) from fun h2 => h ⟨h1, h2⟩), Bool.and_false, Bool.false_and]
  · rw [decide_eq_false h1, Bool.false_and, Bool.false_and]
theorem rep_len (n : Nat) (ws : List Str) : ((List.replicate n ws).flatten).length = n * ws.length := by
  induction n with
  | zero => simp
  | succ n ih => rw [List.replicate_succ, List.flatten_cons, List.length_append, ih, Nat.succ_mul]; omega
theorem cut_to {xs : List V} (k : Nat) : cutV xs none (some (k : Int)) = xs.take k := by
  unfold cutV
  rw [HT.sIx_none, HT.sIx_nat, List.drop_zero, Nat.sub_zero]
  by_cases h : k ≤ xs.length
  · rw [Nat.min_eq_left h]
  · rw [Nat.min_eq_right (by omega), List.take_of_length_le (by omega), List.take_of_length_le (by omega)]
theorem cut_mid {xs : List V} (i k : Nat) : ∀ x ∈ cutV xs (some (i : Int)) (some (k : Int)), x ∈ xs := by
  intro x hx
  unfold cutV at hx
  exact List.mem_of_mem_drop (List.mem_of_mem_take hx)
theorem cut_len {xs : List V} {lo hi : Option Int} : (cutV xs lo hi).length ≤ xs.length := by
  unfold cutV
  rw [List.length_take, List.length_drop]
  omega
theorem slTo {H : Hp} {a : Addr} {ws : List Str} {Q : VK} (k : Nat) (h : H a = some (.tup (ws.map V.str)))
    (q : ∀ p H', Same H H' → H' p = some (.tup ((ws.take k).map V.str)) → Q (.ref p) H') : rSlA K (.ref a) none (some (k : Int)) H Q := by
  refine slT h fun p H' s f => q p H' s ?_
  rw [f, cut_to, List.map_take]
theorem ok_law_tuples_right (T : Tx K mg) : FnG P w K mg base CX0 4 T.f__law_tuples_right T.d__law_tuples_right ["_law_dice_here"] sp_right := by
  refine okG T.F__law_tuples_right sc_law_tuples_right (fun vs H Q E h => ?_) (fun cdv A outer s H vs Q E hgd hr h => ?_)
  · obtain ⟨d, rfl, _⟩ := h
    rfl
  · obtain ⟨d, rfl, hd, q⟩ := h
    refine ⟨_, (pss_cons (ps_set (i := 1) sc_law_tuples_right.nd rfl (Or.inl rfl) (pe_call (ok_law_names T) (hr.mono (by decide)) (by rfl) T.g__law_names T.F__law_names.kp T.b__law_names .nil pass0 (pa_cons (pv 0) (pa_cons (pe_op op_add pe_int (pe_call (ok_law_roll T) (hr.mono (by decide)) (by rfl) T.g__law_roll T.F__law_roll.kp T.b__law_roll .nil pass0 (pa_cons (pv 0) (pa_cons pe_int pa_nil)))) pa_nil))))
      (pss_cons (ps_set (i := 2) sc_law_tuples_right.nd rfl (Or.inl rfl) (pe_lst (pa_cons (pe_call (ok_is_type T) (hr.mono (by decide)) (by rfl) T.g_is_type T.F_is_type.kp T.b_is_type .nil pass0 (pa_cons (pe_callTy call_tupL (by rfl) T.n_tuple (by decide +kernel) (pa_cons (pv 1) pa_nil)) pa_nil)) (pa_cons (pe_call (ok_is_front T) (hr.mono (by decide)) (by rfl) T.g_is_front T.F_is_front.kp T.b_is_front .nil pass0 (pa_cons (pe_callTy call_tupL (by rfl) T.n_tuple (by decide +kernel) (pa_cons (pv 1) pa_nil)) pa_nil)) (pa_cons (pe_call (ok_is_type T) (hr.mono (by decide)) (by rfl) T.g_is_type T.F_is_type.kp T.b_is_type .nil pass0 (pa_cons (pv 1) pa_nil)) (pa_cons (pe_call (ok_is_front T) (hr.mono (by decide)) (by rfl) T.g_is_front T.F_is_front.kp T.b_is_front .nil pass0 (pa_cons (pv 1) pa_nil)) (pa_cons (pe_call (ok_is_type T) (hr.mono (by decide)) (by rfl) T.g_is_type T.F_is_type.kp T.b_is_type .nil pass0 (pa_cons (pe_tup pa_nil) pa_nil)) (pa_cons (pe_call (ok_is_front T) (hr.mono (by decide)) (by rfl) T.g_is_front T.F_is_front.kp T.b_is_front .nil pass0 (pa_cons (pe_tup pa_nil) pa_nil)) pa_nil))))))))
      (pss_cons (ps_if (pt_cmpR op_ne (pe_callB (call_rp hgd hr.units) (by rfl) T.n_repr (by decide +kernel) (pa_cons (pv 2) pa_nil)) (pe_callB (call_rp hgd hr.units) (by rfl) T.n_repr (by decide +kernel) (pa_cons (pe_lst (pa_cons pe_bl (pa_cons pe_bl (pa_cons pe_bl (pa_cons pe_bl (pa_cons pe_bl (pa_cons pe_bl pa_nil))))))) pa_nil)) (nomark _)) (pss_one (ps_ret pe_bl)) pss_nil)
      (pss_cons (ps_set (i := 3) sc_law_tuples_right.nd rfl (Or.inl rfl) (pe_call (ok_law_pick T) (hr.mono (by decide)) (by rfl) T.g__law_pick T.F__law_pick.kp T.b__law_pick .nil pass0 (pa_cons (pv 0) (pa_cons (pe_lst (pa_cons pe_non (pa_cons pe_int (pa_cons pe_bl (pa_cons pe_str (pa_cons pe_str (pa_cons (pe_joinN pe_str (pv 1)) (pa_cons pe_dnewK (pa_cons (pe_lst pa_nil) (pa_cons (pe_lst (pa_cons (pe_callTy call_tupL (by rfl) T.n_tuple (by decide +kernel) (pa_cons (pv 1) pa_nil)) pa_nil)) (pa_cons (pe_callTy (call_dictPs rfl) (by rfl) T.n_dict (by decide +kernel) (pa_cons (pe_lst (pa_cons (pe_tup (pa_cons (pe_ix ix_list (pv 1) pe_int (fun _ _ => rfl)) (pa_cons pe_int pa_nil))) pa_nil)) pa_nil)) pa_nil))))))))))) pa_nil))))
      (pss_cons (ps_set (i := 4) sc_law_tuples_right.nd rfl (Or.inl rfl) (pe_call (ok_law_pick T) (hr.mono (by decide)) (by rfl) T.g__law_pick T.F__law_pick.kp T.b__law_pick .nil pass0 (pa_cons (pv 0) (pa_cons (pe_lst (pa_cons (pe_tup (pa_cons (pe_callTy call_tupL (by rfl) T.n_tuple (by decide +kernel) (pa_cons (pv 1) pa_nil)) pa_nil)) (pa_cons (pe_tup (pa_cons (pv 1) pa_nil)) (pa_cons (pe_op op_catA (pe_callTy call_tupL (by rfl) T.n_tuple (by decide +kernel) (pa_cons (pv 1) pa_nil)) (pe_tup (pa_cons (pe_tup pa_nil) pa_nil))) (pa_cons (pe_tup (pa_cons (pe_ix ix_list (pv 1) pe_int (fun _ _ => rfl)) (pa_cons pe_non pa_nil))) (pa_cons (pe_tup (pa_cons pe_int pa_nil)) (pa_cons (pe_tup (pa_cons pe_bl pa_nil)) pa_nil))))))) pa_nil))))
      (pss_cons (ps_set (i := 2) sc_law_tuples_right.nd rfl (Or.inl rfl) (pe_lst (pa_cons (pe_call (ok_is_type T) (hr.mono (by decide)) (by rfl) T.g_is_type T.F_is_type.kp T.b_is_type .nil pass0 (pa_cons (pv 3) pa_nil)) (pa_cons (pe_call (ok_is_front T) (hr.mono (by decide)) (by rfl) T.g_is_front T.F_is_front.kp T.b_is_front .nil pass0 (pa_cons (pv 3) pa_nil)) (pa_cons (pe_call (ok_is_type T) (hr.mono (by decide)) (by rfl) T.g_is_type T.F_is_type.kp T.b_is_type .nil pass0 (pa_cons (pv 4) pa_nil)) (pa_cons (pe_call (ok_is_front T) (hr.mono (by decide)) (by rfl) T.g_is_front T.F_is_front.kp T.b_is_front .nil pass0 (pa_cons (pv 4) pa_nil)) (pa_cons (pe_call (ok_is_name T) (hr.mono (by decide)) (by rfl) T.g_is_name T.F_is_name.kp T.b_is_name .nil pass0 (pa_cons (pe_callTy call_tupL (by rfl) T.n_tuple (by decide +kernel) (pa_cons (pv 1) pa_nil)) pa_nil)) (pa_cons (pe_call (ok_is_name T) (hr.mono (by decide)) (by rfl) T.g_is_name T.F_is_name.kp T.b_is_name .nil pass0 (pa_cons (pe_ix ix_list (pv 1) pe_int (fun _ _ => rfl)) pa_nil)) pa_nil))))))))
      (pss_cons (ps_if (pt_cmpR op_ne (pe_callB (call_rp hgd hr.units) (by rfl) T.n_repr (by decide +kernel) (pa_cons (pv 2) pa_nil)) (pe_callB (call_rp hgd hr.units) (by rfl) T.n_repr (by decide +kernel) (pa_cons (pe_op op_cat (pe_op op_rep (pe_lst (pa_cons pe_bl pa_nil)) pe_int) (pe_lst (pa_cons pe_bl pa_nil))) pa_nil)) (nomark _)) (pss_one (ps_ret pe_bl)) pss_nil)
      (pss_cons (ps_set (i := 5) sc_law_tuples_right.nd rfl (Or.inl rfl) (pe_slice sl_tupA (pe_op op_repT (pe_callTy call_tupL (by rfl) T.n_tuple (by decide +kernel) (pa_cons (pv 1) pa_nil)) pe_int) po_none (po_some pe_int)))
      (pss_cons (ps_set (i := 2) sc_law_tuples_right.nd rfl (Or.inl rfl) (pe_lst (pa_cons (pe_call (ok_is_front T) (hr.mono (by decide)) (by rfl) T.g_is_front T.F_is_front.kp T.b_is_front .nil pass0 (pa_cons (pe_slice sl_tupA (pv 5) po_none (po_some pe_int)) pa_nil)) (pa_cons (pe_call (ok_is_front T) (hr.mono (by decide)) (by rfl) T.g_is_front T.F_is_front.kp T.b_is_front .nil pass0 (pa_cons (pe_slice sl_tupA (pv 5) po_none (po_some pe_int)) pa_nil)) (pa_cons (pe_call (ok_is_type T) (hr.mono (by decide)) (by rfl) T.g_is_type T.F_is_type.kp T.b_is_type .nil pass0 (pa_cons (pe_slice sl_tupA (pv 5) po_none (po_some pe_int)) pa_nil)) (pa_cons (pe_call (ok_is_type T) (hr.mono (by decide)) (by rfl) T.g_is_type T.F_is_type.kp T.b_is_type .nil pass0 (pa_cons (pe_slice sl_tupA (pv 5) po_none (po_some pe_int)) pa_nil)) (pa_cons (pe_call (ok_is_type T) (hr.mono (by decide)) (by rfl) T.g_is_type T.F_is_type.kp T.b_is_type .nil pass0 (pa_cons (pe_slice sl_tupA (pv 5) po_none (po_some pe_int)) pa_nil)) pa_nil)))))))
      (pss_cons (ps_set (i := 6) sc_law_tuples_right.nd rfl (Or.inl rfl) (pe_call (ok_law_roll T) (hr.mono (by decide)) (by rfl) T.g__law_roll T.F__law_roll.kp T.b__law_roll .nil pass0 (pa_cons (pv 0) (pa_cons pe_int pa_nil))))
      (pss_cons (ps_expr (pe_bm PySem.F.plainAttrs_list PySem.F.slot_list_append PySem.F.type_list_append mt_append (pv 2) (pa_cons (pe_call (ok_is_type T) (hr.mono (by decide)) (by rfl) T.g_is_type T.F_is_type.kp T.b_is_type .nil pass0 (pa_cons (pe_op op_catA (pe_op op_catA (pe_slice sl_tupA (pv 5) po_none (po_some (pv 6))) (pe_tup (pa_cons pe_str pa_nil))) (pe_slice sl_tupA (pv 5) (po_some (pv 6)) (po_some pe_int))) pa_nil)) pa_nil)))
      (pss_one (ps_ret (pe_cmpR op_eq (pe_callB (call_rp hgd hr.units) (by rfl) T.n_repr (by decide +kernel) (pa_cons (pv 2) pa_nil)) (pe_callB (call_rp hgd hr.units) (by rfl) T.n_repr (by decide +kernel) (pa_cons (pe_lst (pa_cons pe_bl (pa_cons pe_bl (pa_cons pe_bl (pa_cons pe_bl (pa_cons pe_bl (pa_cons pe_bl pa_nil))))))) pa_nil)) (nomark _))))))))))))))), ?_⟩
    walk_at "rd"
    refine roll_new hd (by decide) (by decide) fun r H1 r0 r1 g1 => ?_
    walk_at "rd"
    refine ⟨d, _, rfl, g1.dice, by omega, fun p H2 ws g2 hp np hL hws hlen => ?_⟩
    have hl1 : 1 ≤ ws.length ∧ ws.length ≤ 9 := by omega
    walk_at "rd"
    have g0 := g1.trans g2
    refine tupL (sql_of hL) fun p3 hp3 => istype upd_same (itmW hws) fun H3 s3 => ?_
    have k3 : Same H2 H3 := (same_new hp3).trans s3
    refine tupL (sql_of (k3 _ _ hL)) fun p4 hp4 => isfront upd_same (itmW hws) fun H4 s4 => ?_
    have k4 := k3.trans ((same_new hp4).trans s4)
    refine notype (.lst (k4 _ _ hL)) (by decide) fun H5 s5 => nofront (.lst ((k4.trans s5) _ _ hL)) (by decide) fun H6 s6 => ⟨by decide, fun p7 hp7 => istype upd_same Itm.nil fun H7 s7 =>
      ⟨by decide, fun p8 hp8 => isfront upd_same Itm.nil fun H8 s8 => ⟨by decide, fun p9 hp9 => ?_⟩⟩⟩
    refine rp_ne [namesV (ws.map V.str) 1 401, namesV (ws.map V.str) 0 400, false, false, namesV [] 1 401, namesV [] 0 400] [true, true, false, false, false, true] (sql_of upd_same) (by simp) (by decide) ?_ fun pa hpa => ?_
    · rw [names_all hws (by omega) (by omega), names_all hws (by omega) (by omega)]
      rfl
    have k8 : Same H2 H8 := ((k4.trans (s5.trans s6)).trans ((same_new hp7).trans s7)).trans ((same_new hp8).trans s8)
    have k9 := same_new (o := .lst [.bl (namesV (ws.map V.str) 1 401), .bl (namesV (ws.map V.str) 0 400), .bl false, .bl false, .bl (namesV [] 1 401), .bl (namesV [] 0 400)]) hp9
    have f9 : upd H8 p9 (.lst [.bl (namesV (ws.map V.str) 1 401), .bl (namesV (ws.map V.str) 0 400), .bl false, .bl false, .bl (namesV [] 1 401), .bl (namesV [] 0 400)]) p9 = some (.lst [.bl (namesV (ws.map V.str) 1 401), .bl (namesV (ws.map V.str) 0 400), .bl false, .bl false, .bl (namesV [] 1 401), .bl (namesV [] 0 400)]) := upd_same
    generalize upd H8 p9 (.lst [.bl (namesV (ws.map V.str) 1 401), .bl (namesV (ws.map V.str) 0 400), .bl false, .bl false, .bl (namesV [] 1 401), .bl (namesV [] 0 400)]) = H9 at *
    have ka := same_new (o := .lst ([true, true, false, false, false, true].map V.bl)) hpa
    have fa : upd H9 pa (.lst ([true, true, false, false, false, true].map V.bl)) pa = some (.lst ([true, true, false, false, false, true].map V.bl)) := upd_same
    generalize upd H9 pa (.lst ([true, true, false, false, false, true].map V.bl)) = Ha at *
    have kA : Same H2 Ha := (k8.trans k9).trans ka
    clear k9 ka f9 fa
    obtain ⟨w0, hw0, n0⟩ : ∃ w0, (ws.map V.str)[0]? = some (.str w0) ∧ isNm w0 = true := by
      cases ws with
      | nil => simp at hl1
      | cons a b => exact ⟨a, rfl, hws a List.mem_cons_self⟩
    have z0 : w0.length ≤ sizeLine := sz100 (by have := isNm_len n0; omega)
    have hsum := sum_le8 hws
    refine ⟨⟨_, rfl⟩, joinL' (sql_of (kA _ _ hL)) (by rw [show (Str.ofString " ").length = 1 from rfl]; omega) ?_⟩
    intro pb hpb
    refine ⟨by decide, ?_⟩
    have kb := same_new (o := .dK []) hpb
    have fb : upd Ha pb (.dK []) pb = some (.dK []) := upd_same
    generalize upd Ha pb (.dK []) = Hb at *
    intro pc hpc
    have kc := same_new (o := .lst []) hpc
    have fc : upd Hb pc (.lst []) pc = some (.lst []) := upd_same
    generalize upd Hb pc (.lst []) = Hc at *
    have kC := (kA.trans kb).trans kc
    refine tupL (sql_of (kC _ _ hL)) fun pd hpd => ⟨by decide, ?_⟩
    have kd := same_new (o := .tup (ws.map V.str)) hpd
    have fd : upd Hc pd (.tup (ws.map V.str)) pd = some (.tup (ws.map V.str)) := upd_same
    generalize upd Hc pd (.tup (ws.map V.str)) = Hd at *
    intro pe hpe
    have ke := same_new (o := .lst [.ref pd]) hpe
    have fe : upd Hd pe (.lst [.ref pd]) pe = some (.lst [.ref pd]) := upd_same
    generalize upd Hd pe (.lst [.ref pd]) = He at *
    have kE := (kC.trans kd).trans ke
    refine ixl_nat (j := 0) (sql_of (kE _ _ hL)) hw0 ⟨by decide, fun pf hpf => ⟨by decide, ?_⟩⟩
    have kf := same_new (o := .tup [.str w0, .int 1]) hpf
    have ff : upd He pf (.tup [.str w0, .int 1]) pf = some (.tup [.str w0, .int 1]) := upd_same
    generalize upd He pf (.tup [.str w0, .int 1]) = Hf at *
    intro pg hpg
    have kg := same_new (o := .lst [.ref pf]) hpg
    have fg : upd Hf pg (.lst [.ref pf]) pg = some (.lst [.ref pf]) := upd_same
    generalize upd Hf pg (.lst [.ref pf]) = Hg at *
    refine ⟨pg, [pf], [(.inr w0, .int 1)], rfl, sql_of fg, .cons (sqt_of (kg _ _ ff)) .nil, fun ph hph => ⟨by decide, ?_⟩⟩
    have kh := same_new (o := .dK (mergeK [] [(.inr w0, .int 1)])) hph
    have fh : upd Hg ph (.dK (mergeK [] [(.inr w0, .int 1)])) ph = some (.dK (mergeK [] [(.inr w0, .int 1)])) := upd_same
    generalize upd Hg ph (.dK (mergeK [] [(.inr w0, .int 1)])) = Hh at *
    intro pi hpi
    have kH := ((kE.trans kf).trans kg).trans kh
    have gH : Gr d H2 Hh := Gr.same g2.dice kH
    refine pick_new gH.dice hpi (by simp) (by simp) fun y1 Hi hy1 gi => ?_
    obtain ⟨t1, q1, m1⟩ : ∃ t, Kn Hi y1 t ∧ t ≠ "tuple" := by
      simp only [List.mem_cons, List.not_mem_nil, or_false] at hy1
      rcases hy1 with h | h | h | h | h | h | h | h | h | h <;> subst h
      · exact ⟨_, .non, by decide⟩
      · exact ⟨_, .int _, by decide⟩
      · exact ⟨_, .bl _, by decide⟩
      · exact ⟨_, .str _, by decide⟩
      · exact ⟨_, .str _, by decide⟩
      · exact ⟨_, .str _, by decide⟩
      · exact ⟨_, Kn.gr gi (.dK (((((kc.trans kd).trans ke).trans kf).trans kg).trans kh _ _ fb)), by decide⟩
      · exact ⟨_, Kn.gr gi (.lst ((((kd.trans ke).trans kf).trans kg).trans kh _ _ fc)), by decide⟩
      · exact ⟨_, Kn.gr gi (.lst (((kf.trans kg).trans kh) _ _ fe)), by decide⟩
      · exact ⟨_, Kn.gr gi (.dK fh), by decide⟩
    have gI : Gr d H2 Hi := gH.trans gi
    have hLi : Hi p = some (.lst (ws.map V.str)) := gI.keep _ _ np hL
    clear kb kc kd ke kf kg kh fb fc fd fe ff fg fh kC kE kA k8 k4 k3 s3 s4 s5 s6 s7 s8
    refine tupL (sql_of hLi) fun pj hpj => ⟨by decide, ?_⟩
    have kj := same_new (o := .tup (ws.map V.str)) hpj
    have fj : upd Hi pj (.tup (ws.map V.str)) pj = some (.tup (ws.map V.str)) := upd_same
    generalize upd Hi pj (.tup (ws.map V.str)) = Hj at *
    intro pk hpk
    refine ⟨by decide, ?_⟩
    have kk := same_new (o := .tup [.ref pj]) hpk
    have fk : upd Hj pk (.tup [.ref pj]) pk = some (.tup [.ref pj]) := upd_same
    generalize upd Hj pk (.tup [.ref pj]) = Hk at *
    intro pl hpl
    have kl := same_new (o := .tup [.ref p]) hpl
    have fl : upd Hk pl (.tup [.ref p]) pl = some (.tup [.ref p]) := upd_same
    generalize upd Hk pl (.tup [.ref p]) = Hl at *
    have kL : Same Hi Hl := (kj.trans kk).trans kl
    refine tupL (sql_of (kL _ _ hLi)) fun pm hpm => ⟨by decide, ?_⟩
    have km := same_new (o := .tup (ws.map V.str)) hpm
    have fm : upd Hl pm (.tup (ws.map V.str)) pm = some (.tup (ws.map V.str)) := upd_same
    generalize upd Hl pm (.tup (ws.map V.str)) = Hm at *
    intro pn hpn
    refine ⟨by decide, ?_⟩
    have kn := same_new (o := .tup []) hpn
    have fn : upd Hm pn (.tup []) pn = some (.tup []) := upd_same
    generalize upd Hm pn (.tup []) = Hn at *
    intro po hpo
    have ko := same_new (o := .tup [.ref pn]) hpo
    have fo : upd Hn po (.tup [.ref pn]) po = some (.tup [.ref pn]) := upd_same
    generalize upd Hn po (.tup [.ref pn]) = Ho at *
    refine catT ((kn.trans ko) _ _ fm) fo (by rw [List.length_map]; exact sz100 (by simp; omega)) fun pq Hq kq fq => ?_
    have kQ : Same Hi Hq := ((kL.trans km).trans (kn.trans ko)).trans kq
    refine ixl_nat (j := 0) (sql_of (kQ _ _ hLi)) hw0 ⟨by decide, fun pr hpr => ⟨by decide, ?_⟩⟩
    have kr := same_new (o := .tup [.str w0, .non]) hpr
    have fr : upd Hq pr (.tup [.str w0, .non]) pr = some (.tup [.str w0, .non]) := upd_same
    generalize upd Hq pr (.tup [.str w0, .non]) = Hr at *
    intro ps hps
    refine ⟨by decide, ?_⟩
    have ks := same_new (o := .tup [.int 0]) hps
    have fs : upd Hr ps (.tup [.int 0]) ps = some (.tup [.int 0]) := upd_same
    generalize upd Hr ps (.tup [.int 0]) = Hs at *
    intro pt hpt
    refine ⟨by decide, ?_⟩
    have kt := same_new (o := .tup [.bl true]) hpt
    have ft : upd Hs pt (.tup [.bl true]) pt = some (.tup [.bl true]) := upd_same
    generalize upd Hs pt (.tup [.bl true]) = Ht at *
    intro pu hpu
    have kT : Same Hi Ht := ((kQ.trans kr).trans ks).trans kt
    have gT : Gr d H2 Ht := gI.trans (Gr.same gI.dice kT)
    refine pick_new gT.dice hpu (by simp) (by simp) fun y2 Hu hy2 gu => ?_
    have gU : Gr d H2 Hu := gT.trans gu
    have kst := ks.trans kt
    have kqt := kq.trans (kr.trans kst)
    have kmt := (kn.trans ko).trans kqt
    obtain ⟨a2, xs2, rfl, f2, i2, x2, hx2, nx2⟩ : ∃ a xs, y2 = .ref a ∧ Hu a = some (.tup xs) ∧ Itm Hu xs ∧ ∃ x, x ∈ xs ∧ nameV x = false := by
      have tk : ∀ {a : Addr} {xs : List V}, Ht a = some (.tup xs) → Hu a = some (.tup xs) := fun {a xs} h => gu.keep _ _ (gT.dice.ne_tup h) h
      have nos : ∀ {a : Addr} (y : Str), V.ref a = .str y → y.length ≤ sizeLine := fun y e => nomatch e
      simp only [List.mem_cons, List.not_mem_nil, or_false] at hy2
      rcases hy2 with h | h | h | h | h | h <;> subst h
      · exact ⟨_, _, rfl, tk (((kl.trans km).trans kmt) _ _ fk), Itm.nil.cons (.tup (tk ((((kk.trans kl).trans km).trans kmt) _ _ fj))) nos, _, List.mem_cons_self, rfl⟩
      · exact ⟨_, _, rfl, tk ((km.trans kmt) _ _ fl), Itm.nil.cons (Kn.gr gu (.lst (kT _ _ hLi))) nos, _, List.mem_cons_self, rfl⟩
      · refine ⟨_, _, rfl, tk ((kr.trans kst) _ _ fq), ?_, .ref pn, by simp, rfl⟩
        refine ⟨fun x hx => ?_, fun y hy => ?_⟩
        · rcases List.mem_append.mp hx with hx | hx
          · exact (itmW hws).kn x hx
          · rw [List.mem_singleton.mp hx]
            exact ⟨_, .tup (tk ((ko.trans kqt) _ _ fn))⟩
        · rcases List.mem_append.mp hy with hy | hy
          · exact (itmW (H := Hu) hws).sz y hy
          · exact nomatch List.mem_singleton.mp hy
      · exact ⟨_, _, rfl, tk (kst _ _ fr), (Itm.nil.cons .non (fun y e => nomatch e)).str z0, .non, by simp, rfl⟩
      · exact ⟨_, _, rfl, tk (kt _ _ fs), Itm.nil.cons (.int _) (fun y e => nomatch e), _, List.mem_cons_self, rfl⟩
      · exact ⟨_, _, rfl, tk ft, Itm.nil.cons (.bl _) (fun y e => nomatch e), _, List.mem_cons_self, rfl⟩
    have hLu : Hu p = some (.lst (ws.map V.str)) := gU.keep _ _ np hL
    have q1u : Kn Hu y1 t1 := (q1.same kT).gr gu
    clear kj kk kl km kn ko kq kr ks kt kst kqt kmt fj fk fl fm fn fo fq fr fs ft kL kQ kT
    refine notype q1u m1 fun Hv kv => nofront (q1u.same kv) m1 fun Hw kw => istype ((kv.trans kw) _ _ f2) (i2.same (kv.trans kw)) fun Hx kx => ?_
    have kX := (kv.trans kw).trans kx
    refine isfront (kX _ _ f2) (i2.same kX) fun Hy ky => ?_
    have kY := kX.trans ky
    refine tupL (sql_of (kY _ _ hLu)) fun pz hpz => ?_
    have kz := same_new (o := .tup (ws.map V.str)) hpz
    have fz : upd Hy pz (.tup (ws.map V.str)) pz = some (.tup (ws.map V.str)) := upd_same
    generalize upd Hy pz (.tup (ws.map V.str)) = Hz at *
    refine isname (.tup fz) (fun y e => nomatch e) fun H0' k0' => ?_
    have kZ := (kY.trans kz).trans k0'
    refine ixl_nat (j := 0) (sql_of (kZ _ _ hLu)) hw0 (isnameS z0 fun H1' k1' => ⟨by decide, fun p1' hp1' => ?_⟩)
    have kZ1 := kZ.trans k1'
    refine rp_bools [false, false, namesV xs2 1 401, namesV xs2 0 400, false, isNm w0] (sql_of upd_same) (by simp) ⟨by decide, ?_⟩
    have k2' := same_new (o := .lst [.bl false, .bl false, .bl (namesV xs2 1 401), .bl (namesV xs2 0 400), .bl (nameV (.ref pz)), .bl (isNm w0)]) hp1'
    have f2' : upd H1' p1' (.lst [.bl false, .bl false, .bl (namesV xs2 1 401), .bl (namesV xs2 0 400), .bl (nameV (.ref pz)), .bl (isNm w0)]) p1' = some (.lst [.bl false, .bl false, .bl (namesV xs2 1 401), .bl (namesV xs2 0 400), .bl (nameV (.ref pz)), .bl (isNm w0)]) := upd_same
    generalize upd H1' p1' (.lst [.bl false, .bl false, .bl (namesV xs2 1 401), .bl (namesV xs2 0 400), .bl (nameV (.ref pz)), .bl (isNm w0)]) = H2' at *
    intro p3' hp3'
    have k3' := same_new (o := .lst [.bl false]) hp3'
    have f3' : upd H2' p3' (.lst [.bl false]) p3' = some (.lst [.bl false]) := upd_same
    generalize upd H2' p3' (.lst [.bl false]) = H3' at *
    refine ⟨p3', 5, _, rfl, rfl, f3', by decide, by decide, by decide, fun p4' hp4' => ⟨by decide, ?_⟩⟩
    have k4' := same_new (o := .lst (List.replicate (Int.toNat 5) [.bl false]).flatten) hp4'
    have f4' : upd H3' p4' (.lst (List.replicate (Int.toNat 5) [.bl false]).flatten) p4' = some (.lst (List.replicate (Int.toNat 5) [.bl false]).flatten) := upd_same
    generalize upd H3' p4' (.lst (List.replicate (Int.toNat 5) [.bl false]).flatten) = H4' at *
    intro p5' hp5'
    have k5' := same_new (o := .lst [.bl true]) hp5'
    have f5' : upd H4' p5' (.lst [.bl true]) p5' = some (.lst [.bl true]) := upd_same
    generalize upd H4' p5' (.lst [.bl true]) = H5' at *
    refine ⟨p4', p5', _, _, rfl, rfl, k5' _ _ f4', f5', by decide, fun p6' hp6' => ?_⟩
    have hl6 : SqL K (upd H5' p6' (.lst ((List.replicate (Int.toNat 5) [V.bl false]).flatten ++ [V.bl true]))) p6' ([false, false, false, false, false, true].map V.bl) := sql_of upd_same
    refine rp_bools [false, false, false, false, false, true] hl6 (by decide) ⟨rfl, ne_not ?_ ?_⟩
    · rw [names_bad hx2 nx2, names_bad hx2 nx2, n0]
    clear hl6
    have k6' := same_new (o := .lst ((List.replicate (Int.toNat 5) [V.bl false]).flatten ++ [V.bl true])) hp6'
    have f6' : upd H5' p6' (.lst ((List.replicate (Int.toNat 5) [V.bl false]).flatten ++ [V.bl true])) p6' = some (.lst ((List.replicate (Int.toNat 5) [V.bl false]).flatten ++ [V.bl true])) := upd_same
    generalize upd H5' p6' (.lst ((List.replicate (Int.toNat 5) [V.bl false]).flatten ++ [V.bl true])) = H6' at *
    have kB : Same Hu H6' := (((((kZ1.trans k2').trans k3').trans k4').trans k5').trans k6')
    have gB : Gr d H2 H6' := gU.trans (Gr.same gU.dice kB)
    have hLb : H6' p = some (.lst (ws.map V.str)) := gB.keep _ _ np hL
    clear k2' k3' k4' k5' k6' kZ1 k1' k0' kz ky kx kv kw
    refine tupL (sql_of hLb) fun p7' hp7' => ?_
    have k7' := same_new (o := .tup (ws.map V.str)) hp7'
    have f7' : upd H6' p7' (.tup (ws.map V.str)) p7' = some (.tup (ws.map V.str)) := upd_same
    generalize upd H6' p7' (.tup (ws.map V.str)) = H7' at *
    have hne : ws.map V.str ≠ [] := by
      intro e
      rw [List.map_eq_nil_iff] at e
      rw [e] at hl1
      simp at hl1
    refine ⟨p7', 403, _, rfl, rfl, sqt_of f7', hne, by decide, by decide, by rw [List.length_map]; omega, fun p8' hp8' => ?_⟩
    have eb : (List.replicate (Int.toNat 403) (ws.map V.str)).flatten = ((List.replicate 403 ws).flatten).map V.str := by
      rw [List.map_flatten, List.map_replicate]
      rfl
    rw [eb]
    have bl1 : 403 ≤ ((List.replicate 403 ws).flatten).length := by
      have := rep_len 403 ws
      omega
    have bn1 : ∀ w ∈ (List.replicate 403 ws).flatten, isNm w = true := by
      intro w hw
      obtain ⟨l, hl, hw⟩ := List.mem_flatten.mp hw
      rw [List.eq_of_mem_replicate hl] at hw
      exact hws w hw
    generalize (List.replicate 403 ws).flatten = big at bl1 bn1
    have k8' := same_new (o := .tup (big.map V.str)) hp8'
    have f8' : upd H7' p8' (.tup (big.map V.str)) p8' = some (.tup (big.map V.str)) := upd_same
    generalize upd H7' p8' (.tup (big.map V.str)) = H8' at *
    refine slTo 403 f8' fun p9' H9' k9' f9' => ?_
    have rl : (big.take 403).length = 403 := by rw [List.length_take]; omega
    have rn : ∀ w ∈ big.take 403, isNm w = true := fun w hw => bn1 w (List.mem_of_mem_take hw)
    generalize big.take 403 = row at rl rn f9'
    have tn : ∀ n : Nat, ∀ w ∈ row.take n, isNm w = true := fun n w hw => rn w (List.mem_of_mem_take hw)
    have tl : ∀ n : Nat, n ≤ 403 → (row.take n).length = n := fun n hn => by rw [List.length_take]; omega
    refine slTo 400 f9' fun pA HA kA fA => isfront fA (itmW (tn 400)) fun HB kB' => ?_
    have c1 := kA.trans kB'
    refine slTo 401 (c1 _ _ f9') fun pC HC kC fC => isfront fC (itmW (tn 401)) fun HD kD => ?_
    have c2 := c1.trans (kC.trans kD)
    refine slTo 401 (c2 _ _ f9') fun pE HE kE fE => istype fE (itmW (tn 401)) fun HF kF => ?_
    have c3 := c2.trans (kE.trans kF)
    refine slTo 402 (c3 _ _ f9') fun pG HG kG fG => istype fG (itmW (tn 402)) fun HH kH' => ?_
    have c4 := c3.trans (kG.trans kH')
    refine slTo 400 (c4 _ _ f9') fun pI HI kI fI => istype fI (itmW (tn 400)) fun HJ kJ => ⟨by decide, fun pK hpK => ?_⟩
    have c5 := c4.trans (kI.trans kJ)
    have kK := same_new (o := .lst [.bl (namesV ((row.take 400).map V.str) 0 400), .bl (namesV ((row.take 401).map V.str) 0 400), .bl (namesV ((row.take 401).map V.str) 1 401), .bl (namesV ((row.take 402).map V.str) 1 401), .bl (namesV ((row.take 400).map V.str) 1 401)]) hpK
    have fK : upd HJ pK (.lst [.bl (namesV ((row.take 400).map V.str) 0 400), .bl (namesV ((row.take 401).map V.str) 0 400), .bl (namesV ((row.take 401).map V.str) 1 401), .bl (namesV ((row.take 402).map V.str) 1 401), .bl (namesV ((row.take 400).map V.str) 1 401)]) pK = some (.lst [.bl (namesV ((row.take 400).map V.str) 0 400), .bl (namesV ((row.take 401).map V.str) 0 400), .bl (namesV ((row.take 401).map V.str) 1 401), .bl (namesV ((row.take 402).map V.str) 1 401), .bl (namesV ((row.take 400).map V.str) 1 401)]) := upd_same
    generalize upd HJ pK (.lst [.bl (namesV ((row.take 400).map V.str) 0 400), .bl (namesV ((row.take 401).map V.str) 0 400), .bl (namesV ((row.take 401).map V.str) 1 401), .bl (namesV ((row.take 402).map V.str) 1 401), .bl (namesV ((row.take 400).map V.str) 1 401)]) = HK at *
    have cK : Same H6' HK := ((k7'.trans k8').trans (k9'.trans c5)).trans kK
    have gK : Gr d H2 HK := gB.trans (Gr.same gB.dice cK)
    refine roll_new gK.dice (by decide) (by decide) fun i HL i0 i4 gL => ?_
    obtain ⟨j, rfl⟩ := Int.eq_ofNat_of_zero_le i0
    walk_at "rd"
    have hJ := gB.dice
    have npK : pK ≠ d := by
      intro e
      rw [e] at hpK
      obtain ⟨x, y, z, hz⟩ := gB.dice
      rw [((k7'.trans k8').trans (k9'.trans c5)) _ _ hz] at hpK
      cases hpK
    have fL : HL pK = _ := gL.keep _ _ npK fK
    have rK : HK p9' = some (.tup (row.map V.str)) := (c5.trans kK) _ _ f9'
    have rL : HL p9' = some (.tup (row.map V.str)) := gL.keep _ _ (gK.dice.ne_tup rK) rK
    refine ⟨tyl (sql_of fL), slTo j rL fun pM HM kM fM => ⟨by decide, fun pN hpN => ?_⟩⟩
    have kN := same_new (o := .tup [.str (Str.ofString "to")]) hpN
    have fN : upd HM pN (.tup [.str (Str.ofString "to")]) pN = some (.tup [.str (Str.ofString "to")]) := upd_same
    generalize upd HM pN (.tup [.str (Str.ofString "to")]) = HN at *
    have zt : (Str.ofString "to").length ≤ sizeLine := by decide
    refine catT (kN _ _ fM) fN (by rw [List.length_map, tl j (by omega)]; exact sz100 (by simp; omega)) fun pO HO' kO fO => ?_
    have cO := (kM.trans kN).trans kO
    refine slT (cO _ _ rL) fun pP HP kP fP => catT (kP _ _ fO) fP ?_ fun pQ HQ kQ fQ => ?_
    · have := cut_len (xs := row.map V.str) (lo := some (j : Int)) (hi := some 400)
      rw [List.length_map, rl] at this
      rw [List.length_append, List.length_map, tl j (by omega)]
      exact sz100 (by simp; omega)
    have iQ : Itm HQ ((row.take j).map V.str ++ [.str (Str.ofString "to")] ++ cutV (row.map V.str) (some (j : Int)) (some 400)) := by
      refine ⟨fun x hx => ?_, fun y hy => ?_⟩
      · rcases List.mem_append.mp hx with hx | hx
        · rcases List.mem_append.mp hx with hx | hx
          · exact (itmW (tn j)).kn x hx
          · rw [List.mem_singleton.mp hx]
            exact ⟨_, .str _⟩
        · exact (itmW rn).kn x (cut_mid j 400 x hx)
      · rcases List.mem_append.mp hy with hy | hy
        · rcases List.mem_append.mp hy with hy | hy
          · exact (itmW (H := HQ) (tn j)).sz y hy
          · cases List.mem_singleton.mp hy
            exact zt
        · exact (itmW (H := HQ) rn).sz y (cut_mid j 400 _ hy)
    refine istype fQ iQ fun HR kR => ?_
    have cR : Same HL HR := ((cO.trans kP).trans kQ).trans kR
    have gR : Gr d H2 HR := (gK.trans gL).trans (Gr.same gL.dice cR)
    have gJ : Gr d H2 HJ := gB.trans (Gr.same gB.dice ((k7'.trans k8').trans (k9'.trans c5)))
    have hK0 : H pK = none := (g0.trans gJ).back hpK
    refine ⟨pK, _, _, rfl, rfl, cR _ _ fL, sz100' (by simp), ?_⟩
    refine rp_eq [namesV ((row.take 400).map V.str) 0 400, namesV ((row.take 401).map V.str) 0 400, namesV ((row.take 401).map V.str) 1 401, namesV ((row.take 402).map V.str) 1 401, namesV ((row.take 400).map V.str) 1 401,
      namesV ((row.take j).map V.str ++ [.str (Str.ofString "to")] ++ cutV (row.map V.str) (some (j : Int)) (some 400)) 1 401] [true, false, true, false, true, false] (sql_of upd_same) (by simp) (by decide) ?_ fun pS hpS => ?_
    · have l400 := tl 400 (by decide)
      have l401 := tl 401 (by decide)
      have l402 := tl 402 (by decide)
      rw [names_all (tn 400) (by omega) (by omega), names_len (lo := 0) (hi := 400) (xs := (row.take 401).map V.str) (by rw [List.length_map, l401]; decide),
        names_all (tn 401) (by omega) (by omega), names_len (xs := (row.take 402).map V.str) (by rw [List.length_map, l402]; decide),
        names_all (tn 400) (by omega) (by omega), names_bad (x := .str (Str.ofString "to")) (by simp) (by decide +kernel)]
    · have gS := (g0.trans gR).mut (o := .lst ([.bl (namesV ((row.take 400).map V.str) 0 400), .bl (namesV ((row.take 401).map V.str) 0 400), .bl (namesV ((row.take 401).map V.str) 1 401), .bl (namesV ((row.take 402).map V.str) 1 401), .bl (namesV ((row.take 400).map V.str) 1 401)] ++
        [.bl (namesV ((row.take j).map V.str ++ [.str (Str.ofString "to")] ++ cutV (row.map V.str) (some (j : Int)) (some 400)) 1 401)])) hK0 npK
      exact q _ (gS.trans (Gr.new gS.dice hpS))
end

section
variable {P : Program} {w : World} {K : PySem.W.Frag} {mg : Str → Option Value} {base : Heap}
def spLaw (K : PySem.W.Frag) : Sp := fun vs H Q _ => ∃ (a : Addr) (ns : List Int), vs = [.ref a] ∧ SqL K H a (ns.map V.int) ∧ ns.length ≤ 63 ∧ ∀ H', Q (.bl true) H'
def inv_law (K : PySem.W.Frag) (a : Addr) (ns : List Int) : Nat → L2.St → Hp → Prop := fun i σ H => ∃ x1 x2 : Option V, σ = [some (.ref a), x1, x2] ∧ SqL K H a (ns.map V.int)
theorem ok_law (T : Tx K mg) : FnG P w K mg base CX0 5 T.f_law T.d_law ["_law_script"] (spLaw K) := by
  refine okG T.F_law sc_law (fun vs H Q E h => ?_) (fun cdv A outer s H vs Q E hgd hr h => ?_)
  · obtain ⟨a, ns, rfl, _⟩ := h
    rfl
  · obtain ⟨a, ns, rfl, hS, hl, q⟩ := h
    refine ⟨_, (pss_cons (ps_for PassesOwn.never rfl (pi_range1 (by rfl) T.n_range (pa_cons (pe_callB (call_max2 rfl) (by rfl) T.n_max (by decide +kernel) (pa_cons pe_int (pa_cons (pe_callB (call_min2 rfl) (by rfl) T.n_min (by decide +kernel) (pa_cons pe_int (pa_cons (pe_callB call_len (by rfl) T.n_len (by decide +kernel) (pa_cons (pv 0) pa_nil)) pa_nil))) pa_nil))) pa_nil)) (pg_name (i := 1) sc_law.nd rfl (Or.inl rfl)) (pss_cons (ps_set (i := 2) sc_law.nd rfl (Or.inl rfl) (pe_call (ok_law_dice T) (hr.mono (by decide)) (by rfl) T.g__law_dice T.F__law_dice.kp T.b__law_dice .nil pass0 (pa_cons (pv 0) (pa_cons (pv 1) pa_nil))))
      (pss_cons (ps_if (PW.pt (pw_or (pt_not (pt_val (pe_callG (ok_law_integers_right T) hgd (hr.mono (by decide)) (by rfl) T.g__law_integers_right T.F__law_integers_right.kp T.b__law_integers_right .nil pass0 (pa_cons (pv 2) pa_nil)))) (pw_or (pt_not (pt_val (pe_callG (ok_law_names_right T) hgd (hr.mono (by decide)) (by rfl) T.g__law_names_right T.F__law_names_right.kp T.b__law_names_right .nil pass0 (pa_cons (pv 2) pa_nil)))) (pw_or1 (pt_not (pt_val (pe_callG (ok_law_names_right T) hgd (hr.mono (by decide)) (by rfl) T.g__law_names_right T.F__law_names_right.kp T.b__law_names_right .nil pass0 (pa_cons (pv 2) pa_nil)))))))) (pss_one (ps_ret pe_bl)) pss_nil)
      (pss_one (ps_if (pt_not (pt_val (pe_callG (ok_law_tuples_right T) hgd (hr.mono (by decide)) (by rfl) T.g__law_tuples_right T.F__law_tuples_right.kp T.b__law_tuples_right .nil pass0 (pa_cons (pv 2) pa_nil)))) (pss_one (ps_ret pe_bl)) pss_nil)))))
      (pss_one (ps_ret (pe_cmpR op_eq (pe_callB (call_rp hgd hr.units) (by rfl) T.n_repr (by decide +kernel) (pa_cons (pe_lst (pa_cons (pe_glob (v := .int (400)) (by rfl) T.m_MAX_DEPTH ⟨_, rfl⟩) (pa_cons (pe_glob (v := .int (9)) (by rfl) T.m_MAX_RANK ⟨_, rfl⟩) pa_nil))) pa_nil)) (pe_callB (call_rp hgd hr.units) (by rfl) T.n_repr (by decide +kernel) (pa_cons (pe_lst (pa_cons pe_int (pa_cons pe_int pa_nil))) pa_nil)) (nomark _))))), ?_⟩
    walk_at "rd"
    refine ⟨ns.length, .inl ⟨_, hS, by rw [List.length_map]⟩, ?_⟩
    obtain ⟨m, em, hm⟩ : ∃ m : Nat, (if (if (ns.length : Int) < 8 then (ns.length : Int) else 8) > 1 then if (ns.length : Int) < 8 then (ns.length : Int) else 8 else 1) = (m : Int) ∧ m ≤ 8 := by
      refine ⟨(if (if (ns.length : Int) < 8 then (ns.length : Int) else 8) > 1 then if (ns.length : Int) < 8 then (ns.length : Int) else 8 else 1).toNat, ?_, ?_⟩ <;> (split <;> split <;> omega)
    rw [em]
    refine ⟨by omega, by omega, forB walk_range (inv_law K a ns) ⟨none, none, rfl, hS⟩ (fun _ _ _ _ _ => trivial) ?_ ?_⟩
    · rintro i x σ H1 H2 hi ⟨x1, x2, rfl, h1⟩ ⟨rfl, rfl⟩
      walk_at "rd"
      refine ⟨a, ns, i, by rw [Int.zero_add], h1, by omega, fun p x y z hp => ?_⟩
      have d0 : Dc (upd H2 p (.lst [.int x, .int y, .int z])) p := ⟨x, y, z, upd_same⟩
      have fin : ∀ H', Gr p (upd H2 p (.lst [.int x, .int y, .int z])) H' → SqL K H' a (ns.map V.int) := fun H' g => by
        rcases h1 with (h | ⟨o, h⟩) | h
        · have ne := ne_of_none h hp
          exact .inl (.inl (g.keep _ _ ne (by rw [upd_ne ne]; exact h)))
        · have ne := ne_of_none h hp
          exact .inl (.inr ⟨o, g.keep _ _ ne (by rw [upd_ne ne]; exact h)⟩)
        · exact .inr h
      refine ⟨p, rfl, d0, fun H3 g3 => ?_⟩
      walk_at "rd"
      refine ⟨p, rfl, g3.dice, fun H4 g4 => ?_⟩
      walk_at "rd"
      refine ⟨p, rfl, g4.dice, fun H5 g5 => ?_⟩
      walk_at "rd"
      refine ⟨p, rfl, g5.dice, fun H6 g6 => ?_⟩
      walk_at "rd"
      exact ⟨_, _, rfl, fin _ (((g3.trans g4).trans g5).trans g6)⟩
    · rintro σ H1 ⟨x1, x2, rfl, h1⟩
      walk_at "rd"
      have rp : ∀ {H : Hp} {p : Addr} {Q : VK}, H p = some (.lst [.int 400, .int 9]) → Q (.str (PyData.list [.int 400, .int 9]).shown) H → rRp K [.ref p] H Q := fun hp q =>
        ⟨_, .list [.int 400, .int 9], rfl, .lst (sql_of hp) (.cons (.int _) (.cons (.int _) .nil)), ⟨rfl, by decide +kernel, by decide +kernel, by decide +kernel, by decide +kernel⟩, q⟩
      refine ⟨by decide, fun p hp => rp upd_same ⟨by decide, fun p2 hp2 => rp upd_same ⟨rfl, ?_⟩⟩⟩
      rw [decide_eq_true rfl]
      exact q _
theorem law_sp (K : PySem.W.Frag) (H : Hp) (a : Addr) (ns : List Int) (hl : ns.length ≤ 63) (_ : Only H) (hS : SqL K H a (ns.map V.int)) : spLaw K [.ref a] H (fun v _ => v = .bl true) E0 :=
  ⟨a, ns, rfl, hS, hl, fun _ => rfl⟩
end

theorem all_mk {l : PySem.W.OpenLaw} {w : World} {K : PySem.W.Frag} {h : Heap} {mg : Str → Option Value} {fa : Addr} (X : K.In h) (G : h.Ns mainGlobals mg) (hfa : mg "law" = some (.ref fa))
    {f0 : Addr} {od0 an0 : Option Addr} {sl0 : Array (Option Value)} {oc0 kV0 dc0 pm0 cd0 ct0 : Value}
    {f1 : Addr} {od1 an1 : Option Addr} {sl1 : Array (Option Value)} {oc1 kV1 dc1 pm1 cd1 ct1 : Value}
    {f2 : Addr} {od2 an2 : Option Addr} {sl2 : Array (Option Value)} {oc2 kV2 dc2 pm2 cd2 ct2 : Value}
    {f3 : Addr} {od3 an3 : Option Addr} {sl3 : Array (Option Value)} {oc3 kV3 dc3 pm3 cd3 ct3 : Value}
    {f4 : Addr} {od4 an4 : Option Addr} {sl4 : Array (Option Value)} {oc4 kV4 dc4 pm4 cd4 ct4 : Value}
    {f5 : Addr} {od5 an5 : Option Addr} {sl5 : Array (Option Value)} {oc5 kV5 dc5 pm5 cd5 ct5 : Value}
    {f6 : Addr} {od6 an6 : Option Addr} {sl6 : Array (Option Value)} {oc6 kV6 dc6 pm6 cd6 ct6 : Value}
    {f7 : Addr} {od7 an7 : Option Addr} {sl7 : Array (Option Value)} {oc7 kV7 dc7 pm7 cd7 ct7 : Value}
    {f8 : Addr} {od8 an8 : Option Addr} {sl8 : Array (Option Value)} {oc8 kV8 dc8 pm8 cd8 ct8 : Value}
    {f9 : Addr} {od9 an9 : Option Addr} {sl9 : Array (Option Value)} {oc9 kV9 dc9 pm9 cd9 ct9 : Value}
    {f10 : Addr} {od10 an10 : Option Addr} {sl10 : Array (Option Value)} {oc10 kV10 dc10 pm10 cd10 ct10 : Value}
    {f11 : Addr} {od11 an11 : Option Addr} {sl11 : Array (Option Value)} {oc11 kV11 dc11 pm11 cd11 ct11 : Value}
    {f12 : Addr} {od12 an12 : Option Addr} {sl12 : Array (Option Value)} {oc12 kV12 dc12 pm12 cd12 ct12 : Value}
    {f13 : Addr} {od13 an13 : Option Addr} {sl13 : Array (Option Value)} {oc13 kV13 dc13 pm13 cd13 ct13 : Value}
    {f14 : Addr} {od14 an14 : Option Addr} {sl14 : Array (Option Value)} {oc14 kV14 dc14 pm14 cd14 ct14 : Value}
    {t_MAX_DEPTH : Tok}
    {t_MAX_RANK : Tok}
    {t_MAX_LETTERS : Tok}
    {a_KEYWORDS : Addr}
    {o_KEYWORDS : Option Addr} {n_KEYWORDS : Nat} {sl_KEYWORDS : Array (Option Value)} {t0_KEYWORDS t1_KEYWORDS : Tok}
    (a0 : PySem.W.nsIn K mainGlobals "is_integer" = some (some (.ref f0)))
    (l0 : K.lookup f0 = some ⟨oc0, od0, .func (PySem.W.fnOf "is_integer" "is_integer" (defArgs s_is_integer) (defBody s_is_integer) (defScope s_is_integer) .none kV0 dc0 pm0 an0 cd0 ct0), sl0⟩)
    (c0 : PySem.W.codeIn K cd0 "is_integer" = true)
    (k0 : PySem.W.keepIn K (.ref f0) = true)
    (a1 : PySem.W.nsIn K mainGlobals "is_name" = some (some (.ref f1)))
    (l1 : K.lookup f1 = some ⟨oc1, od1, .func (PySem.W.fnOf "is_name" "is_name" (defArgs s_is_name) (defBody s_is_name) (defScope s_is_name) .none kV1 dc1 pm1 an1 cd1 ct1), sl1⟩)
    (c1 : PySem.W.codeIn K cd1 "is_name" = true)
    (k1 : PySem.W.keepIn K (.ref f1) = true)
    (a2 : PySem.W.nsIn K mainGlobals "is_names" = some (some (.ref f2)))
    (l2 : K.lookup f2 = some ⟨oc2, od2, .func (PySem.W.fnOf "is_names" "is_names" (defArgs s_is_names) (defBody s_is_names) (defScope s_is_names) .none kV2 dc2 pm2 an2 cd2 ct2), sl2⟩)
    (c2 : PySem.W.codeIn K cd2 "is_names" = true)
    (k2 : PySem.W.keepIn K (.ref f2) = true)
    (a3 : PySem.W.nsIn K mainGlobals "is_type" = some (some (.ref f3)))
    (l3 : K.lookup f3 = some ⟨oc3, od3, .func (PySem.W.fnOf "is_type" "is_type" (defArgs s_is_type) (defBody s_is_type) (defScope s_is_type) .none kV3 dc3 pm3 an3 cd3 ct3), sl3⟩)
    (c3 : PySem.W.codeIn K cd3 "is_type" = true)
    (k3 : PySem.W.keepIn K (.ref f3) = true)
    (a4 : PySem.W.nsIn K mainGlobals "is_front" = some (some (.ref f4)))
    (l4 : K.lookup f4 = some ⟨oc4, od4, .func (PySem.W.fnOf "is_front" "is_front" (defArgs s_is_front) (defBody s_is_front) (defScope s_is_front) .none kV4 dc4 pm4 an4 cd4 ct4), sl4⟩)
    (c4 : PySem.W.codeIn K cd4 "is_front" = true)
    (k4 : PySem.W.keepIn K (.ref f4) = true)
    (a5 : PySem.W.nsIn K mainGlobals "_law_dice" = some (some (.ref f5)))
    (l5 : K.lookup f5 = some ⟨oc5, od5, .func (PySem.W.fnOf "_law_dice" "_law_dice" (defArgs s_law_dice) (defBody s_law_dice) (defScope s_law_dice) .none kV5 dc5 pm5 an5 cd5 ct5), sl5⟩)
    (c5 : PySem.W.codeIn K cd5 "_law_dice" = true)
    (k5 : PySem.W.keepIn K (.ref f5) = true)
    (a6 : PySem.W.nsIn K mainGlobals "_law_roll" = some (some (.ref f6)))
    (l6 : K.lookup f6 = some ⟨oc6, od6, .func (PySem.W.fnOf "_law_roll" "_law_roll" (defArgs s_law_roll) (defBody s_law_roll) (defScope s_law_roll) .none kV6 dc6 pm6 an6 cd6 ct6), sl6⟩)
    (c6 : PySem.W.codeIn K cd6 "_law_roll" = true)
    (k6 : PySem.W.keepIn K (.ref f6) = true)
    (a7 : PySem.W.nsIn K mainGlobals "_law_pick" = some (some (.ref f7)))
    (l7 : K.lookup f7 = some ⟨oc7, od7, .func (PySem.W.fnOf "_law_pick" "_law_pick" (defArgs s_law_pick) (defBody s_law_pick) (defScope s_law_pick) .none kV7 dc7 pm7 an7 cd7 ct7), sl7⟩)
    (c7 : PySem.W.codeIn K cd7 "_law_pick" = true)
    (k7 : PySem.W.keepIn K (.ref f7) = true)
    (a8 : PySem.W.nsIn K mainGlobals "_law_some" = some (some (.ref f8)))
    (l8 : K.lookup f8 = some ⟨oc8, od8, .func (PySem.W.fnOf "_law_some" "_law_some" (defArgs s_law_some) (defBody s_law_some) (defScope s_law_some) .none kV8 dc8 pm8 an8 cd8 ct8), sl8⟩)
    (c8 : PySem.W.codeIn K cd8 "_law_some" = true)
    (k8 : PySem.W.keepIn K (.ref f8) = true)
    (a9 : PySem.W.nsIn K mainGlobals "_law_names" = some (some (.ref f9)))
    (l9 : K.lookup f9 = some ⟨oc9, od9, .func (PySem.W.fnOf "_law_names" "_law_names" (defArgs s_law_names) (defBody s_law_names) (defScope s_law_names) .none kV9 dc9 pm9 an9 cd9 ct9), sl9⟩)
    (c9 : PySem.W.codeIn K cd9 "_law_names" = true)
    (k9 : PySem.W.keepIn K (.ref f9) = true)
    (a10 : PySem.W.nsIn K mainGlobals "_law_integers_right" = some (some (.ref f10)))
    (l10 : K.lookup f10 = some ⟨oc10, od10, .func (PySem.W.fnOf "_law_integers_right" "_law_integers_right" (defArgs s_law_integers_right) (defBody s_law_integers_right) (defScope s_law_integers_right) .none kV10 dc10 pm10 an10 cd10 ct10), sl10⟩)
    (c10 : PySem.W.codeIn K cd10 "_law_integers_right" = true)
    (k10 : PySem.W.keepIn K (.ref f10) = true)
    (a11 : PySem.W.nsIn K mainGlobals "_law_odd_sign" = some (some (.ref f11)))
    (l11 : K.lookup f11 = some ⟨oc11, od11, .func (PySem.W.fnOf "_law_odd_sign" "_law_odd_sign" (defArgs s_law_odd_sign) (defBody s_law_odd_sign) (defScope s_law_odd_sign) .none kV11 dc11 pm11 an11 cd11 ct11), sl11⟩)
    (c11 : PySem.W.codeIn K cd11 "_law_odd_sign" = true)
    (k11 : PySem.W.keepIn K (.ref f11) = true)
    (a12 : PySem.W.nsIn K mainGlobals "_law_names_right" = some (some (.ref f12)))
    (l12 : K.lookup f12 = some ⟨oc12, od12, .func (PySem.W.fnOf "_law_names_right" "_law_names_right" (defArgs s_law_names_right) (defBody s_law_names_right) (defScope s_law_names_right) .none kV12 dc12 pm12 an12 cd12 ct12), sl12⟩)
    (c12 : PySem.W.codeIn K cd12 "_law_names_right" = true)
    (k12 : PySem.W.keepIn K (.ref f12) = true)
    (a13 : PySem.W.nsIn K mainGlobals "_law_tuples_right" = some (some (.ref f13)))
    (l13 : K.lookup f13 = some ⟨oc13, od13, .func (PySem.W.fnOf "_law_tuples_right" "_law_tuples_right" (defArgs s_law_tuples_right) (defBody s_law_tuples_right) (defScope s_law_tuples_right) .none kV13 dc13 pm13 an13 cd13 ct13), sl13⟩)
    (c13 : PySem.W.codeIn K cd13 "_law_tuples_right" = true)
    (k13 : PySem.W.keepIn K (.ref f13) = true)
    (a14 : PySem.W.nsIn K mainGlobals "law" = some (some (.ref f14)))
    (l14 : K.lookup f14 = some ⟨oc14, od14, .func (PySem.W.fnOf "law" "law" (defArgs s_law) (defBody s_law) (defScope s_law) .none kV14 dc14 pm14 an14 cd14 ct14), sl14⟩)
    (c14 : PySem.W.codeIn K cd14 "law" = true)
    (k14 : PySem.W.keepIn K (.ref f14) = true)
    (e_MAX_DEPTH : PySem.W.nsIn K mainGlobals "MAX_DEPTH" = some (some (.int (400) t_MAX_DEPTH)))
    (e_MAX_RANK : PySem.W.nsIn K mainGlobals "MAX_RANK" = some (some (.int (9) t_MAX_RANK)))
    (e_MAX_LETTERS : PySem.W.nsIn K mainGlobals "MAX_LETTERS" = some (some (.int (8) t_MAX_LETTERS)))
    (e_KEYWORDS : PySem.W.nsIn K mainGlobals "KEYWORDS" = some (some (.ref a_KEYWORDS)))
    (w_KEYWORDS : K.lookup a_KEYWORDS = some ⟨.type "tuple", o_KEYWORDS, .seq #[.str "gives" t0_KEYWORDS, .str "to" t1_KEYWORDS] n_KEYWORDS, sl_KEYWORDS⟩)
    (z_abs : PySem.W.nsIn K mainGlobals "abs" = some none)
    (z_all : PySem.W.nsIn K mainGlobals "all" = some none)
    (z_bool : PySem.W.nsIn K mainGlobals "bool" = some none)
    (z_dict : PySem.W.nsIn K mainGlobals "dict" = some none)
    (z_int : PySem.W.nsIn K mainGlobals "int" = some none)
    (z_isinstance : PySem.W.nsIn K mainGlobals "isinstance" = some none)
    (z_len : PySem.W.nsIn K mainGlobals "len" = some none)
    (z_list : PySem.W.nsIn K mainGlobals "list" = some none)
    (z_max : PySem.W.nsIn K mainGlobals "max" = some none)
    (z_min : PySem.W.nsIn K mainGlobals "min" = some none)
    (z_range : PySem.W.nsIn K mainGlobals "range" = some none)
    (z_repr : PySem.W.nsIn K mainGlobals "repr" = some none)
    (z_str : PySem.W.nsIn K mainGlobals "str" = some none)
    (z_tuple : PySem.W.nsIn K mainGlobals "tuple" = some none)
    : ∃ fd : FuncData, (∀ (s : Shared) (v : Value), BindsTo s fd ⟨[v], []⟩ [("_law_script", v)]) ∧
      ∀ base : Heap, K.In base → base.Ns mainGlobals mg → FnG l.prog w K mg base CX0 5 fa fd ["_law_script"] (spLaw K) := by
  have e : fa = f14 := Value.ref.inj (Option.some.inj (hfa.symm.trans (PySem.W.mg_of X G a14)))
  rw [e]
  let T : Tx K mg := {
    f_is_integer := f0, d_is_integer := _, F_is_integer := fun_mk (st := s_is_integer) l0 c0 k0,
    b_is_integer := (fun_mk (st := s_is_integer) l0 c0 k0).binds (ps := ["value"]) fun _ _ _ _ _ _ us hl => match us, hl with | [_], _ => rfl,
    g_is_integer := PySem.W.mg_of X G a0,
    f_is_name := f1, d_is_name := _, F_is_name := fun_mk (st := s_is_name) l1 c1 k1,
    b_is_name := (fun_mk (st := s_is_name) l1 c1 k1).binds (ps := ["value"]) fun _ _ _ _ _ _ us hl => match us, hl with | [_], _ => rfl,
    g_is_name := PySem.W.mg_of X G a1,
    f_is_names := f2, d_is_names := _, F_is_names := fun_mk (st := s_is_names) l2 c2 k2,
    b_is_names := (fun_mk (st := s_is_names) l2 c2 k2).binds (ps := ["value", "least", "most"]) fun _ _ _ _ _ _ us hl => match us, hl with | [_, _, _], _ => rfl,
    g_is_names := PySem.W.mg_of X G a2,
    f_is_type := f3, d_is_type := _, F_is_type := fun_mk (st := s_is_type) l3 c3 k3,
    b_is_type := (fun_mk (st := s_is_type) l3 c3 k3).binds (ps := ["value"]) fun _ _ _ _ _ _ us hl => match us, hl with | [_], _ => rfl,
    g_is_type := PySem.W.mg_of X G a3,
    f_is_front := f4, d_is_front := _, F_is_front := fun_mk (st := s_is_front) l4 c4 k4,
    b_is_front := (fun_mk (st := s_is_front) l4 c4 k4).binds (ps := ["value"]) fun _ _ _ _ _ _ us hl => match us, hl with | [_], _ => rfl,
    g_is_front := PySem.W.mg_of X G a4,
    f__law_dice := f5, d__law_dice := _, F__law_dice := fun_mk (st := s_law_dice) l5 c5 k5,
    b__law_dice := (fun_mk (st := s_law_dice) l5 c5 k5).binds (ps := ["_law_script", "_law_spot"]) fun _ _ _ _ _ _ us hl => match us, hl with | [_, _], _ => rfl,
    g__law_dice := PySem.W.mg_of X G a5,
    f__law_roll := f6, d__law_roll := _, F__law_roll := fun_mk (st := s_law_roll) l6 c6 k6,
    b__law_roll := (fun_mk (st := s_law_roll) l6 c6 k6).binds (ps := ["_law_dice_here", "_law_upto"]) fun _ _ _ _ _ _ us hl => match us, hl with | [_, _], _ => rfl,
    g__law_roll := PySem.W.mg_of X G a6,
    f__law_pick := f7, d__law_pick := _, F__law_pick := fun_mk (st := s_law_pick) l7 c7 k7,
    b__law_pick := (fun_mk (st := s_law_pick) l7 c7 k7).binds (ps := ["_law_dice_here", "_law_items"]) fun _ _ _ _ _ _ us hl => match us, hl with | [_, _], _ => rfl,
    g__law_pick := PySem.W.mg_of X G a7,
    f__law_some := f8, d__law_some := _, F__law_some := fun_mk (st := s_law_some) l8 c8 k8,
    b__law_some := (fun_mk (st := s_law_some) l8 c8 k8).binds (ps := ["_law_dice_here", "_law_items", "_law_many"]) fun _ _ _ _ _ _ us hl => match us, hl with | [_, _, _], _ => rfl,
    g__law_some := PySem.W.mg_of X G a8,
    f__law_names := f9, d__law_names := _, F__law_names := fun_mk (st := s_law_names) l9 c9 k9,
    b__law_names := (fun_mk (st := s_law_names) l9 c9 k9).binds (ps := ["_law_dice_here", "_law_many"]) fun _ _ _ _ _ _ us hl => match us, hl with | [_, _], _ => rfl,
    g__law_names := PySem.W.mg_of X G a9,
    f__law_integers_right := f10, d__law_integers_right := _, F__law_integers_right := fun_mk (st := s_law_integers_right) l10 c10 k10,
    b__law_integers_right := (fun_mk (st := s_law_integers_right) l10 c10 k10).binds (ps := ["_law_dice_here"]) fun _ _ _ _ _ _ us hl => match us, hl with | [_], _ => rfl,
    g__law_integers_right := PySem.W.mg_of X G a10,
    f__law_odd_sign := f11, d__law_odd_sign := _, F__law_odd_sign := fun_mk (st := s_law_odd_sign) l11 c11 k11,
    b__law_odd_sign := (fun_mk (st := s_law_odd_sign) l11 c11 k11).binds (ps := ["_law_dice_here"]) fun _ _ _ _ _ _ us hl => match us, hl with | [_], _ => rfl,
    g__law_odd_sign := PySem.W.mg_of X G a11,
    f__law_names_right := f12, d__law_names_right := _, F__law_names_right := fun_mk (st := s_law_names_right) l12 c12 k12,
    b__law_names_right := (fun_mk (st := s_law_names_right) l12 c12 k12).binds (ps := ["_law_dice_here"]) fun _ _ _ _ _ _ us hl => match us, hl with | [_], _ => rfl,
    g__law_names_right := PySem.W.mg_of X G a12,
    f__law_tuples_right := f13, d__law_tuples_right := _, F__law_tuples_right := fun_mk (st := s_law_tuples_right) l13 c13 k13,
    b__law_tuples_right := (fun_mk (st := s_law_tuples_right) l13 c13 k13).binds (ps := ["_law_dice_here"]) fun _ _ _ _ _ _ us hl => match us, hl with | [_], _ => rfl,
    g__law_tuples_right := PySem.W.mg_of X G a13,
    f_law := f14, d_law := _, F_law := fun_mk (st := s_law) l14 c14 k14,
    b_law := (fun_mk (st := s_law) l14 c14 k14).binds (ps := ["_law_script"]) fun _ _ _ _ _ _ us hl => match us, hl with | [_], _ => rfl,
    g_law := PySem.W.mg_of X G a14,
    t_MAX_DEPTH := t_MAX_DEPTH, m_MAX_DEPTH := PySem.W.mg_of X G e_MAX_DEPTH,
    t_MAX_RANK := t_MAX_RANK, m_MAX_RANK := PySem.W.mg_of X G e_MAX_RANK,
    t_MAX_LETTERS := t_MAX_LETTERS, m_MAX_LETTERS := PySem.W.mg_of X G e_MAX_LETTERS,
    a_KEYWORDS := a_KEYWORDS, m_KEYWORDS := PySem.W.mg_of X G e_KEYWORDS, q_KEYWORDS := fun H => .inr ⟨_, _, _, w_KEYWORDS, rfl, rfl, (by show 2 ≤ sizeLine; decide), .cons ⟨_, rfl⟩ (.cons ⟨_, rfl⟩ (.nil))⟩,
    n_abs := PySem.W.mg_none_of X G z_abs,
    n_all := PySem.W.mg_none_of X G z_all,
    n_bool := PySem.W.mg_none_of X G z_bool,
    n_dict := PySem.W.mg_none_of X G z_dict,
    n_int := PySem.W.mg_none_of X G z_int,
    n_isinstance := PySem.W.mg_none_of X G z_isinstance,
    n_len := PySem.W.mg_none_of X G z_len,
    n_list := PySem.W.mg_none_of X G z_list,
    n_max := PySem.W.mg_none_of X G z_max,
    n_min := PySem.W.mg_none_of X G z_min,
    n_range := PySem.W.mg_none_of X G z_range,
    n_repr := PySem.W.mg_none_of X G z_repr,
    n_str := PySem.W.mg_none_of X G z_str,
    n_tuple := PySem.W.mg_none_of X G z_tuple }
  exact ⟨T.d_law, fun s v => .of_eq rfl, fun base _ _ => ok_law T⟩
end K01
open PySem PySem.W PyProof.Rows
set_option maxHeartbeats 0 in
theorem PySem.Challenge.cw_laterivals_k01_integers_names_types_and_holds : PySem.Challenge.rw_laterivals_k01_integers_names_types_and.Holds := by
  w_on; o_law; k_head; (case hw => w_witness2)
  k_fill
  refine Lv.walkG (l := PySem.Challenge.rw_laterivals_k01_integers_names_types_and) (n := 63) (k := 5) (x := "_law_script") (sp := K01.spLaw) rfl (by decide) rfl ⟨rfl, by decide, by decide⟩ (fun w h Y => PySem.W.kIn_of Y) ?F K01.law_sp
  case F =>
    intro w mg fa h KX G hmg
    refine' K01.all_mk KX G hmg ?a0 ?l0 ?c0 ?k0 ?a1 ?l1 ?c1 ?k1 ?a2 ?l2 ?c2 ?k2 ?a3 ?l3 ?c3 ?k3 ?a4 ?l4 ?c4 ?k4 ?a5 ?l5 ?c5 ?k5 ?a6 ?l6 ?c6 ?k6 ?a7 ?l7 ?c7 ?k7 ?a8 ?l8 ?c8 ?k8 ?a9 ?l9 ?c9 ?k9 ?a10 ?l10 ?c10 ?k10 ?a11 ?l11 ?c11 ?k11 ?a12 ?l12 ?c12 ?k12 ?a13 ?l13 ?c13 ?k13 ?a14 ?l14 ?c14 ?k14 ?e_MAX_DEPTH ?e_MAX_RANK ?e_MAX_LETTERS ?e_KEYWORDS ?w_KEYWORDS ?z_abs ?z_all ?z_bool ?z_dict ?z_int ?z_isinstance ?z_len ?z_list ?z_max ?z_min ?z_range ?z_repr ?z_str ?z_tuple
    (case a0 => k_is)
    (case l0 => k_is)
    (case c0 => k_is)
    (case k0 => k_is)
    (case a1 => k_is)
    (case l1 => k_is)
    (case c1 => k_is)
    (case k1 => k_is)
    (case a2 => k_is)
    (case l2 => k_is)
    (case c2 => k_is)
    (case k2 => k_is)
    (case a3 => k_is)
    (case l3 => k_is)
    (case c3 => k_is)
    (case k3 => k_is)
    (case a4 => k_is)
    (case l4 => k_is)
    (case c4 => k_is)
    (case k4 => k_is)
    (case a5 => k_is)
    (case l5 => k_is)
    (case c5 => k_is)
    (case k5 => k_is)
    (case a6 => k_is)
    (case l6 => k_is)
    (case c6 => k_is)
    (case k6 => k_is)
    (case a7 => k_is)
    (case l7 => k_is)
    (case c7 => k_is)
    (case k7 => k_is)
    (case a8 => k_is)
    (case l8 => k_is)
    (case c8 => k_is)
    (case k8 => k_is)
    (case a9 => k_is)
    (case l9 => k_is)
    (case c9 => k_is)
    (case k9 => k_is)
    (case a10 => k_is)
    (case l10 => k_is)
    (case c10 => k_is)
    (case k10 => k_is)
    (case a11 => k_is)
    (case l11 => k_is)
    (case c11 => k_is)
    (case k11 => k_is)
    (case a12 => k_is)
    (case l12 => k_is)
    (case c12 => k_is)
    (case k12 => k_is)
    (case a13 => k_is)
    (case l13 => k_is)
    (case c13 => k_is)
    (case k13 => k_is)
    (case a14 => k_is)
    (case l14 => k_is)
    (case c14 => k_is)
    (case k14 => k_is)
    (case e_MAX_DEPTH => k_is)
    (case e_MAX_RANK => k_is)
    (case e_MAX_LETTERS => k_is)
    (case e_KEYWORDS => k_is)
    (case w_KEYWORDS => k_is)
    (case z_abs => k_is)
    (case z_all => k_is)
    (case z_bool => k_is)
    (case z_dict => k_is)
    (case z_int => k_is)
    (case z_isinstance => k_is)
    (case z_len => k_is)
    (case z_list => k_is)
    (case z_max => k_is)
    (case z_min => k_is)
    (case z_range => k_is)
    (case z_repr => k_is)
    (case z_str => k_is)
    (case z_tuple => k_is)

