import PyProof.Rows.All
import Wide.All
import OpenK.AllK
import Wide.FinOn
import HandS.ForMost
import HandS.IsInst
import HandS.TupMul
import HandS.TupAny
import HandS.Wide
import PyProof.ReprRoads
import HandS.Evl
import HandS.Walk
import PyProof.ReprLen
import HandS.Lambda
import HandS.EndTab
import HandS.ExcIs
import HandS.ExcOwn
import HandS.WordsExc
import PyProof.StrBlock2
import KE.KExcSuper
import HandS.ExcField
import HandS.TryMany
import HandS.Style
import HandS.More
import PyProof.ExcBaseAll.IndexError
import PyProof.ExcBaseAll.OverflowError
import PyProof.ExcBaseAll.ArithmeticError
import PyProof.ExcBaseAll.RuntimeError
import PyProof.ExcBaseAll.LookupError
import KE.KExcInit
import PyProof.RowDictHeap
import HandS.ExcValue
import HandS.HotCalls
import HandS.DeepEq
import KE.KUnpackStar
import HandS.Star
import HandS.ClsMeth
import HandS.Property
import KE.KCallOwn
import PyProof.RulesMatchSeq
import PyProof.Rows.MatchSeqLen
import HandS.SlotsOwn
import PyProof.InstEq
import KE.KeyNested
import HandS.TupSets
import HandS.SetBool
import KE.SortKeyHeap
import KE.KDictKeyed
import PyProof.EqKinds
import KE.KNestM
import KE.GoesMore
import PyProof.EnumMake
import PyProof.Draws
import HandS.Iter
import HandS.Strs
import HandS.SetFor
import KE.SortData
import PyProof.EqAt
import PyProof.MeetsIn
import HandS.Flow
import PyProof.DictMoreH
import KE.KOpsOwn
import OpenK.KMeth
import HandS.DictSubView
import HandS.DictTup
import KE.KDictCopyH
import HandS.GenYield
import HandS.GenCall
import HandS.GenList
import PyProof.GenComp
import HandS.Sort
import HandS.Zip
import KE.DataMinMax
import HandS.SortKw
import HandS.Words
import HandS.Deep
import KE.DataFind
import KE.KDictPairs
import HandS.TupLen
import HandS.Flt
import KE.KDictDisplayH
import HandS.Defaults
import PyProof.P3In
import HandS.MakeKwOnly
import HandS.FStr
import HandS.RaiseMore
import HandS.ListItems
import HandS.Small
import PySem.Challenge.RW_laterivals_k12_whole_chains_joined
set_option Elab.async false
set_option linter.all false
set_option maxRecDepth 100000
set_option maxHeartbeats 4000000
/-! calls where no repr is under way: a def's promise that may lean on it -/
namespace Lv
open PySem PySem.Spec PyProof.Rows L2

/-- as FnOk, for arounds in which no guarded call runs -/
structure FnG (P : Program) (w : World) (K : PySem.W.Frag) (mg : Str → Option Value) (base : Heap)
    (CX : CXT) (k : Nat) (f : Addr) (fd : FuncData) (ps : List Str) (sp : Sp) : Prop where
  len : ∀ vs H Q E, sp vs H Q E → vs.length = ps.length
  run : ∀ (A : Around), A.guards = some [] → ∀ (outer : List Env) (s : Shared) (H : Hp) (args : Args)
    (us : List Value) (vs : List V) (Q : VK) (E : XK), Room k A → Env0 P w K mg base A outer s H →
    BindsTo s fd args (ps.zip us) → Vals vs us → sp vs H Q E →
    codeAny (model P w) A (.call (.ref f) args) (CR CX outer P w H s Q E) s

theorem FnG.of {P : Program} {w : World} {K : PySem.W.Frag} {mg : Str → Option Value} {base : Heap}
    {CX : CXT} {k : Nat} {f : Addr} {fd : FuncData} {ps : List Str} {sp : Sp}
    (F : FnOk P w K mg base CX k f fd ps sp) : FnG P w K mg base CX k f fd ps sp :=
  ⟨F.len, fun A _ outer s H args us vs Q E hr he hb hv h => F.run A outer s H args us vs Q E hr he hb hv h⟩

section
variable {X : Cx} {CX : CXT} {k : Nat} {f : Addr} {fd : FuncData} {ps : List Str} {sp : Sp}
  {dvs : List V} {ds : List Value} {E : XK} {x : Str} {p pos : Pos} {e : Expr} {es : List Expr} {t : TA}

theorem pe_callG (F : FnG X.prog X.w X.K X.mg X.base CX k f fd ps sp) (hgd : X.A.guards = some [])
    (hr : Room k X.A) (hg : Gl X x) (hm : X.mg x = some (.ref f))
    (hk : PySem.W.keepIn X.K (.ref f) = true) (hb : Binds X.K fd ps ds) (hd : Vals dvs ds)
    (hx : Passes CX X E) (ha : PA X (e :: es) t) (hdb : (x == ("__debug__" : Str)) = false := by decide)
    (he : starEach (e :: es) X.env = (false, eval e X.env) :: starEach es X.env := by rfl)
    (hpl : (backTo pos (starEach es X.env)).any (·.1) = false := by rfl) :
    PE X (.Call (.Name x p) (e :: es) [] pos) (tCall sp dvs E t) := by
  constructor
  intro pins s σ H Q I h
  refine wpAny_Call_Name_kw (ld_glob I hg hm ?_ hdb)
  refine PySem.W.callWith_K (h₀ := X.base) I.ok.mod.kin hk (thn (ha.run pos pins s σ H _ I h) ?_) he hpl
  rintro us s1 ⟨vs, H1, I1, r, q⟩
  refine ⟨I1.kIn, ?_⟩
  have r2 : Vals (vs ++ dvs) (us ++ ds) := r.append hd
  have hl : (us ++ ds).length = ps.length := by
    rw [← r2.length]
    exact F.len _ _ _ _ q
  have run := F.run X.A hgd X.stack s1 H1 ⟨us, []⟩ (us ++ ds) (vs ++ dvs) Q E hr I1.env0 (hb s1 us I1.kIn hl) r2 q
  refine wpAny_call (codeAny_mono run ?_)
  rintro (er | (_ | _ | _ | u)) s' hq
  all_goals first
    | exact hx pins σ H1 s1 _ s' I1 hq
    | exact I1.after hq
    | exact False.elim hq
end

section
variable {P : Program} {w : World} {K : PySem.W.Frag} {mg : Str → Option Value} {base : Heap}
/-- a def by its body, where no guarded call runs -/
theorem okG {x qual : Str} {st : Stmt} {f : Addr} {fd : FuncData} {N ps : List Str} {k : Nat} {sp : Sp}
    (F : Fun K x qual st f fd) (S : FnScope N ps (defScope st))
    (len : ∀ vs H Q E, sp vs H Q E → vs.length = ps.length)
    (hbody : ∀ (cdv : Value) (A : Around) (outer : List Env) (s : Shared) (H : Hp) (vs : List V) (Q : VK) (E : XK),
      (A.deeper (envOfC qual (defScope st) s.heap.objs.size f cdv)).guards = some [] →
      Room k (A.deeper (envOfC qual (defScope st) s.heap.objs.size f cdv)) → sp vs H Q E →
      ∃ t, PSs (cxOf CX0 P w K mg base N qual (defScope st) f cdv A outer s H E).nox (defBody st) t ∧
        t { nx := fun _ H' => Q .non H', rt := Q } (start N vs) H) :
    FnG P w K mg base CX0 (k + 1) f fd ps sp := by
  obtain ⟨oc, od, kV, doc, pm, an, cdv, ct, osl, rfl, lk, hcd⟩ := F.ex
  refine ⟨len, fun A hgd outer s H args us vs Q E hr e0 hb hv hsp => ?_⟩
  have kept := fun b o (z : base.get? b = some o) => (e0.bs b o z).1
  have hK : K.In s.heap := e0.mod.kin.keeps kept
  have hL : s.heap.NoLimit := e0.mod.nolimit.keeps kept
  refine codeAny_call_function hr.depth (hK _ _ lk) rfl S.co S.gen rfl (PySem.W.codeRec_of hK hcd)
    (hb _ _ _ _ ?_)
  have kinds : ∀ y ∈ ps.zip us, (defScope st).names.lookup y.1 = some .local ∨
      ((defScope st).names.lookup y.1 = some .cell ∧
        ((cellsFrom (s.heap.objs.size + 1) (defScope st).names []).lookup y.1).isSome = true) := by
    rintro ⟨n, v⟩ hy
    rcases S.par n (List.of_mem_zip hy).1 with z | z
    · exact .inl z
    · exact .inr ⟨z, PySem.W.cellsFrom_some _ _ _ (.inl z)⟩
  refine wpAny_newFunctionEnv_cells S.kind kinds ?_
  rintro env rfl s1 x
  refine ⟨hL.keeps x.toInCall.keep, codeAny_func ?_⟩
  obtain ⟨t, ht, hq⟩ := hbody cdv A outer s H vs Q E hgd (hr.deeper _) hsp
  have I := inv_start (CX := CX0) (E := E) S hr.hd e0 (len _ _ _ _ hsp) hv x
  refine wpAny_mono (ht.nox.run [] s1 (start N vs) H _ I hq) ?_ (fun e s' z => z)
  rintro (_ | _ | _ | u) s' hs
  · obtain ⟨σ', H', J, q⟩ := hs
    exact ⟨V.non, H', J.os, J.bare, J.base, J.hok, (rfl : RelV V.non Value.none), q⟩
  · obtain ⟨_, _, _, q⟩ := hs
    exact False.elim q
  · obtain ⟨_, _, _, q⟩ := hs
    exact False.elim q
  · obtain ⟨v, σ', H', J, rv, q⟩ := hs
    exact ⟨v, H', J.os, J.bare, J.base, J.hok, rv, q⟩
end
section
variable {X : Cx}
end
end Lv

/-! further rules and what is said of heaps -/
namespace Lv
open PySem PySem.Spec PyProof.Rows L2
section
variable {X : Cx}
/-- powers of great numbers -/
def CPowW (i j : Int) : Prop := 0 ≤ j ∧ (Builtin.Int.intBits i : Int) * j ≤ 2 ^ 27
theorem op_powW : OpR X (binaryOp .Pow) (rI CPowW fun i j => .int (i ^ j.toNat)) :=
  opI fun _ _ _ _ _ _ _ hc q => pow_int hc.1 hc.2 q
theorem bits_le {i : Int} {n : Nat} (h : i.natAbs < 2 ^ n) (h0 : 0 < n) : (Builtin.Int.intBits i : Int) ≤ n := by
  have := PySem.Flt.log2_lt_of h0 h
  unfold Builtin.Int.intBits
  split <;> omega
theorem vals_get : ∀ {xs : List V} {us : List Value}, xs.length = us.length →
    (∀ (j : Nat) (u : Value), us[j]? = some u → ∃ x, xs[j]? = some x ∧ RelV x u) → Vals xs us
  | [], [], _, _ => .nil
  | [], _ :: _, h, _ => nomatch h
  | _ :: _, [], h, _ => nomatch h
  | x :: xs, u :: us, h, g => by
    obtain ⟨y, hy, r⟩ := g 0 u rfl
    cases hy
    refine .cons r (vals_get (Nat.succ.inj h) fun j v hv => ?_)
    exact g (j + 1) v hv
/-- the signs of a text as texts -/
def sgs (z : Str) : List V := z.cps.toList.map fun c => V.str ⟨#[c]⟩
/-- list(text) -/
theorem call_listS (hc : X.calm = true) : CallR X (.type "list") (fun xs H Q => ∃ z : Str, xs = [.str z] ∧
    z.length ≤ sizeLine ∧ ∀ l, H l = none → Q (.ref l) (upd H l (.lst (sgs z)))) := by
  intro pins s σ H xs us Q I r h
  obtain ⟨z, rfl, hz, q⟩ := h
  obtain ⟨u, rfl, t, rfl⟩ := vals1 r
  refine PySem.call_list_str (I.ok.hd hc) z t (fun h' tk acc c kp ho hit => ?_) hz
  obtain ⟨acc⟩ := acc
  refine ⟨.ref s.heap.objs.size, _, I.laid (t' := tk) kp (Nat.le_refl _)
    (show ObjOk X.prog X.w _ h' _ (.lst (sgs z)) from ⟨?_, acc, c, ?_, ho⟩), rfl, q _ (I.hok.fresh (Nat.le_refl _))⟩
  · unfold sgs
    rw [List.length_map]
    exact hz
  · refine vals_get ?_ ?_
    · unfold sgs
      have := hit.1
      simp at this ⊢
      exact this.symm
    · intro j v hv
      obtain ⟨c, u, hc, rfl⟩ := hit.2 j v (by simpa using hv)
      refine ⟨.str ⟨#[c]⟩, ?_, u, rfl⟩
      unfold sgs
      rw [List.getElem?_map, Array.getElem?_toList, hc]
      rfl
end
section
variable {X : Cx}
theorem call_intI : CallR X (.type "int") (fun xs H Q => ∃ i, xs = [.int i] ∧ Q (.int i) H) :=
  fun pins s σ H xs us Q I r h => call_int1 pins s σ H xs us Q I r (.inl h)
theorem call_intB : CallR X (.type "int") (fun xs H Q => ∃ k, xs = [.bl k] ∧ Q (.int (if k then 1 else 0)) H) :=
  fun pins s σ H xs us Q I r h => call_int1 pins s σ H xs us Q I r (.inr h)
end
section
variable {X : Cx}
/-- tuple(list) -/
def rTupL (K : PySem.W.Frag) : List V → Hp → VK → Prop := fun xs H Q => ∃ p ys, xs = [.ref p] ∧ SqL K H p ys ∧ ∀ l, H l = none → Q (.ref l) (upd H l (.tup ys))
theorem call_tupL : CallR X (.type "tuple") (rTupL X.K) := fun pins s σ H xs us Q I r h => by
  obtain ⟨p, ys, e, h1, h2⟩ := h
  exact call_tuple_of pins s σ H xs us Q I r ⟨p, ys, e, .inl ⟨h1, h2⟩⟩
/-- len of a list or a tuple -/
def rLenQ (K : PySem.W.Frag) : List V → Hp → VK → Prop := fun xs H Q => ∃ p ys, xs = [.ref p] ∧ (SqL K H p ys ∨ SqT K H p ys) ∧ Q (.int ys.length) H
theorem call_lenQ : CallR X (.builtin "len") (rLenQ X.K) := call_len_seq
/-- sep.join(list) -/
def rJoin (K : PySem.W.Frag) : V → List V → Hp → VK → Prop := fun x xs H Q => ∃ a p, ∃ ys : List Str, x = .str a ∧ xs = [.ref p] ∧ (SqL K H p (ys.map V.str) ∨ SqT K H p (ys.map V.str)) ∧
  (ys.map (·.length)).sum + ys.length * a.length ≤ 16777216 ∧ Q (.str (Txt.join a ys)) H
theorem pe_joinN {o e : Expr} {to te : TE} {apos pos : Pos} (ho : PE X o to) (he : PE X e te) (hs : starEach [e] X.env = [(false, eval e X.env)] := by rfl)
    (hbase : attributeBase o "join" X.env (eval o X.env) = eval o X.env := by rfl) (hline : (apos.endLine == pos.line) = true := by rfl) :
    PE X (.Call (.Attribute o "join" apos) [e] [] pos) (tM1 (rJoin X.K) to te) := pe_join ho he hs hbase hline
/-- dict(list of pairs) -/
def rDictPs (K : PySem.W.Frag) : List V → Hp → VK → Prop := fun xs H Q => ∃ (a : Addr) (ps : List Addr) (kvs : List (Key × V)), xs = [.ref a] ∧ SqL K H a (ps.map V.ref) ∧
  Paired (fun p kv => SqT K H p [kV kv.1, kv.2]) ps kvs ∧ ∀ p, H p = none → Q (.ref p) (upd H p (.dK (mergeK [] kvs)))
end
theorem tupL {K : PySem.W.Frag} {H : Hp} {a : Addr} {xs : List V} {Q : VK} (h : SqL K H a xs) (q : ∀ p, H p = none → Q (.ref p) (upd H p (.tup xs))) : rTupL K [.ref a] H Q := ⟨a, xs, rfl, h, q⟩
theorem lenL {K : PySem.W.Frag} {H : Hp} {a : Addr} {xs : List V} {Q : VK} (h : SqL K H a xs) (q : Q (.int xs.length) H) : rLenQ K [.ref a] H Q := ⟨a, xs, rfl, .inl h, q⟩
theorem lenT {K : PySem.W.Frag} {H : Hp} {a : Addr} {xs : List V} {Q : VK} (h : SqT K H a xs) (q : Q (.int xs.length) H) : rLenQ K [.ref a] H Q := ⟨a, xs, rfl, .inr h, q⟩
theorem joinL' {K : PySem.W.Frag} {H : Hp} {a : Addr} {s : Str} {ys : List Str} {Q : VK} (h : SqL K H a (ys.map V.str)) (hl : (ys.map (·.length)).sum + ys.length * s.length ≤ 16777216)
    (q : Q (.str (Txt.join s ys)) H) : rJoin K (.str s) [.ref a] H Q := ⟨s, a, ys, rfl, rfl, .inl h, hl, q⟩
theorem tyl {K : PySem.W.Frag} {H : Hp} {a : Addr} {xs : List V} (h : SqL K H a xs) : tyV K "list" (.ref a) H := .inl ⟨rfl, xs, h⟩
theorem sql_of {K : PySem.W.Frag} {H : Hp} {a : Addr} {xs : List V} (h : H a = some (.lst xs)) : SqL K H a xs := .inl (.inl h)
theorem sqt_of {K : PySem.W.Frag} {H : Hp} {a : Addr} {xs : List V} (h : H a = some (.tup xs)) : SqT K H a xs := .inl (.inl h)
theorem sz100 {n : Nat} (h : n ≤ 100000) : n ≤ sizeLine := Nat.le_trans h (by decide)
theorem sz100' {n : Nat} (h : n < 100000) : n < sizeLine := Nat.lt_of_lt_of_le h (by decide)
theorem ixl {K : PySem.W.Frag} {H : Hp} {a : Addr} {xs : List V} {i : Int} {v : V} {Q : VK} (h : SqL K H a xs) (e : atI xs i = some v) (q : Q v H) :
    rIxL K (.ref a) (.int i) H Q := ⟨a, xs, i, v, rfl, rfl, h, e, q⟩
theorem setl {H : Hp} {a : Addr} {xs : List V} {i : Int} {j : Nat} {v : V} {Q : Hp → Prop} (h : H a = some (.lst xs)) (e : ixN xs.length i = some j)
    (q : Q (upd H a (.lst (xs.set j v)))) : rSetL (.ref a) (.int i) v H Q := ⟨a, xs, i, j, rfl, rfl, h, e, q⟩
theorem ixl_nat {K : PySem.W.Frag} {H : Hp} {a : Addr} {xs : List V} {j : Nat} {v : V} {Q : VK} (h : SqL K H a xs) (e : xs[j]? = some v) (q : Q v H) :
    rIxL K (.ref a) (.int j) H Q := ⟨a, xs, j, v, rfl, rfl, h, atI_nat e, q⟩
/-- of which built-in kind a value is; objects are tracked ones -/
inductive Kn (H : Hp) : V → String → Prop where
  | non : Kn H .non "NoneType"
  | bl (b : Bool) : Kn H (.bl b) "bool"
  | int (i : Int) : Kn H (.int i) "int"
  | str (z : Str) : Kn H (.str z) "str"
  | lst {a : Addr} {xs : List V} (h : H a = some (.lst xs)) : Kn H (.ref a) "list"
  | tup {a : Addr} {xs : List V} (h : H a = some (.tup xs)) : Kn H (.ref a) "tuple"
  | dK {a : Addr} {kvs : List (Key × V)} (h : H a = some (.dK kvs)) : Kn H (.ref a) "dict"
theorem Kn.ty {K : PySem.W.Frag} {H : Hp} {v : V} {t : String} (k : Kn H v t) : TyX K H v (.type t) := by
  cases k with
  | non => exact .base .non
  | bl b => exact .base (.bl b)
  | int i => exact .base (.int i)
  | str z => exact .base (.str z)
  | lst h => exact .base (.lst h)
  | tup h => exact .base (.tup h)
  | dK h => exact .base (.dK h)
theorem Kn.same {H H' : Hp} {v : V} {t : String} (e : Same H H') (k : Kn H v t) : Kn H' v t := by
  cases k with
  | non => exact .non
  | bl b => exact .bl b
  | int i => exact .int i
  | str z => exact .str z
  | lst h => exact .lst (e _ _ h)
  | tup h => exact .tup (e _ _ h)
  | dK h => exact .dK (e _ _ h)
/-- isinstance of such a value -/
theorem isi_kn {K : PySem.W.Frag} {H : Hp} {v : V} {t n : String} {b : Bool} {Q : VK} (k : Kn H v t)
    (hb : kitB t n = some b) (q : Q (.bl b) H) : rIsi K [v, .ty n] H Q :=
  ⟨v, .ty n, .type t, .type n, b, rfl, .ty n, k.ty, kit_ty hb, q⟩
theorem Kn.mem {H : Hp} {v : V} {t : String} (k : Kn H v t) : t ∈ ["NoneType", "bool", "int", "str", "list", "tuple", "dict"] := by
  cases k <;> decide
theorem same_new {H : Hp} {p : Addr} {o : HO} (h : H p = none) : Same H (upd H p o) := fun b x e => by
  rw [upd_ne (ne_of_none e h)]
  exact e
theorem same_mut {H H' : Hp} {p : Addr} {o : HO} (e : Same H H') (h : H p = none) : Same H (upd H' p o) := fun b x q => by
  rw [upd_ne (ne_of_none q h)]
  exact e _ _ q
/-! ### dice -/
/-- a list of three ints -/
def Dc (H : Hp) (d : Addr) : Prop := ∃ x y z : Int, H d = some (.lst [.int x, .int y, .int z])
/-- all but the dice is kept, and the dice are dice -/
structure Gr (d : Addr) (H H' : Hp) : Prop where
  pre : Dc H d
  keep : ∀ a o, a ≠ d → H a = some o → H' a = some o
  dice : Dc H' d
theorem Gr.refl {d : Addr} {H : Hp} (h : Dc H d) : Gr d H H := ⟨h, fun _ _ _ h => h, h⟩
theorem Gr.trans {d : Addr} {H H1 H2 : Hp} (a : Gr d H H1) (b : Gr d H1 H2) : Gr d H H2 :=
  ⟨a.pre, fun x o n h => b.keep x o n (a.keep x o n h), b.dice⟩
theorem Gr.roll {d : Addr} {H : Hp} {x y z : Int} (h : Dc H d) : Gr d H (upd H d (.lst [.int x, .int y, .int z])) :=
  ⟨h, fun a o n h => by rw [upd_ne n]; exact h, x, y, z, upd_same⟩
theorem Dc.same {d : Addr} {H H' : Hp} (h : Dc H d) (e : Same H H') : Dc H' d :=
  let ⟨x, y, z, q⟩ := h
  ⟨x, y, z, e _ _ q⟩
theorem Gr.same {d : Addr} {H H' : Hp} (h : Dc H d) (e : Same H H') : Gr d H H' := ⟨h, fun a o _ q => e a o q, h.same e⟩
theorem Dc.ne {d p : Addr} {H : Hp} (h : Dc H d) (n : H p = none) : p ≠ d := fun e => by
  obtain ⟨x, y, z, q⟩ := h
  rw [e, q] at n
  cases n
theorem Dc.ne_tup {d p : Addr} {H : Hp} {xs : List V} (h : Dc H d) (n : H p = some (.tup xs)) : p ≠ d := fun e => by
  obtain ⟨x, y, z, q⟩ := h
  rw [e, q] at n
  cases n
/-- what was free and is not the dice came later -/
theorem Gr.back {d p : Addr} {H H' : Hp} (g : Gr d H H') (h : H' p = none) : H p = none := by
  have ne := g.dice.ne h
  cases q : H p with
  | none => rfl
  | some o =>
    rw [g.keep p o ne q] at h
    cases h
/-- a thing that was not there before changes -/
theorem Gr.mut {d p : Addr} {H H' : Hp} {o : HO} (g : Gr d H H') (h : H p = none) (ne : p ≠ d) : Gr d H (upd H' p o) := by
  refine ⟨g.pre, fun a u n q => ?_, ?_⟩
  · rw [upd_ne (ne_of_none q h)]
    exact g.keep a u n q
  · obtain ⟨x, y, z, q⟩ := g.dice
    exact ⟨x, y, z, by rw [upd_ne ne.symm]; exact q⟩
theorem Gr.new {d p : Addr} {H : Hp} {o : HO} (h : Dc H d) (n : H p = none) : Gr d H (upd H p o) := Gr.same h (same_new n)
theorem Gr.rd {d p : Addr} {H H' : Hp} {u : HO} (g : Gr d H H') (ne : p ≠ d) (h : Rd H p u) : Rd H' p u := by
  rcases h with h | ⟨o, h⟩
  · exact .inl (g.keep _ _ ne h)
  · exact .inr ⟨o, g.keep _ _ ne h⟩
theorem Gr.sql {K : PySem.W.Frag} {d p : Addr} {H H' : Hp} {xs : List V} (g : Gr d H H') (ne : p ≠ d) (h : SqL K H p xs) : SqL K H' p xs := by
  rcases h with h | h
  · exact .inl (g.rd ne h)
  · exact .inr h
theorem Gr.sqt {K : PySem.W.Frag} {d p : Addr} {H H' : Hp} {xs : List V} (g : Gr d H H') (ne : p ≠ d) (h : SqT K H p xs) : SqT K H' p xs := by
  rcases h with h | h
  · exact .inl (g.rd ne h)
  · exact .inr h
theorem Kn.gr {d : Addr} {H H' : Hp} {v : V} {t : String} (g : Gr d H H') (k : Kn H v t) : Kn H' v t := by
  obtain ⟨x, y, z, hd⟩ := g.dice
  obtain ⟨x', y', z', h0⟩ := g.pre
  cases k with
  | non => exact .non
  | bl b => exact .bl b
  | int i => exact .int i
  | str z => exact .str z
  | @lst a xs h =>
    by_cases e : a = d
    · rw [e]
      exact .lst hd
    · exact .lst (g.keep _ _ e h)
  | @tup a xs h =>
    by_cases e : a = d
    · rw [e, h0] at h
      cases h
    · exact .tup (g.keep _ _ e h)
  | @dK a kvs h =>
    by_cases e : a = d
    · rw [e, h0] at h
      cases h
    · exact .dK (g.keep _ _ e h)
end Lv

/-! comprehensions whose elements leave all as it was, and such that roll dice -/
namespace Lv
open PySem PySem.Spec PyProof.Rows L2
section
variable {J : It} {n : Nat} {G : Hp → Prop} {Y : Nat → Hp → V → Hp → Prop} {g : TG} {tt : TT} {te : TE}
  {vs : List Nat} {σ : L2.St} {H1 : Hp} {Q : VK}
/-- the body of a comprehension's reading, behind what it walks -/
def LcB (J : It) (g : TG) (tt : TT) (te : TE) (vs : List Nat) (σ : L2.St) (Q : VK) (H1 : Hp) : Prop :=
  ∀ D, H1 D = none → ∃ W : Nat → Nat → Hp → Prop, (∃ m, W 0 m (upd H1 D (.lst []))) ∧ ∀ i m H, W i m H →
    (J.stop i H ∧ Q (.ref D) H) ∨ (J.go i H ∧ ∃ Nx : Hp → Prop, (∀ H', Nx H' → ∃ m', m' < m ∧ W (i + 1) m' H') ∧
      ∀ x H', J.yld i H x H' → g x (wipe σ vs) H' fun σ2 H2 => wipe σ2 vs = wipe σ vs ∧ tt σ2 H2 fun b H3 =>
        if b = true then te σ2 H3 fun y H4 => ∃ acc, H4 D = some (.lst acc) ∧ acc.length < sizeLine ∧
          Nx (upd H4 D (.lst (acc ++ [y]))) else Nx H3)
theorem tLc_eq {wi : TI} {H : Hp} : tLc wi g tt te vs σ H Q = wi σ H fun J H1 => LcB J g tt te vs σ Q H1 := rfl
/-- each element is f i, and all stays as it was -/
theorem lc_same (w : Walk J n G Y) (f : Nat → V) (hn : n ≤ sizeLine) (hG : ∀ H, Same H1 H → G H)
    (hs : ∀ i x H H', i < n → Same H1 H → Y i H x H' → ∀ R : VK, (∀ H4, Same H H4 → R (f i) H4) →
      g x (wipe σ vs) H' fun σ2 H2 => wipe σ2 vs = wipe σ vs ∧ tt σ2 H2 fun b H3 => b = true ∧ te σ2 H3 R)
    (mono : ∀ (x : V) (σ' : L2.St) (H' : Hp) (A B : L2.St → Hp → Prop), (∀ s h, A s h → B s h) → g x σ' H' A → g x σ' H' B)
    (monoT : ∀ (σ' : L2.St) (H' : Hp) (A B : Bool → Hp → Prop), (∀ b h, A b h → B b h) → tt σ' H' A → tt σ' H' B)
    (hd : ∀ H D, Same H1 H → H1 D = none → H D = some (.lst ((List.range n).map f)) → Q (.ref D) H) :
    LcB J g tt te vs σ Q H1 := by
  intro D hD
  refine lc_it w (fun i H => Same H1 H ∧ H D = some (.lst ((List.range i).map f))) ⟨same_new hD, upd_same⟩
    (fun i H _ h => hG H h.1) ?_ (fun H h => hd H D h.1 hD h.2)
  rintro i x H H' hi ⟨hS, hL⟩ hy
  have := hs i x H H' hi hS hy
    (fun y H4 => ∃ acc, H4 D = some (.lst acc) ∧ acc.length < sizeLine ∧
      (Same H1 (upd H4 D (.lst (acc ++ [y]))) ∧ upd H4 D (.lst (acc ++ [y])) D = some (.lst ((List.range (i + 1)).map f))))
    (fun H4 h4 => ⟨_, h4 _ _ hL, by rw [List.length_map, List.length_range]; omega, same_mut (hS.trans h4) hD, by
      rw [upd_same, List.range_succ, List.map_append]
      rfl⟩)
  refine mono _ _ _ _ _ ?_ this
  rintro s h ⟨e, h2⟩
  refine ⟨e, monoT _ _ _ _ ?_ h2⟩
  rintro b h3 ⟨rfl, h4⟩
  rw [if_pos rfl]
  exact h4
/-- elements that are drawn: each has P -/
theorem lc_gr {d : Addr} (w : Walk J n G Y) (P : Nat → V → Prop) (hn : n ≤ sizeLine) (h0 : Dc H1 d) (hG : ∀ H, Gr d H1 H → G H)
    (hs : ∀ i x H H', i < n → Gr d H1 H → Y i H x H' → ∀ R : VK, (∀ y H4, P i y → Gr d H H4 → R y H4) →
      g x (wipe σ vs) H' fun σ2 H2 => wipe σ2 vs = wipe σ vs ∧ tt σ2 H2 fun b H3 => b = true ∧ te σ2 H3 R)
    (mono : ∀ (x : V) (σ' : L2.St) (H' : Hp) (A B : L2.St → Hp → Prop), (∀ s h, A s h → B s h) → g x σ' H' A → g x σ' H' B)
    (monoT : ∀ (σ' : L2.St) (H' : Hp) (A B : Bool → Hp → Prop), (∀ b h, A b h → B b h) → tt σ' H' A → tt σ' H' B)
    (hd : ∀ H D ys, Gr d H1 H → H1 D = none → D ≠ d → ys.length = n → (∀ i y, ys[i]? = some y → P i y) →
      H D = some (.lst ys) → Q (.ref D) H) :
    LcB J g tt te vs σ Q H1 := by
  intro D hD
  have ne := h0.ne hD
  refine lc_it w (fun i H => Gr d H1 H ∧ ∃ ys : List V, ys.length = i ∧ (∀ j y, ys[j]? = some y → P j y) ∧ H D = some (.lst ys))
    ⟨Gr.new h0 hD, [], rfl, (fun j y e => by simp at e), upd_same⟩ (fun i H _ h => hG H h.1) ?_
    (fun H h => ?_)
  · rintro i x H H' hi ⟨hS, ys, hl, hp, hL⟩ hy
    have := hs i x H H' hi hS hy
      (fun y H4 => ∃ acc, H4 D = some (.lst acc) ∧ acc.length < sizeLine ∧ (Gr d H1 (upd H4 D (.lst (acc ++ [y]))) ∧
        ∃ zs : List V, zs.length = i + 1 ∧ (∀ j z, zs[j]? = some z → P j z) ∧ upd H4 D (.lst (acc ++ [y])) D = some (.lst zs)))
      (fun y H4 hy h4 => ⟨ys, h4.keep _ _ ne hL, by omega, (hS.trans h4).mut hD ne, ys ++ [y], by
        rw [List.length_append, hl]
        rfl, fun j z hz => ?_, upd_same⟩)
    · refine mono _ _ _ _ _ ?_ this
      rintro s h ⟨e, h2⟩
      refine ⟨e, monoT _ _ _ _ ?_ h2⟩
      rintro b h3 ⟨rfl, h4⟩
      rw [if_pos rfl]
      exact h4
    · by_cases hj : j < ys.length
      · rw [List.getElem?_append_left hj] at hz
        exact hp j z hz
      · rw [List.getElem?_append_right (by omega)] at hz
        have e : j = i := by
          cases hq : j - ys.length with
          | zero => omega
          | succ m =>
            rw [hq] at hz
            exact nomatch hz
        subst e
        rw [hl, Nat.sub_self] at hz
        cases hz
        exact hy
  · obtain ⟨hS, ys, hl, hp, hL⟩ := h
    exact hd H D ys hS hD ne hl hp hL
end
section
variable {J : It} {n : Nat} {G : Hp → Prop} {Y : Nat → Hp → V → Hp → Prop} {g : TG} {tb : TS} {D : Ends} {σ : L2.St} {H : Hp}
/-- the body of a for's reading, behind what it walks -/
def ForB (J : It) (g : TG) (tb : TS) (D : Ends) (σ : L2.St) (H : Hp) : Prop :=
  ∃ W : Nat → Nat → L2.St → Hp → Prop, (∃ m, W 0 m σ H) ∧ ∀ i m σ H, W i m σ H →
    (J.stop i H ∧ D.nx σ H) ∨ (J.go i H ∧ ∃ N : L2.St → Hp → Prop, (∀ σ' H', N σ' H' → ∃ m', m' < m ∧ W (i + 1) m' σ' H') ∧
      ∀ x H', J.yld i H x H' → g x σ H' fun σ2 H2 => tb { D with nx := N, ct := N, bk := D.nx } σ2 H2)
theorem tFor_eq {wi : TI} : tFor wi g tb D σ H = wi σ H fun J H1 => ForB J g tb D σ H1 := rfl
/-- a for by its invariant -/
theorem forB (w : Walk J n G Y) (Pv : Nat → L2.St → Hp → Prop) (h0 : Pv 0 σ H) (hG : ∀ i σ H, i ≤ n → Pv i σ H → G H)
    (hs : ∀ i x σ H H', i < n → Pv i σ H → Y i H x H' → g x σ H' fun σ2 H2 => tb { D with nx := Pv (i + 1), ct := Pv (i + 1), bk := D.nx } σ2 H2)
    (hd : ∀ σ H, Pv n σ H → D.nx σ H) : ForB J g tb D σ H := for_it w Pv h0 hG hs hd
end
theorem mono_name {i : Nat} (x : V) (σ' : L2.St) (H' : Hp) (A B : L2.St → Hp → Prop) (h : ∀ s h, A s h → B s h) (q : gName i x σ' H' A) : gName i x σ' H' B := h _ _ q
theorem mono_yes (σ' : L2.St) (H' : Hp) (A B : Bool → Hp → Prop) (h : ∀ b h, A b h → B b h) (q : tYes σ' H' A) : tYes σ' H' B := h _ _ q
end Lv

/-! texts made of drawn signs -/
namespace Lv
open PySem PySem.Spec PyProof.Rows L2
/-- a text of one sign -/
abbrev sg (c : Nat) : Str := ⟨#[c]⟩
theorem ex_cs {P : Nat → Prop} : ∀ {ys : List V}, (∀ (i : Nat) (y : V), ys[i]? = some y → ∃ c, y = V.str (sg c) ∧ P c) →
    ∃ cs : List Nat, ys = (cs.map sg).map V.str ∧ cs.length = ys.length ∧ ∀ c ∈ cs, P c
  | [], _ => ⟨[], rfl, rfl, fun c h => nomatch h⟩
  | y :: ys, h => by
    obtain ⟨c, rfl, pc⟩ := h 0 y rfl
    obtain ⟨cs, rfl, e, p⟩ := ex_cs (ys := ys) fun i y hy => h (i + 1) y hy
    refine ⟨c :: cs, rfl, by simp, fun x hx => ?_⟩
    rcases List.mem_cons.mp hx with rfl | hx
    · exact pc
    · exact p x hx
theorem joinL_nil : ∀ ps : List (List Nat), TL.joinL [] ps = ps.flatten
  | [] => rfl
  | [p] => by simp [TL.joinL]
  | p :: q :: r => by
    show p ++ ([] ++ TL.joinL [] (q :: r)) = _
    rw [joinL_nil (q :: r)]
    rfl
theorem tl_joinSg (cs : List Nat) : TL.tl (Txt.join (Str.ofString "") (cs.map sg)) = cs := by
  rw [TL.join_eq, TL.tl_join, show TL.tl (Str.ofString "") = [] from rfl, joinL_nil, List.map_map]
  induction cs with
  | nil => rfl
  | cons c cs ih =>
    show [c] ++ (cs.map (TL.tl ∘ sg)).flatten = c :: cs
    rw [ih]
    rfl
theorem sum_ones : ∀ cs : List Nat, ((cs.map sg).map (·.length)).sum = cs.length
  | [] => rfl
  | c :: cs => by
    show 1 + ((cs.map sg).map (·.length)).sum = cs.length + 1
    rw [sum_ones cs]
    omega
theorem len_tl (z : Str) : z.length = (TL.tl z).length := by
  show z.cps.size = z.cps.toList.length
  rw [Array.length_toList]
theorem inV_swap (x a b : V) : inV x [a, b] = inV x [b, a] := by
  unfold inV
  simp [Bool.or_comm]
end Lv

/-! repr of lists of truths -/
namespace Lv
open PySem PySem.Spec PyProof.Rows L2
/-- what repr asks of data -/
def RpOk (d : PyData) : Prop := isDisplay d = true ∧ d.showable = true ∧ d.hasDict = false ∧ d.depth ≤ 60 ∧ d.shown.length ≤ sizeLine
def rRp (K : PySem.W.Frag) : List V → Hp → VK → Prop := fun xs H Q => ∃ (v : V) (d : PyData), xs = [v] ∧ Dp K H v d ∧ RpOk d ∧ Q (.str d.shown) H
def dB (bs : List Bool) : PyData := .list (bs.map PyData.bool)
end Lv

/-! what the words' defs and the law's dice promise -/
namespace Lv
open PySem PySem.Spec PyProof.Rows L2
section
variable {K : PySem.W.Frag}
/-- is_integer -/
def intV : V → Bool
  | .int i => decide ((if i < 0 then -i else i) < 10 ^ 60)
  | _ => false
def sp_is_integer : Sp := fun vs H Q _ => ∃ (v : V) (t : String), vs = [v] ∧ Kn H v t ∧ Q (.bl (intV v)) H
/-- is_name -/
def lowC (c : Nat) : Bool := !decide ([c] < (Str.ofString "a").cps.toList) && !decide ((Str.ofString "z").cps.toList < [c])
theorem range_map {α : Type} (f : Nat → α) (l : List Nat) : ((List.range l.length).map fun i => f (l[i]?.getD 0)) = l.map f := by
  apply List.ext_getElem
  · simp
  · intro i h1 h2
    have h3 : i < l.length := by simpa using h2
    simp [h3]
def isNm (z : Str) : Bool := decide ((1 : Int) ≤ z.length) && decide ((z.length : Int) ≤ 8) && !inV (.str z) [.str "gives", .str "to"] && z.cps.toList.all lowC
def nameV : V → Bool
  | .str z => isNm z
  | _ => false
def sp_is_name : Sp := fun vs H Q _ => ∃ (v : V) (t : String), vs = [v] ∧ Kn H v t ∧ (∀ z, v = .str z → z.length ≤ sizeLine) ∧ ∀ H', Same H H' → Q (.bl (nameV v)) H'
theorem kit_ntup {H : Hp} {v : V} {t : String} (k : Kn H v t) (n : t ≠ "tuple") : kitB t "tuple" = some false := by
  cases k with
  | tup h => exact absurd rfl n
  | _ => decide +kernel
/-- is_names -/
def namesV (xs : List V) (lo hi : Int) : Bool := decide (lo ≤ (xs.length : Int)) && decide ((xs.length : Int) ≤ hi) && xs.all nameV
/-- a value told to is_names: of which kind it is, and if it is a tuple, its items -/
inductive Told (H : Hp) : V → List V → Bool → Prop where
  | tup {a : Addr} {xs : List V} (h : H a = some (.tup xs)) (k : ∀ x ∈ xs, ∃ t, Kn H x t) (z : ∀ y, V.str y ∈ xs → y.length ≤ sizeLine) : Told H (.ref a) xs true
  | oth {v : V} {t : String} (k : Kn H v t) (n : t ≠ "tuple") : Told H v [] false
def sp_is_names : Sp := fun vs H Q _ => ∃ (v : V) (xs : List V) (b : Bool) (lo hi : Int), vs = [v, .int lo, .int hi] ∧ hi ≤ 1000 ∧ Told H v xs b ∧ ∀ H', Same H H' → Q (.bl (b && namesV xs lo hi)) H'
def sp_is_type : Sp := fun vs H Q _ => ∃ (v : V) (xs : List V) (b : Bool), vs = [v] ∧ Told H v xs b ∧ ∀ H', Same H H' → Q (.bl (b && namesV xs 1 401)) H'
def sp_is_front : Sp := fun vs H Q _ => ∃ (v : V) (xs : List V) (b : Bool), vs = [v] ∧ Told H v xs b ∧ ∀ H', Same H H' → Q (.bl (b && namesV xs 0 400)) H'
theorem seqIx {j n : Nat} (h : j < n) : seqIndex? (j : Int) n = some j := by
  unfold seqIndex?
  simp
  omega
/-- _law_dice: three ints, whatever they are -/
def sp_law_dice (K : PySem.W.Frag) : Sp := fun vs H Q _ => ∃ (a : Addr) (ns : List Int) (k : Nat), vs = [.ref a, .int k] ∧ SqL K H a (ns.map V.int) ∧ k ≤ 100 ∧
  ∀ p x y z, H p = none → Q (.ref p) (upd H p (.lst [.int x, .int y, .int z]))
/-- _law_roll: a number below the bound -/
def sp_law_roll : Sp := fun vs H Q _ => ∃ (d : Addr) (n : Int), vs = [.ref d, .int n] ∧ 0 < n ∧ n < 1073741824 ∧ Dc H d ∧
  ∀ r x y z : Int, 0 ≤ r → r < n → Q (.int r) (upd H d (.lst [.int x, .int y, .int z]))
/-- _law_pick: one of the items -/
def sp_law_pick (K : PySem.W.Frag) : Sp := fun vs H Q _ => ∃ (d : Addr) (v : V), vs = [.ref d, v] ∧ Dc H d ∧
  ((∃ (p : Addr) (xs : List V), v = .ref p ∧ p ≠ d ∧ SqL K H p xs ∧ xs ≠ [] ∧ xs.length < 1073741824 ∧ ∀ y H', y ∈ xs → Gr d H H' → Q y H') ∨
   ∃ z : Str, v = .str z ∧ z.length ≤ sizeLine ∧ 0 < z.length ∧ z.length < 1073741824 ∧ ∀ c H', c ∈ z.cps.toList → Gr d H H' → Q (.str ⟨#[c]⟩) H')
/-- _law_some of a text: signs of it, some of them -/
def sp_law_some : Sp := fun vs H Q _ => ∃ (d : Addr) (z : Str) (n : Int), vs = [.ref d, .str z, .int n] ∧ Dc H d ∧ 0 ≤ n ∧ z.length ≤ 1000 ∧
  ∀ p H' (ys : List V), Gr d H H' → H p = none → p ≠ d → H' p = some (.lst ys) → (∀ y ∈ ys, y ∈ sgs z) → ys.length = min n.toNat z.length → Q (.ref p) H'
def inv_some (d l p : Addr) (z : Str) (n : Int) (H : Hp) : Nat → L2.St → Hp → Prop := fun i σ H' =>
  ∃ (x5 : Option V) (ls fs : List V), σ = [some (.ref d), some (.str z), some (.int n), some (.ref l), some (.ref p), x5] ∧ Gr d H H' ∧
      H' l = some (.lst ls) ∧ H' p = some (.lst fs) ∧ ls.length + i = z.length ∧ fs.length = i ∧ (∀ y ∈ ls, y ∈ sgs z) ∧ ∀ y ∈ fs, y ∈ sgs z
abbrev abc : Str := "abcdefghijklmnopqrstuvwxyz"
def sp_law_names : Sp := fun vs H Q _ => ∃ (d : Addr) (n : Int), vs = [.ref d, .int n] ∧ Dc H d ∧ 0 ≤ n ∧
  ∀ p H' (ws : List Str), Gr d H H' → H p = none → p ≠ d → H' p = some (.lst (ws.map V.str)) → (∀ w ∈ ws, isNm w = true) → ws.length = min n.toNat 26 → Q (.ref p) H'
def inv_names (d l p : Addr) (n : Int) (ys : List V) (H : Hp) : Nat → L2.St → Hp → Prop := fun i σ H' =>
  ∃ (x4 x5 x6 x7 : Option V) (ws : List Str), σ = [some (.ref d), some (.int n), some (.ref p), some (.str abc), x4, x5, x6, x7] ∧ Gr d H H' ∧
      H' l = some (.lst ys) ∧ H' p = some (.lst (ws.map V.str)) ∧ ws.length = i ∧ ∀ w ∈ ws, isNm w = true
theorem abc_low : ∀ c ∈ abc.cps.toList, lowC c = true := by decide +kernel
theorem isNm_of {z : Str} (h1 : 1 ≤ z.length) (h2 : z.length ≤ 8) (h3 : inV (.str z) [.str "gives", .str "to"] = false) (h4 : ∀ c ∈ TL.tl z, lowC c = true) : isNm z = true := by
  unfold isNm
  rw [decide_eq_true (show (1 : Int) ≤ z.length by omega), decide_eq_true (show (z.length : Int) ≤ 8 by omega), h3, show z.cps.toList.all lowC = true from List.all_eq_true.mpr h4]
  rfl
def sp_law_odd_sign : Sp := fun vs H Q _ => ∃ (d : Addr), vs = [.ref d] ∧ Dc H d ∧ ∀ c H', lowC c = false → Gr d H H' → Q (.str ⟨#[c]⟩) H'
theorem pick_new {H : Hp} {d p : Addr} {xs : List V} {Q : VK} {E : XK} (hd : Dc H d) (hp : H p = none) (hne : xs ≠ []) (hl : xs.length < 1073741824)
    (q : ∀ y H', y ∈ xs → Gr d H H' → Q y H') : sp_law_pick K [.ref d, .ref p] (upd H p (.lst xs)) Q E :=
  ⟨d, _, rfl, (Gr.new hd hp).dice, .inl ⟨p, xs, rfl, hd.ne hp, sql_of upd_same, hne, hl, fun y H' hy g => q y H' hy ((Gr.new hd hp).trans g)⟩⟩
theorem roll_new {H : Hp} {d : Addr} {n : Int} {Q : VK} {E : XK} (hd : Dc H d) (h0 : 0 < n) (h1 : n < 1073741824)
    (q : ∀ (r : Int) H', 0 ≤ r → r < n → Gr d H H' → Q (.int r) H') : sp_law_roll [.ref d, .int n] H Q E :=
  ⟨d, n, rfl, h0, h1, hd, fun r x y z a b => q r _ a b (Gr.roll hd)⟩
theorem isint {H : Hp} {v : V} {t : String} {Q : VK} {E : XK} (k : Kn H v t) (q : Q (.bl (intV v)) H) : sp_is_integer [v] H Q E := ⟨v, t, rfl, k, q⟩
def sp_right : Sp := fun vs H Q _ => ∃ (d : Addr), vs = [.ref d] ∧ Dc H d ∧ ∀ H', Gr d H H' → Q (.bl true) H'
/-- items of a tuple that are told -/
structure Itm (H : Hp) (xs : List V) : Prop where
  kn : ∀ x ∈ xs, ∃ t, Kn H x t
  sz : ∀ y, V.str y ∈ xs → y.length ≤ sizeLine
theorem Itm.nil {H : Hp} : Itm H [] := ⟨(fun x h => nomatch h), (fun y h => nomatch h)⟩
theorem Itm.cons {H : Hp} {x : V} {xs : List V} {t : String} (k : Kn H x t) (z : ∀ y, x = .str y → y.length ≤ sizeLine) (r : Itm H xs) : Itm H (x :: xs) := by
  refine ⟨fun y h => ?_, fun y h => ?_⟩
  · rcases List.mem_cons.mp h with rfl | h
    · exact ⟨t, k⟩
    · exact r.kn y h
  · rcases List.mem_cons.mp h with h | h
    · exact z y h.symm
    · exact r.sz y h
theorem Itm.str {H : Hp} {y : Str} {xs : List V} (z : y.length ≤ sizeLine) (r : Itm H xs) : Itm H (.str y :: xs) := r.cons (.str y) (fun x e => by cases e; exact z)
theorem Itm.same {H H' : Hp} {xs : List V} (s : Same H H') (r : Itm H xs) : Itm H' xs := ⟨fun x h => (r.kn x h).imp fun _ k => k.same s, r.sz⟩
theorem Itm.gr {d : Addr} {H H' : Hp} {xs : List V} (s : Gr d H H') (r : Itm H xs) : Itm H' xs := ⟨fun x h => (r.kn x h).imp fun _ k => k.gr s, r.sz⟩
theorem slT {H : Hp} {a : Addr} {xs : List V} {lo hi : Option Int} {Q : VK} (h : H a = some (.tup xs))
    (q : ∀ p H', Same H H' → H' p = some (.tup (cutV xs lo hi)) → Q (.ref p) H') : rSlA K (.ref a) lo hi H Q := by
  refine ⟨a, xs, rfl, sqt_of h, fun e => q a H (Same.refl _) ?_, fun _ p hp => q p _ (same_new hp) upd_same⟩
  rw [h]
  unfold cutV
  rw [e.1, e.2]
  simp
theorem catT {H : Hp} {a b : Addr} {xs ys : List V} {Q : VK} (ha : H a = some (.tup xs)) (hb : H b = some (.tup ys)) (hl : xs.length + ys.length ≤ sizeLine)
    (q : ∀ p H', Same H H' → H' p = some (.tup (xs ++ ys)) → Q (.ref p) H') : rCatA K (.ref a) (.ref b) H Q := by
  refine ⟨a, b, xs, ys, rfl, rfl, sqt_of ha, sqt_of hb, hl, fun e => q b H (Same.refl _) ?_, fun _ e => q a H (Same.refl _) ?_, fun _ _ p hp => q p _ (same_new hp) upd_same⟩
  · rw [hb, e, List.nil_append]
  · rw [ha, e, List.append_nil]
theorem isNm_len {z : Str} (h : isNm z = true) : 1 ≤ z.length ∧ z.length ≤ 8 := by
  unfold isNm at h
  simp only [Bool.and_eq_true, decide_eq_true_eq] at h
  omega
theorem names_all {ws : List Str} {lo hi : Int} (h : ∀ w ∈ ws, isNm w = true) (h1 : lo ≤ ws.length) (h2 : ws.length ≤ hi) : namesV (ws.map V.str) lo hi = true := by
  unfold namesV
  rw [List.length_map, decide_eq_true h1, decide_eq_true h2]
  simp only [Bool.true_and, List.all_eq_true, List.mem_map]
  rintro x ⟨w, hw, rfl⟩
  exact h w hw
theorem cut_to {xs : List V} (k : Nat) : cutV xs none (some (k : Int)) = xs.take k := by
  unfold cutV
  rw [HT.sIx_none, HT.sIx_nat, List.drop_zero, Nat.sub_zero]
  by_cases h : k ≤ xs.length
  · rw [Nat.min_eq_left h]
  · rw [Nat.min_eq_right (by omega), List.take_of_length_le (by omega), List.take_of_length_le (by omega)]
end
end Lv

/-! tuples of names: equality, repr -/
namespace Lv
open PySem PySem.Spec PyProof.Rows L2
/-- a tuple of texts as data -/
def dS (ws : List Str) : PyData := .tuple (ws.map PyData.str)
theorem dpS {K : PySem.W.Frag} {H : Hp} : ∀ ws : List Str, DpAll K H (ws.map V.str) (ws.map PyData.str)
  | [] => .nil
  | w :: ws => .cons (.str w) (dpS ws)
theorem eqvS : ∀ xs ys : List Str, PyData.eqvAll (xs.map PyData.str) (ys.map PyData.str) = decide (xs = ys)
  | [], [] => by simp [PyData.eqvAll]
  | x :: xs, [] => by simp [PyData.eqvAll]
  | [], y :: ys => by simp [PyData.eqvAll]
  | x :: xs, y :: ys => by
    rw [List.map_cons, List.map_cons, PyData.eqvAll, eqvS xs ys, PyData.eqv]
    by_cases h : x = y <;> by_cases h2 : xs = ys <;> simp [h, h2]
def Pl (z : Str) : Prop := ∀ c ∈ z.cps.toList, c < 256
theorem pl_of {z : Str} (h : isNm z = true) : Pl z := by
  intro c hc
  unfold isNm at h
  simp only [Bool.and_eq_true] at h
  have := List.all_eq_true.mp h.2 c hc
  unfold lowC at this
  simp only [Bool.and_eq_true, Bool.not_eq_true', decide_eq_false_iff_not] at this
  have h2 := this.2
  by_cases hc2 : c ≤ 122
  · omega
  · exact absurd (show (Str.ofString "z").cps.toList < [c] from List.Lex.rel (show 122 < c by omega)) h2
theorem strOk_pl {z : Str} (h : Pl z) : PyData.strOk z = true := by
  show z.cps.all (· < 0x110000) = true
  rw [Array.all_eq_true']
  intro c hc
  have := h c (by simpa using hc)
  simp
  omega
theorem shapedS {ws : List Str} (h : ∀ w ∈ ws, Pl w) : SeqAt.shaped (dS ws) = true := by
  have h1 : ∀ {ws : List Str}, (∀ w ∈ ws, Pl w) → PyData.canLayAll0 (ws.map PyData.str) = true := by
    intro ws
    induction ws with
    | nil => intro _; simp [PyData.canLayAll0]
    | cons w ws ih =>
      intro h
      rw [List.map_cons, PyData.canLayAll0, ih fun x hx => h x (List.mem_cons_of_mem _ hx), PyData.canLay0, strOk_pl (h w List.mem_cons_self)]
      rfl
  have h2 : ∀ {ws : List Str}, PyData.depthAll (ws.map PyData.str) ≤ 10 := by
    intro ws
    induction ws with
    | nil => simp [PyData.depthAll]
    | cons w ws ih =>
      rw [List.map_cons, PyData.depthAll]
      simp [PyData.depth]
      omega
  unfold SeqAt.shaped
  have h3 := h2 (ws := ws)
  simp only [dS, PyData.canLay0, PyData.depth, h1 h, Bool.true_and]
  exact decide_eq_true (by omega)
section
variable {K : PySem.W.Frag} {H : Hp} {a b : Addr} {xs ys : List Str} {Q : VK}
theorem eqT (ha : SqT K H a (xs.map V.str)) (hb : SqT K H b (ys.map V.str)) (px : ∀ w ∈ xs, Pl w) (py : ∀ w ∈ ys, Pl w) (q : Q (.bl (decide (xs = ys))) H) : rEqD K (.ref a) (.ref b) H Q := by
  refine ⟨dS xs, dS ys, .tup ha (dpS xs), .tup hb (dpS ys), shapedS px, shapedS py, ?_⟩
  simp only [dS, PyData.eqv, eqvS]
  exact q
theorem neT (ha : SqT K H a (xs.map V.str)) (hb : SqT K H b (ys.map V.str)) (px : ∀ w ∈ xs, Pl w) (py : ∀ w ∈ ys, Pl w) (q : Q (.bl (!decide (xs = ys))) H) : rNeD K (.ref a) (.ref b) H Q := by
  refine ⟨dS xs, dS ys, .tup ha (dpS xs), .tup hb (dpS ys), shapedS px, shapedS py, ?_⟩
  simp only [dS, PyData.eqv, eqvS]
  exact q
end
/-! ### repr of a tuple of texts -/
theorem rlen {w : Str} (h : Pl w) : (reprText w).length ≤ 10 * w.length + 2 := StrLaws.reprText_len w fun c hc => Nat.lt_trans (h c hc) (by decide)
end Lv

/-! what the defs over types and fronts promise -/
namespace Lv
open PySem PySem.Spec PyProof.Rows L2
structure Ty (xs : List Str) : Prop where
  nm : ∀ w ∈ xs, isNm w = true
  lo : 1 ≤ xs.length
  hi : xs.length ≤ 401
structure Fn (ys : List Str) : Prop where
  nm : ∀ w ∈ ys, isNm w = true
  hi : ys.length ≤ 400
theorem Ty.v {xs : List Str} (h : Ty xs) : namesV (xs.map V.str) 1 401 = true := names_all h.nm (by have := h.lo; omega) (by have := h.hi; omega)
theorem Fn.v {xs : List Str} (h : Fn xs) : namesV (xs.map V.str) 0 400 = true := names_all h.nm (by omega) (by have := h.hi; omega)
abbrev blank : Str := " "
abbrev none' : Str := ""
def tx (xs : List Str) : Str := Txt.join blank xs
def begW (xs ys : List Str) : Bool := decide (ys.length < xs.length) && decide (xs.take ys.length = ys)
def sp_words_of : Sp := fun vs H Q _ => ∃ (v : V) (t : String), vs = [v] ∧ Kn H v t ∧ ((∀ z, v ≠ .str z) → Q .non H) ∧
  ∀ z, v = .str z → z.length + 2 ≤ sizeLine ∧ (none' ∈ Txt.split z blank → ∀ H', Same H H' → Q .non H') ∧
    (none' ∉ Txt.split z blank → ∀ p H', Same H H' → H p = none → H' p = some (.lst ((Txt.split z blank).map V.str)) → Q (.ref p) H')
def sp_begins_in : Sp := fun vs H Q _ => ∃ (a b : Addr) (xs ys : List Str), vs = [.ref a, .ref b] ∧ H a = some (.tup (xs.map V.str)) ∧ H b = some (.tup (ys.map V.str)) ∧ (∀ w ∈ xs, Pl w) ∧ (∀ w ∈ ys, Pl w) ∧
  ∀ H', Same H H' → Q (.bl (begW xs ys)) H'
def sp_require : Sp := fun vs H Q _ => ∃ (a b : Addr) (xs ys : List Str), vs = [.ref a, .ref b] ∧ H a = some (.tup (xs.map V.str)) ∧ H b = some (.tup (ys.map V.str)) ∧ Ty xs ∧ Fn ys ∧ ∀ H', Same H H' → Q .non H'
def sp_begins : Sp := fun vs H Q _ => ∃ (a b : Addr) (xs ys : List Str), vs = [.ref a, .ref b] ∧ H a = some (.tup (xs.map V.str)) ∧ H b = some (.tup (ys.map V.str)) ∧ Ty xs ∧ Fn ys ∧ ∀ H', Same H H' → Q (.bl (begW xs ys)) H'
def sp_tail : Sp := fun vs H Q _ => ∃ (a b : Addr) (xs ys : List Str), vs = [.ref a, .ref b] ∧ H a = some (.tup (xs.map V.str)) ∧ H b = some (.tup (ys.map V.str)) ∧ Ty xs ∧ Fn ys ∧ begW xs ys = true ∧
  ∀ p H', Same H H' → H' p = some (.tup ((xs.drop ys.length).map V.str)) → Q (.ref p) H'
def sp_write_type : Sp := fun vs H Q _ => ∃ (a : Addr) (xs : List Str), vs = [.ref a] ∧ H a = some (.tup (xs.map V.str)) ∧ Ty xs ∧ ∀ H', Same H H' → Q (.str (tx xs)) H'
def sp_read_type : Sp := fun vs H Q _ => ∃ (xs : List Str), vs = [.str (tx xs)] ∧ Ty xs ∧ ∀ p H', Same H H' → H' p = some (.tup (xs.map V.str)) → Q (.ref p) H'
theorem cut_from {xs : List V} (k : Nat) : cutV xs (some (k : Int)) none = xs.drop k := by
  unfold cutV
  rw [HT.sIx_none, HT.sIx_nat]
  by_cases h : k ≤ xs.length
  · rw [Nat.min_eq_left h, List.take_of_length_le (by rw [List.length_drop]; omega)]
  · rw [Nat.min_eq_right (by omega), List.drop_of_length_le (Nat.le_refl _), List.drop_of_length_le (by omega)]
    simp
theorem slFrom {K : PySem.W.Frag} {H : Hp} {a : Addr} {ws : List Str} {Q : VK} (k : Nat) (h : H a = some (.tup (ws.map V.str)))
    (q : ∀ p H', Same H H' → H' p = some (.tup ((ws.drop k).map V.str)) → Q (.ref p) H') : rSlA K (.ref a) (some (k : Int)) none H Q := by
  refine slT h fun p H' s f => q p H' s ?_
  rw [f, cut_from, List.map_drop]
end Lv

/-! comprehensions with a test -/
namespace Lv
open PySem PySem.Spec PyProof.Rows L2
section
variable {J : It} {G : Hp → Prop} {g : TG} {tt : TT} {te : TE} {vs : List Nat} {σ : L2.St} {H1 : Hp} {Q : VK}
theorem lc_filt {xs : List V} (w : Walk J xs.length G (YAt xs)) (P : V → Bool) (hn : xs.length ≤ sizeLine) (hG : ∀ H, Same H1 H → G H)
    (hs : ∀ x H, x ∈ xs → Same H1 H → ∀ (C : VK) (C' : Hp → Prop), (P x = true → ∀ H4, Same H H4 → C x H4) → (P x = false → ∀ H4, Same H H4 → C' H4) →
      g x (wipe σ vs) H fun σ2 H2 => wipe σ2 vs = wipe σ vs ∧ tt σ2 H2 fun b H3 => if b = true then te σ2 H3 C else C' H3)
    (hd : ∀ H D, Same H1 H → H1 D = none → H D = some (.lst (xs.filter P)) → Q (.ref D) H) : LcB J g tt te vs σ Q H1 := by
  intro D hD
  refine lc_it w (fun i H => Same H1 H ∧ H D = some (.lst ((xs.take i).filter P))) ⟨same_new hD, upd_same⟩ (fun i H _ h => hG H h.1) ?_ (fun H h => hd H D h.1 hD ?_)
  · rintro i x H H' hi ⟨hS, hL⟩ ⟨rfl, hx⟩
    have hlen : ((xs.take i).filter P).length < sizeLine := Nat.lt_of_le_of_lt (List.length_filter_le ..) (by rw [List.length_take]; omega)
    refine hs x H' (List.mem_of_getElem? hx) hS _ _ (fun hp H4 h4 => ⟨_, h4 _ _ hL, hlen, same_mut (hS.trans h4) hD, ?_⟩) (fun hp H4 h4 => ⟨hS.trans h4, ?_⟩)
    · rw [upd_same, List.take_add_one, hx, List.filter_append]
      simp [hp]
    · rw [h4 _ _ hL, List.take_add_one, hx, List.filter_append]
      simp [hp]
  · have := h.2
    rw [List.take_length] at this
    exact this
end
theorem ixt_nat {K : PySem.W.Frag} {H : Hp} {a : Addr} {xs : List V} {j : Nat} {v : V} {Q : VK} (h : SqT K H a xs) (e : xs[j]? = some v) (q : Q v H) :
    rIxT K (.ref a) (.int j) H Q := ⟨a, xs, j, v, rfl, rfl, h, atI_nat e, q⟩
theorem catL {H : Hp} {a b : Addr} {xs ys : List V} {Q : VK} (ha : H a = some (.lst xs)) (hb : H b = some (.lst ys)) (hl : xs.length + ys.length ≤ sizeLine)
    (q : ∀ p, H p = none → Q (.ref p) (upd H p (.lst (xs ++ ys)))) : rCat (.ref a) (.ref b) H Q := ⟨a, b, xs, ys, rfl, rfl, ha, hb, hl, q⟩
end Lv

/-! laws whose defs make lambdas: the tables of their code objects are told of -/
namespace Lv
open PySem PySem.Spec PyProof.Rows L2 LamX
/-- the law's call; cs: the code objects and their tables -/
theorem lawGT {P : Program} {w : World} {K : PySem.W.Frag} {mg mb : Str → Option Value} {k : Nat} {fa a : Addr} {cs : List (Addr × Addr)}
    {fd : FuncData} {x : Str} {sp : Sp} {s₁ : Shared} {vs : List Value} {ns : List Int}
    (hK : K.In s₁.heap) (hG : s₁.heap.Ns mainGlobals mg) (hB : s₁.heap.Ns builtinsNs mb)
    (hB2 : ∀ x : Str, x ≠ "__name__" → mb x = bootBuiltins x) (hL : s₁.heap.NoLimit) (hg : s₁.gens = #[])
    (hT : ∀ p ∈ cs, s₁.heap.get? p.2 = some { cls := .none, data := .fields #[] }) (nT : ∀ p ∈ cs, K.lookup p.2 = none)
    (hC : ∀ p ∈ cs, PySem.W.CodeHd s₁.heap p.1 p.2)
    (hbm : ∃ (bm : Addr) (ob : Obj), mg "__builtins__" = some (.ref bm) ∧ bm ≠ builtinsNs ∧ s₁.heap.get? bm = some ob ∧
      ob.cls = .type "module" ∧ ob.dict = some builtinsNs ∧ ob.data = .plain)
    (ha : s₁.heap.get? a = some { cls := .type "list", data := .seq vs.toArray }) (hi : IntsAre vs ns)
    (hl : ns.length ≤ sizeLine) (hr : Room k callerA)
    (F : ∀ base : Heap, K.In base → base.Ns mainGlobals mg → (∀ p ∈ cs, TabB base mg p.1 p.2) → FnG P w K mg base CX0 k fa fd [x] sp)
    (hbind : ∀ (s : Shared) (u : Value), BindsTo s fd ⟨[u], []⟩ [(x, u)])
    (hsp : ∀ H : Hp, (∀ p ∈ cs, H p.2 = some (.tbl #[])) → SqL K H a (ns.map V.int) → sp [.ref a] H (fun v _ => v = .bl true) E0) :
    codeAny (model P w) callerA (.call (.ref fa) ⟨[.ref a], []⟩)
      (fun r s' => r = .ok (.ret (.bool true)) ∧ OldK s₁.heap s'.heap ∧ s'.os = s₁.os ∧ AllBare s'.gens) s₁ := by
  have rv := vals_ints hi
  have lenV := hi.length
  let o₁ : Obj := { cls := .type "list", data := .seq vs.toArray }
  have atT : ∀ b, b ∈ cs.map (·.2) → s₁.heap.get? b = some { cls := .none, data := .fields #[] } := by
    intro b hb
    obtain ⟨p, hp, rfl⟩ := List.mem_map.mp hb
    exact hT p hp
  -- the heap that is told of: the tables, and the script where it is none of the text's own
  let H : Hp := fun b => if b ∈ cs.map (·.2) then some (.tbl #[]) else
    if b = a ∧ K.lookup a = none then some (.frz o₁ (.lst (ns.map V.int))) else none
  have HT : ∀ b, b ∈ cs.map (·.2) → H b = some (.tbl #[]) := fun b hb => if_pos hb
  have Hc : ∀ b u, H b = some u → (b ∈ cs.map (·.2) ∧ u = .tbl #[]) ∨
      (b = a ∧ K.lookup a = none ∧ b ∉ cs.map (·.2) ∧ u = .frz o₁ (.lst (ns.map V.int))) := by
    intro b u e
    by_cases hb : b ∈ cs.map (·.2)
    · rw [HT b hb] at e
      cases e
      exact .inl ⟨hb, rfl⟩
    · have e' : (if b = a ∧ K.lookup a = none then some (HO.frz o₁ (.lst (ns.map V.int))) else none) = some u := (if_neg hb).symm.trans e
      by_cases h2 : b = a ∧ K.lookup a = none
      · rw [if_pos h2] at e'
        cases e'
        exact .inr ⟨h2.1, h2.2, hb, rfl⟩
      · rw [if_neg h2] at e'
        cases e'
  have an : a ∉ cs.map (·.2) := fun z => by
    have q := atT a z
    rw [ha] at q
    exact nomatch congrArg Obj.data (Option.some.inj q)
  have hS : SqL K H a (ns.map V.int) := by
    cases hk : K.lookup a with
    | none => exact .inl (.inr ⟨o₁, (if_neg an).trans (if_pos ⟨rfl, hk⟩)⟩)
    | some o =>
      have e := hK a o hk
      rw [ha] at e
      cases e
      exact .inr ⟨_, vs.toArray, _, hk, rfl, rfl, rfl, by rw [List.size_toArray, lenV]; exact hl, by simpa using rv⟩
  have hok : HOk P w H s₁.heap := by
    intro b u e
    rcases Hc b u e with ⟨hb, rfl⟩ | ⟨rfl, _, _, rfl⟩
    · exact atT b hb
    · exact ⟨ha, by rw [List.length_map]; exact hl, vs, _, rv, ha⟩
  -- what is neither a list nor an empty record is not told of
  have free : ∀ {b : Addr} {o : Obj}, s₁.heap.get? b = some o → (∀ z n, o.data ≠ .seq z n) → o.data ≠ .fields #[] → H b = none := by
    intro b o e h1 h2
    cases q : H b with
    | none => rfl
    | some u =>
      rcases Hc b u q with ⟨hb, _⟩ | ⟨rfl, _⟩
      · rw [atT b hb] at e
        cases e
        exact absurd rfl h2
      · rw [ha] at e
        cases e
        exact absurd rfl (h1 _ _)
  have ns2 : ∀ {b : Addr} {m : Str → Option Value}, s₁.heap.Ns b m → (hidT s₁.heap H).Ns b m := by
    rintro b m ⟨o, es, ep, e, d, r⟩
    exact ⟨o, es, ep, hidT_get e (free e (fun z n q => by rw [d] at q; cases q) (fun q => by rw [d] at q; cases q)), d, r⟩
  have hKb : K.In (hidT s₁.heap H) := by
    intro b o e
    refine hidT_get (hK b o e) ?_
    cases q : H b with
    | none => rfl
    | some u =>
      rcases Hc b u q with ⟨hb, _⟩ | ⟨rfl, z, _⟩
      · obtain ⟨p, hp, rfl⟩ := List.mem_map.mp hb
        rw [nT p hp] at e
        cases e
      · rw [z] at e
        cases e
  have hM : Mod K mg (hidT s₁.heap H) := by
    refine ⟨hKb, ns2 hG, ⟨mb, ns2 hB, hB2⟩, ?_⟩
    obtain ⟨mc, h1, h2⟩ := hL
    exact ⟨mc, ns2 h1, h2⟩
  have TB : ∀ p ∈ cs, TabB (hidT s₁.heap H) mg p.1 p.2 := by
    intro p hp
    have hTp := hT p hp
    refine ⟨?_, ?_, ?_⟩
    · obtain ⟨o, us, file, tf, flags, tg, inF, text, tt, e1, r1, r2, rest⟩ := hC p hp
      refine ⟨o, us, file, tf, flags, tg, inF, text, tt, hidT_get e1 (free e1 ?_ ?_), r1, r2, rest⟩
      · intro z n q
        rw [r2] at q
        cases q
      · intro q
        rw [r2] at q
        cases q
        simp at rest
    · obtain ⟨bm, ob, b1, b2, b3, b4, b5, b6⟩ := hbm
      refine ⟨bm, ob, b1, b2, ?_, ?_, hidT_get b3 (free b3 ?_ ?_), b4, b5, b6⟩
      · rintro rfl
        obtain ⟨o, es, ep, e, hd, _⟩ := hG
        rw [e] at b3
        cases b3
        rw [hd] at b6
        cases b6
      · rintro rfl
        rw [hTp] at b3
        cases b3
        cases b6
      · intro z n q
        rw [b6] at q
        cases q
      · intro q
        rw [b6] at q
        cases q
    · intro z
      obtain ⟨o, es, ep, e, hd, _⟩ := hG
      rw [z, hTp] at e
      cases e
      cases hd
  have e0 : Env0 P w K mg (hidT s₁.heap H) callerA [] s₁ H := by
    refine ⟨rfl, hM, fun b o e => of_hidT e, Nat.le_of_eq (hidT_size _ _), trivial, ?_, hok, .of_eq hg⟩
    intro b hb
    exact absurd (show b ∈ ([] : List Addr) from hb) (by simp)
  have hH : ∀ p ∈ cs, H p.2 = some (.tbl #[]) := fun p hp => HT _ (List.mem_map.mpr ⟨p, hp, rfl⟩)
  have run := (F _ hKb (ns2 hG) TB).run callerA rfl [] s₁ H ⟨[.ref a], []⟩ [.ref a] [.ref a] _ _ hr e0
    (hbind s₁ (.ref a)) (.cons rfl .nil) (hsp H hH hS)
  refine codeAny_mono run ?_
  rintro (er | (_ | _ | _ | u)) s' h
  · exact False.elim h
  · exact False.elim h
  · exact False.elim h
  · exact False.elim h
  obtain ⟨v, H', os, bare, un, hok', r', q⟩ := h
  obtain rfl : v = V.bl true := q
  obtain rfl : u = Value.bool true := r'
  have old : ∀ b o, b ∉ cs.map (·.2) → s₁.heap.get? b = some o → s'.heap.get? b = some o := by
    intro b o nb e
    cases q : H b with
    | none => exact un.keep b o e q (fun z => absurd (show b ∈ ([] : List Addr) from z) (by simp)) (by simp)
    | some u =>
      rcases Hc b u q with ⟨hb, _⟩ | ⟨rfl, _, _, rfl⟩
      · exact absurd hb nb
      · obtain ⟨e1, _⟩ := hok b _ q
        obtain ⟨e2, _⟩ := hok' b _ (un.frzs b o₁ _ q)
        rw [e] at e1
        cases e1
        exact e2
  have grown : ∀ p ∈ cs, ∃ more : Array Value, s'.heap.get? p.2 = some { cls := .none, data := .fields more } := by
    intro p hp
    obtain ⟨more, z⟩ := un.tbls p.2 #[] (hH p hp)
    exact ⟨_, hok' p.2 _ z⟩
  refine ⟨rfl, ⟨?_, ?_⟩, os, bare⟩
  · intro b o e
    by_cases hb : b ∈ cs.map (·.2)
    · obtain ⟨p, hp, rfl⟩ := List.mem_map.mp hb
      obtain ⟨more, hm⟩ := grown p hp
      rw [hT p hp] at e
      cases e
      exact .inr (.inl ⟨((hC p hp).tab (hT p hp)).isCodeTable, rfl, #[], more, rfl, by rw [Array.empty_append]; exact hm⟩)
    · exact .inl (old b o hb e)
  · intro b o e
    by_cases hb : b ∈ cs.map (·.2)
    · obtain ⟨p, hp, rfl⟩ := List.mem_map.mp hb
      obtain ⟨more, hm⟩ := grown p hp
      exact ⟨_, hm⟩
    · exact ⟨o, old b o hb e⟩
/-- the code object and the table of the def that x names -/
def TabOf (mg : Str → Option Value) (h : Heap) (x : Str) : Prop := ∃ (f : Addr) (o : Obj) (fd : FuncData) (c P : Addr), mg x = some (.ref f) ∧ h.get? f = some o ∧ o.data = .func fd ∧ fd.code = .ref c ∧
  PySem.W.CodeHd h c P ∧ h.get? P = some { cls := .none, data := .fields #[] }
section
variable {P : Program} {w : World} {K : PySem.W.Frag} {mg : Str → Option Value} {base : Heap}
end
/-! ### heaps with tables -/
theorem tab_gr {H H' : Hp} {d : Addr} {T : List (Addr × Str)} (t : Tabs T H) (g : Gr d H H') : Tabs T H' := by
  intro p hp
  obtain ⟨ps, h1, h2, h3⟩ := t p hp
  obtain ⟨x, y, z, hd⟩ := g.pre
  have n1 : p.1 ≠ d := fun e => by
    rw [e, hd] at h1
    cases h1
  refine ⟨ps, g.keep _ _ n1 h1, h2, fun pos cv hc => ?_⟩
  obtain ⟨c, e, hcO⟩ := h3 pos cv hc
  refine ⟨c, e, g.keep _ _ (fun e => ?_) hcO⟩
  rw [e, hd] at hcO
  unfold CodeO at hcO
  cases hcO
/-- all but dice and tables is kept; the dice are dice, the tables tables -/
structure Gt (T : List (Addr × Str)) (d : Addr) (H H' : Hp) : Prop where
  pre : Dc H d
  keep : ∀ a o, a ≠ d → (∀ ps, o ≠ .tbl ps) → H a = some o → H' a = some o
  dice : Dc H' d
  tabs : Tabs T H'
section
variable {T : List (Addr × Str)} {d : Addr} {H H1 H2 : Hp}
theorem Gt.refl (h : Dc H d) (t : Tabs T H) : Gt T d H H := ⟨h, fun _ _ _ _ h => h, h, t⟩
theorem Gt.trans (a : Gt T d H H1) (b : Gt T d H1 H2) : Gt T d H H2 := ⟨a.pre, fun x o n z h => b.keep x o n z (a.keep x o n z h), b.dice, b.tabs⟩
theorem Gt.gr (a : Gt T d H H1) (g : Gr d H1 H2) : Gt T d H H2 := ⟨a.pre, fun x o n z h => g.keep x o n (a.keep x o n z h), g.dice, tab_gr a.tabs g⟩
theorem Gt.same (a : Gt T d H H1) (s : Same H1 H2) : Gt T d H H2 := a.gr (Gr.same a.dice s)
theorem Dc.extN (h : Dc H d) (e : ExtN H H1) : Dc H1 d := by
  obtain ⟨x, y, z, q⟩ := h
  exact ⟨x, y, z, e _ _ q fun ps e => nomatch e⟩
theorem Gt.ext (a : Gt T d H H1) (e : ExtN H1 H2) (t : Tabs T H2) : Gt T d H H2 := ⟨a.pre, fun x o n z h => e _ _ (a.keep x o n z h) z, a.dice.extN e, t⟩
theorem Gt.tup (a : Gt T d H H1) {p : Addr} {xs : List V} (h : H p = some (.tup xs)) : H1 p = some (.tup xs) := a.keep _ _ (a.pre.ne_tup h) (fun ps e => nomatch e) h
theorem Gt.lst (a : Gt T d H H1) {p : Addr} {xs : List V} (ne : p ≠ d) (h : H p = some (.lst xs)) : H1 p = some (.lst xs) := a.keep _ _ ne (fun ps e => nomatch e) h
end
/-- an own error's class, made with a text alone -/
structure XCl (K : PySem.W.Frag) (mg : Str → Option Value) (x : Str) (C : Addr) : Prop where
  g : mg x = some (.ref C)
  ex : PySem.W.excIn K C [.type "ValueError", .type "Exception", .type "BaseException", .type "object"] "ValueError.__new__" = true
  kp : PySem.W.keepIn K (.ref C) = true
  sb : PySem.W.subIn K (.ref C) (.type "BaseException") = some true
  ty : PySem.W.typeIn K (.ref C) = some (.type "type")
  ec : ExcC K C
theorem kit_same {K : PySem.W.Frag} {C : Addr} : PySem.W.kitOne K (.ref C) (.ref C) = some true := by
  unfold PySem.W.kitOne
  rw [if_pos (beq_self_eq_true _)]
theorem kit_sub {K : PySem.W.Frag} {D C : Addr} {b : Bool} (n : (Value.ref D == Value.ref C) = false) (ht : PySem.W.typeIn K (.ref C) = some (.type "type")) (hs : PySem.W.subIn K (.ref D) (.ref C) = some b) (hc : PySem.W.isClsIn K C = true) :
    PySem.W.kitOne K (.ref D) (.ref C) = some b := by
  unfold PySem.W.kitOne
  rw [if_neg (by rw [n]; exact Bool.false_ne_true)]
  unfold PySem.W.isClsIn at hc
  unfold PySem.W.kitCls
  simp only [ht, hs, hc]
  rfl
end Lv

/-! lists and tuples of names beside dice -/
namespace Lv
open PySem PySem.Spec PyProof.Rows L2
section
variable {K : PySem.W.Frag}
/-- a list of names that is not the dice -/
structure Wd (H : Hp) (d l : Addr) (ws : List Str) : Prop where
  at_ : H l = some (.lst (ws.map V.str))
  ne : l ≠ d
  nm : ∀ w ∈ ws, isNm w = true
  lo : 1 ≤ ws.length
  hi : ws.length ≤ 100
theorem Wd.gr {H H' : Hp} {d l : Addr} {ws : List Str} (h : Wd H d l ws) (g : Gr d H H') : Wd H' d l ws := ⟨g.keep _ _ h.ne h.at_, h.ne, h.nm, h.lo, h.hi⟩
end
end Lv

/-! comprehensions whose elements make lambdas; lists of texts -/
namespace Lv
open PySem PySem.Spec PyProof.Rows L2 LamX
section
variable {T : List (Addr × Str)} {d : Addr} {H H1 H2 : Hp}
theorem tabs_upd {p : Addr} {o : HO} {xs : List V} (t : Tabs T H) (h : H p = some (.lst xs)) : Tabs T (upd H p o) := by
  intro x hx
  obtain ⟨ps, h1, h2, h3⟩ := t x hx
  have n1 : x.1 ≠ p := fun e => by
    rw [e, h] at h1
    cases h1
  refine ⟨ps, by rw [upd_ne n1]; exact h1, h2, fun pos cv hc => ?_⟩
  obtain ⟨c, e, hcO⟩ := h3 pos cv hc
  refine ⟨c, e, ?_⟩
  rw [upd_ne (fun e2 => ?_)]
  · exact hcO
  · rw [e2, h] at hcO
    unfold CodeO at hcO
    cases hcO
theorem Gt.mut {p : Addr} {o : HO} {xs : List V} (g : Gt T d H H1) (h : H p = none) (ne : p ≠ d) (hl : H1 p = some (.lst xs)) : Gt T d H (upd H1 p o) := by
  refine ⟨g.pre, fun a u n z q => ?_, ?_, tabs_upd g.tabs hl⟩
  · rw [upd_ne (ne_of_none q h)]
    exact g.keep a u n z q
  · obtain ⟨x, y, z, q⟩ := g.dice
    exact ⟨x, y, z, by rw [upd_ne ne.symm]; exact q⟩
theorem Gt.kn {v : V} {t : String} (g : Gt T d H H1) (k : Kn H v t) : Kn H1 v t := by
  cases k with
  | non => exact .non
  | bl b => exact .bl b
  | int i => exact .int i
  | str z => exact .str z
  | @lst a xs h =>
    by_cases e : a = d
    · subst e
      obtain ⟨x, y, z, q⟩ := g.dice
      exact .lst q
    · exact .lst (g.lst e h)
  | tup h => exact .tup (g.tup h)
  | @dK a kvs h =>
    refine .dK (g.keep _ _ (fun e => ?_) (fun ps z => nomatch z) h)
    subst e
    obtain ⟨x, y, z, q⟩ := g.pre
    rw [q] at h
    cases h
theorem Gt.told {v : V} {xs : List V} {b : Bool} (g : Gt T d H H1) (t : Told H v xs b) : Told H1 v xs b := by
  cases t with
  | tup h k z => exact .tup (g.tup h) (fun x hx => (k x hx).imp fun _ q => g.kn q) z
  | oth k n => exact .oth (g.kn k) n
end
section
variable {J : It} {n : Nat} {G : Hp → Prop} {Y : Nat → Hp → V → Hp → Prop} {g : TG} {tt : TT} {te : TE} {vs : List Nat} {σ : L2.St} {Q : VK} {H1 : Hp}
end
/-- a list of texts as data -/
def dLs (ws : List Str) : PyData := .list (ws.map PyData.str)
/-- a text times an int -/
def rMulS : R2 := fun x y H Q => ∃ (z : Str) (n : Int), x = .str z ∧ y = .int n ∧ MulOk z n ∧ Q (.str (Txt.mul z n)) H
end Lv

/-! an own error over ValueError: def __init__(self, f): super().__init__(f'..{f}..'); self.f = f -/
namespace PySem
namespace PeX
open PySem.W PySem.Calls PyProof.Rows PySem.HandSPX
/-- where the rows of __init__ stand -/
structure Ps where
  a1 : Pos
  a2 : Pos
  p0 : Pos
  p1 : Pos
  p2 : Pos
  k1 : Pos
  n1 : Pos
  v1 : Pos
  k2 : Pos
  j : Pos
  c : Pos
  x : Pos
  q1 : Pos
  q2 : Pos
  q3 : Pos
  q4 : Pos
def iA (f : Str) (p : Ps) : Arguments := { posonlyargs := [], args := [{ arg := "self", annotation := none, pos := p.a1 }, { arg := f, annotation := none, pos := p.a2 }], vararg := none, kwonlyargs := [], kw_defaults := [], kwarg := none, defaults := [] }
def iB (f a b : Str) (p : Ps) : List Stmt := [
  .Expr (.Call (.Attribute (.Call (.Name "super" p.p0) [] [] p.p1) "__init__" p.p2)
    [.JoinedStr [.Constant (.str a) 0 p.k1, .FormattedValue (.Name f p.n1) (-1) none p.v1, .Constant (.str b) 0 p.k2] p.j] [] p.c) p.x,
  .Assign [.Attribute (.Name "self" p.q1) f p.q2] (.Name f p.q3) p.q4]
def iS (f : Str) : Scope := { kind := .function, names := [(PySem.Str.ofString "self", .local), (f, .local), (PySem.Str.ofString "__class__", .free), (PySem.Str.ofString "super", .globalImplicit)], isGenerator := false, isCoroutine := false, more := [] }
/-- what the written part says of the class c at C, and of its __init__, at fI -/
structure Txt (P : Program) (K : Frag) (mg : Str → Option Value) (c q f a b : Str) (C fI : Addr) : Prop where
  gC : mg c = some (.ref C)
  cls : ∃ nm q N bs bm sn sub ab col dd k0 k1 k2 k3 k5, K.lookup C = some (excClassObj nm q C N bs bm true sn sub ab col dd k0 k1 k2 k3 k5 "ValueError.__new__") ∧ refsVE bm = true
  sa : findIn K (.ref C) "__setattr__" = some (some (.builtin "object.__setattr__"))
  ga : findIn K (.ref C) "__getattribute__" = some (some (.builtin "BaseException.__getattribute__"))
  gg : findIn K (.ref C) "__getattr__" = some none
  noN : findIn K (.ref C) f = some none
  iC : findIn K (.ref C) "__init__" = some (some (.ref fI))
  tC : typeIn K (.ref fI) = some (.type "function")
  kC : keepIn K (.ref C) = true
  exC : subIn K (.ref C) (.type "BaseException") = some true
  veC : subIn K (.ref C) (.type "ValueError") = some true
  tyC : typeIn K (.ref C) = some (.type "type")
  hdC : hasDictIn K C = true
  sup : ks_superIn K C C "__init__" = some (some (.builtin "ValueError.__init__"))
  op : nsIn K cStatics "thirdparty.any" = some none
  msub : mroIn K C (.ref C) = some true
  nsup : mg "super" = none
  top : (P.main.scope.names.lookup ("super" : Str)).isSome = false
  fn : ∃ (oc : Value) (od : Option Addr) (doc pm : Value) (an : Option Addr) (cda : Addr) (ct : Value) (osl : Array (Option Value)) (p : Ps) (cc : Addr) (cl : Value) (cld : Option Addr) (csl : Array (Option Value)) (ccl : Value) (cdd : Option Addr) (vs : Array Value) (ccs : Array (Option Value)) (file : Str) (tf : Tok),
    K.lookup fI = some ⟨oc, od, .func (ksFn "__init__" q (iA f p) (iB f a b p) (iS f) .none .none doc pm an (.ref cda) ct cc), osl⟩ ∧ codeIn K (.ref cda) q = true ∧
    K.lookup cc = some ⟨cl, cld, .cell (some (.ref C)), csl⟩ ∧ K.lookup cda = some ⟨ccl, cdd, .fields vs, ccs⟩ ∧ vs[2]? = some (.str file tf) ∧ ((P.main.file : Str) == file) = true ∧ (p.p2.endLine == p.c.line) = true
/-- a field's name is no other name of __init__ -/
structure Fld (f : Str) : Prop where
  n1 : (f == ("self" : Str)) = false
  n2 : (f == ("__class__" : Str)) = false
  n3 : (f == ("super" : Str)) = false
  n4 : (f == ("__debug__" : Str)) = false
/-- what __init__ leaves of a fresh exception at x -/
structure InitEnd (f : Str) (h h' : Heap) (x C dx t1 : Addr) (v : Value) : Prop where
  keep : ∀ b o, b ≠ x → h.get? b = some o → h'.get? b = some o
  obj : h'.get? x = some { cls := .ref C, dict := some dx, data := .fields #[.ref t1, .none, .none, .none, .bool false, .none] }
  dbig : h.objs.size ≤ dx
  dne : dx ≠ x
  ns : h'.Ns1 dx (fun y => if y = f then some v else none)
theorem kept_but {K : Frag} {h h' : Heap} {x : Addr} (X : K.In h) (hx : K.lookup x = none) (k : ∀ b o, b ≠ x → h.get? b = some o → h'.get? b = some o) : K.In h' := fun a o e =>
  k a o (fun z => by rw [z, hx] at e; cases e) (X a o e)
section
variable {prog : Program} {w : World} {A : Around} {E : Value → Shared → Prop} {R : Result → Shared → Prop} {s : Shared} {K : Frag} {mg mb : Str → Option Value} {C fI : Addr} {c q a b : Str}
theorem call_tree {o : Expr} {name : Str} {apos pos : Pos} {e : Expr} {env : Env} (hpos : (apos.endLine == pos.line) = true) (hs : starEach [e] env = [(false, eval e env)]) :
    eval (.Call (.Attribute o name apos) [e] [] pos) env = (do
      let ov ← attributeBase o name env (eval o env)
      standAt apos.atName
      let (f, first) ← holding [ov] (getMethod ov name (do return (← importBound o env).getD true))
      callWith pos f first (backTo pos (starEach [e] env)) []) := by
  have hf : methodCallForm ([e].length + ([] : List Keyword).length) (backTo pos (starEach [e] env)) (backToKw pos (keywordEach [] env)) = true := by
    rw [hs]
    rfl
  have hm : methodCallPos (methodCallForm ([e].length + ([] : List Keyword).length) (backTo pos (starEach [e] env)) (backToKw pos (keywordEach [] env))) o env apos pos = pure pos := by
    unfold methodCallPos
    rw [hpos, Bool.or_true, if_pos rfl]
  rw [hf] at hm
  rw [arm_eval_Call]
  unfold methodCall
  simp only [hf, hm, calleeOf, if_true, pure_bind]
  rfl
theorem call_wrap {u x t0 N : Addr} {nm qn : Str} {bs bm sub : List Value} {hd ab : Bool} {sn : List Str} {col : Option Bool} {dd : Option Addr} {k0 k1 k2 k3 k5 : Option Value} {rest : List Value} {Q : Value → Shared → Prop}
    (hu : s.heap.get? u = some (kxs_mw "ValueError.__init__" x)) (hC : s.heap.get? C = some (excClassObj nm qn C N bs bm hd sn sub ab col dd k0 k1 k2 k3 k5 "ValueError.__new__")) (he : s.heap.get? x = some (excObj C t0 none .none)) (hz : rest.length ≤ sizeLine)
    (fin : ∀ h', (∀ b o, b ≠ x → s.heap.get? b = some o → h'.get? b = some o) → h'.get? x = some (excObj C s.heap.objs.size none .none) → Q .none { s with heap := h' }) : wpAny (model prog w) A (call (.ref u) rest) Q E s := by
  obtain ⟨hh, g, d, tk, os⟩ := s
  have FB := F.excBase_ValueError
  have go := fun (A : Around) (P : Fin → Shared → Prop) (E : Value → Shared → Prop) (h : ∀ h', (∀ b o, b ≠ x → hh.get? b = some o → h'.get? b = some o) → h'.get? x = some (excObj C hh.objs.size none .none) → P (.done (.ret .none)) ⟨h', g, d, tk, os⟩) =>
    exc_init_tree (M := model prog w) (A := A) (E := E) (P := P) (g := g) (d := d) (t := tk) (os := os) (cls := .ref C) (t0 := t0) (dv := none) (c2 := .none) (c3 := .none) (b4 := .bool false) (rest := rest) he hz fun h' k e _ => h h' k e
  refine wpAny_call (codeAny_of_tree ?_)
  show wpAny _ _ (callAny (.ref u) _) _ _ _
  unfold callAny
  repeat (first | (with_reducible refine wpAny_load hu ?_) | (refine check_bound_init (rest := rest) FB.toExcCallFacts hC he rfl ?_) | wp_step)
  all_goals (try exact ⟨plainId_quiet FB.init.plain _, codeAny_builtin FB.initEntry (go _ _ _ fun h' k e => fin h' k e)⟩)
theorem init (T : Txt prog K mg c q "line" a b C fI) {x t0 : Addr} {v : Value} (X : K.In s.heap) (hlim : s.heap.NoLimit) (hG : s.heap.Ns mainGlobals mg) (hB : s.heap.Ns builtinsNs mb) (hsu : mb "super" = some (.type "super"))
    (hx : s.heap.get? x = some (excO C t0)) (hnx : K.lookup x = none) (hroom : A.depth < recursionLimit)
    (za : a.length ≤ 100) (zb : b.length ≤ 100)
    (hfm : ∀ (A : Around) (s : Shared) (Q : Value → Shared → Prop) (E : Value → Shared → Prop), (∀ (y : Str) (t' k : Nat), y.length ≤ 100000 → Q (.str y t') { s with toks := k }) → wpAny (model prog w) A (formatField v Str.empty) Q E s)
    (hq : ∀ h' tk dx t1, InitEnd "line" s.heap h' x C dx t1 v → R (.ok (.ret .none)) { s with heap := h', toks := tk }) :
    codeAny (model prog w) A (.call (.ref fI) ⟨[.ref x, v], []⟩) R s := by
  obtain ⟨oc, od, doc, pm, an, cda, ct, osl, p, cc, cl, cld, csl, ccl, cdd, vs, ccs, file, tf, ho, hcd, hcell, hcode, hvs, hfile, hpos⟩ := T.fn
  obtain ⟨nm, qn, N, bs, bm, sn, sub, ab, col, dd, k0, k1, k2, k3, k5, hC, hbm⟩ := T.cls
  have hcl : clsIn K C = some { name := nm, bases := bs, mro := .ref C :: bm, ns := N, qualname := qn, hasDict := true, slotNames := sn, subclasses := sub, abstract := ab, collection := col, hasDel := false } := by unfold clsIn; rw [hC] <;> rfl
  have hsup := T.sup
  unfold ks_superIn at hsup
  rw [hcl] at hsup
  obtain ⟨hp, g, dr, tk, os⟩ := s
  refine ks_codeAny_call_defAt (fd := ksFn "__init__" q (iA "line" p) (iB "line" a b p) (iS "line") .none .none doc pm an (.ref cda) ct cc) (body := iB "line" a b p) (binds := [("self", .ref x), ("line", v)]) hroom (X _ _ ho) rfl hlim (codeRec_of X hcd) rfl
    (BindsTo.of_eq (by first | rfl | with_unfolding_all rfl)) (show ∀ x ∈ (iS "line").names, x.2 ≠ .cell by decide) (fun y hy => by
      rcases List.mem_cons.mp hy with rfl | hy
      · rfl
      · rcases List.mem_cons.mp hy with rfl | hy
        · rfl
        · exact nomatch hy) (fun h₁ hns k => ?_)
  have X₁ : K.In h₁ := X.keeps k
  have hx₁ := k _ _ hx
  have hC₁ := X₁ _ _ hC
  refine ks_wpAt_execs_cons (ks_wpAt_Expr_any (ks_wpAt_MethodCall ?_ (call_tree hpos rfl)))
  refine ks_wpAt_super_base rfl rfl rfl rfl (X₁ _ _ ho) rfl rfl rfl (X₁ _ _ hcode) rfl hvs hfile T.top ?_
  refine ks_loadName_global rfl rfl (loadGlobal_builtin (hG.keeps k) T.nsup (hB.keeps k) hsu ⟨rfl, ?_⟩)
  refine wpAny_loadName_free rfl rfl rfl ⟨_, X₁ _ _ hcell, rfl⟩ ?_
  refine wpAny_loadName_local rfl rfl hns rfl ?_
  refine ks_wpAny_isType_cls hC₁ rfl ⟨rfl, ?_⟩
  refine ks_wpAny_call_super hC₁ rfl hx₁ rfl (fun c e => nomatch e) (looks_mroIn X₁ T.msub) (fun h₂ e₂ k₂ => ?_)
  have X₂ : K.In h₂ := X₁.keeps k₂
  have hx₂ := k₂ _ _ hx₁
  have I₂ : InstAt h₂ x (excO C t0) C none := ⟨hx₂, rfl, rfl, trivial⟩
  refine kxs_getMethod kxs_ValueError e₂ (looks_opaque X₂ T.op) (l₀ := .ref C :: bm) (fun A Q E s k q => wpAny_bind ((looks_clsIn X₂ hcl) A _ E s k (wpAny_pure q))) rfl X₂ hsup (I₂.type.andThen (looks_subIn X₂ T.veC)) (ks_ne X₂ I₂ hcl) rfl ?_
  have k₃ : ∀ b o, h₂.get? b = some o → (h₂.push (kxs_mw "ValueError.__init__" x)).get? b = some o := fun b o e => Heap.get?_push_of_some _ e
  have e₃ : (h₂.push (kxs_mw "ValueError.__init__" x)).get? h₂.objs.size = some (kxs_mw "ValueError.__init__" x) := Heap.get?_push_at rfl rfl
  have k₃₃ : ∀ b o, h₁.get? b = some o → (h₂.push (kxs_mw "ValueError.__init__" x)).get? b = some o := fun b o e => k₃ b o (k₂ b o e)
  have hns₃ := hns.keeps k₃₃
  refine kxs_callWith (i := "ValueError.__init__") (x := x) rfl (evalArgs_plain ?_)
  refine spliced_cons ?_
  refine wpAny_JoinedStr (pos := p.j) ?_
  refine Constant_str ⟨_, _, rfl, ?_, ?_⟩
  · show (Str.empty ++ a).length ≤ sizeLine
    rw [strLen_append]
    exact Nat.le_trans (show _ ≤ 100 by show 0 + a.length ≤ 100; omega) (by decide)
  refine wpAny_FormattedValue_plain (wpAny_Name (wpAny_loadName_local rfl rfl hns₃ rfl ?_) (by decide))
  refine hfm _ _ _ _ fun y t' k' hy => ⟨y, t', rfl, ?_, ?_⟩
  · rw [strLen_append, strLen_append]
    exact Nat.le_trans (show _ ≤ 100100 by show 0 + a.length + y.length ≤ 100100; omega) (by decide)
  refine Constant_str ⟨_, _, rfl, ?_, ?_⟩
  · rw [strLen_append, strLen_append, strLen_append]
    exact Nat.le_trans (show _ ≤ 100200 by show 0 + a.length + y.length + b.length ≤ 100200; omega) (by decide)
  refine ⟨?_, ?_⟩
  · rw [strLen_append, strLen_append, strLen_append]
    exact Nat.le_trans (show _ ≤ 100200 by show 0 + a.length + y.length + b.length ≤ 100200; omega) (by decide)
  refine spliced_nil ⟨e₃, ?_⟩
  refine call_wrap e₃ (k₃ _ _ (X₂ _ _ hC)) (k₃ _ _ hx₂) (show 1 ≤ sizeLine by decide) fun h₄ k₄ hx₄ => ?_
  have X₄ : K.In h₄ := kept_but (X₂.keeps k₃) hnx k₄
  have xL : hp.objs.size ≠ x := Nat.ne_of_gt (Heap.lt_size hx)
  have hns₄ : h₄.Ns hp.objs.size (fun x_1 => List.lookup x_1 [(("self" : Str), Value.ref x), (("line" : Str), v)].reverse) := hns₃.at fun o e => k₄ _ o xL e
  show wpAt _ _ _ (execs _ _) _ _ _
  refine ks_wpAt_execs_cons (ks_wpAt_Assign_Attr (wpAt_of_wpAny ?_))
  refine wpAny_Name (wpAny_loadName_local rfl rfl hns₄ rfl ?_) (by decide)
  refine wpAny_Name (wpAny_loadName_local rfl rfl hns₄ rfl ?_) (by decide)
  refine set_plain X₄ (ox := excObj C (h₂.push (kxs_mw "ValueError.__init__" x)).objs.size none .none) (od := none) ⟨hx₄, rfl, rfl, trivial⟩ T.sa ?_
  refine exc_osa X₄ hx₄ hcl (show refsVE (.ref C :: bm) = true from hbm) rfl T.noN (fun h₅ tk₅ dx k₅ dn dne hx₅ hn₅ => ?_)
  show wpAt _ _ _ (execs _ _) _ _ _
  refine wpAt_of_wpAny (wpAny_execs_nil (hq h₅ tk₅ dx _ ⟨fun b o hb e => k₅ b o hb (k₄ b o hb (k₃₃ b o (k b o e))), hx₅, ?_, dne, hn₅⟩))
  have z : hp.objs.size < h₄.objs.size := hns₄.lt
  exact Nat.le_of_lt (Nat.lt_of_lt_of_le z dn)
/-- a made one -/
structure OwnMade (f : Str) (h h' : Heap) (e C d : Addr) (v : Value) : Prop where
  keep : ∀ b o, h.get? b = some o → h'.get? b = some o
  new : h.objs.size ≤ e
  obj : ∃ oe vs, h'.get? e = some oe ∧ oe.cls = .ref C ∧ oe.dict = some d ∧ oe.data = .fields vs ∧ vs[1]? = some .none
  dbig : h.objs.size ≤ d
  dne : d ≠ e
  ns : h'.Ns1 d (fun y => if y = f then some v else none)
theorem made (T : Txt prog K mg c q "line" a b C fI) {v : Value} (X : K.In s.heap) (hlim : s.heap.NoLimit) (hG : s.heap.Ns mainGlobals mg) (hB : s.heap.Ns builtinsNs mb) (hsu : mb "super" = some (.type "super")) (hroom : A.depth + 1 < recursionLimit)
    (za : a.length ≤ 100) (zb : b.length ≤ 100)
    (hfm : ∀ (A : Around) (s : Shared) (Q : Value → Shared → Prop) (E : Value → Shared → Prop), (∀ (y : Str) (t' k : Nat), y.length ≤ 100000 → Q (.str y t') { s with toks := k }) → wpAny (model prog w) A (formatField v Str.empty) Q E s)
    (hq : ∀ h' tk e d, OwnMade "line" s.heap h' e C d v → R (.ok (.ret (.ref e))) { s with heap := h', toks := tk }) :
    codeAny (model prog w) A (.call (.ref C) ⟨[v], []⟩) R s := by
  obtain ⟨nm, qn, N, bs, bm, sn, sub, ab, col, dd, k0, k1, k2, k3, k5, hC, hbm⟩ := T.cls
  obtain ⟨hp, g, dr, tk, os⟩ := s
  have k : ∀ b o, hp.get? b = some o → ((hp.push (kdv_tup [v])).push (excO C hp.objs.size)).get? b = some o := fun b o e => Heap.get?_push_of_some _ (Heap.get?_push_of_some _ e)
  have hget : ((hp.push (kdv_tup [v])).push (excO C hp.objs.size)).get? (hp.objs.size + 1) = some (excO C hp.objs.size) := by heap_get
  have hnx : K.lookup (hp.objs.size + 1) = none := by
    cases e : K.lookup (hp.objs.size + 1) with
    | none => rfl
    | some o =>
      have z : hp.get? (hp.objs.size + 1) = some o := X _ _ e
      exact absurd (Nat.lt_of_succ_lt (Heap.lt_size z)) (Nat.lt_irrefl _)
  refine call_own F.excBase_ValueError (fun X => refsVE_contains X bm hbm) (X _ _ hC) (looks_findIn X T.iC) (fun self => bind_fn X self T.tC) (show 1 ≤ sizeLine by decide) ?_
  refine init (s := ⟨(hp.push (kdv_tup [v])).push (excO C hp.objs.size), g, dr, tk, os⟩) T (X.keeps k) (hlim.keeps k) (hG.keeps k) (hB.keeps k) hsu hget hnx ?_ za zb hfm fun h' tk' dx t1 M => ?_
  · show A.depth + 1 < recursionLimit
    exact hroom
  · obtain ⟨k', hx, dn, dne, hns⟩ := M
    have old : ∀ b o, hp.get? b = some o → h'.get? b = some o := fun b o e => k' b o (Nat.ne_of_lt (Nat.lt_succ_of_lt (Heap.lt_size e))) (k b o e)
    have z : hp.objs.size + 1 + 1 ≤ dx := by
      first
        | (simpa only [Heap.size_push] using dn)
        | exact dn
        | (have q := dn; rw [Heap.size_push, Heap.size_push] at q; exact q)
    exact ⟨rfl, hq h' tk' (hp.objs.size + 1) dx ⟨old, Nat.le_succ _, ⟨_, _, hx, rfl, rfl, rfl, rfl⟩, Nat.le_trans (Nat.le_trans (Nat.le_succ _) (Nat.le_succ _)) z, dne, hns⟩⟩
end
end PeX
end PySem
namespace Lv
open PySem PySem.Spec PyProof.Rows L2
theorem relO_one {f0 : Str} {v : V} {v' : Value} (r : RelV v v') (f : Str) : RelO (List.lookup f [(f0, v)]) (if f = f0 then some v' else none) := by
  by_cases hw : f = f0
  · subst hw
    rw [if_pos rfl]
    have q : List.lookup f [(f, v)] = some v := by simp [List.lookup]
    rw [q]
    exact r
  · rw [if_neg hw]
    have qw : (f == f0) = false := by simpa using hw
    have q2 : List.lookup f [(f0, v)] = none := by simp [List.lookup, qw]
    rw [q2]
    trivial
section
variable {X : Cx} {C fI : Addr} {c q a b : Str}
/-- C(None): the error keeps None -/
def tMkN (C : Addr) (ta : TA) : L2.St → Hp → XK → Prop := fun σ H Q => ta σ H fun vs H1 => vs = [.non] ∧ ∀ d, H1 d = none → Q (.ref C) (some d) (upd H1 d (.xd [(("line" : Str), .non)]))
end
end Lv

/-! try with several clauses, with `as` or without; no exception leaves -/
namespace Lv
open PySem PySem.Spec PyProof.Rows L2
/-- an exception that a try of X has caught -/
structure Got (X : Cx) (pins : List (Addr × Obj)) (σ : L2.St) (H : Hp) (a : Addr) (cls : Value) (d : Option Addr) (s : Shared) : Prop where
  ex : ∃ (B : Heap) (t : Shared), L2.Inv X pins σ H t ∧ (∀ b o, t.heap.get? b = some o → b ∉ frs X.stack → B.get? b = some o) ∧ t.heap.UpToSlots s.heap ∧
    HandSPX.FlyingZ B (X.env :: X.outer) a (Zc cls d) s.heap ∧ s.os = t.os ∧ AllBare s.gens
  na : H a = none
section
variable {X : Cx} {pins : List (Addr × Obj)} {σ : L2.St} {H : Hp} {a : Addr} {cls : Value} {d : Option Addr} {s : Shared}
theorem Got.inv (g : Got X pins σ H a cls d s) : L2.Inv X pins σ H s := by
  obtain ⟨B, t, I, nb, up, fl, os, ag⟩ := g.ex
  exact I.landed nb fl.1 up os ag
theorem Got.suite (g : Got X pins σ H a cls d s) (hf : X.env.frame = some X.env.locals) :
    ∃ oe, Zc cls d oe ∧ (∃ vs, oe.data = .fields vs) ∧ s.heap.get? a = some oe ∧ L2.Inv (X.suite a ((a, oe) :: (X.pn ++ pins))) [] σ H s := by
  obtain ⟨B, t, I, nb, up, fl, os, ag⟩ := id g.ex
  obtain ⟨oe, vs, ge, ze, de⟩ := fl.there
  have out : a ∉ (X.env :: X.outer).filterMap (·.frame) := by
    intro m
    obtain ⟨_, o2, e2, no⟩ := fl.2.2.1.mem m
    cases ge.symm.trans e2
    exact no vs de
  refine ⟨oe, ze, ⟨vs, de⟩, ge, g.inv.suite ge de g.na ?_ ?_⟩
  · rintro rfl
    exact out (List.mem_filterMap.mpr ⟨_, .head _, hf⟩)
  · intro m
    obtain ⟨e1, m1, q1⟩ := List.mem_filterMap.mp m
    exact out (List.mem_filterMap.mpr ⟨e1, .tail _ m1, q1⟩)
theorem Got.test {x : Str} {c : Value} {b : Bool} {np pos' : Pos} {R : Except Value Flow → Shared → Prop} (g : Got X pins σ H a cls d s) (hf : X.env.frame = some X.env.locals) (hc : Names X x c)
    (hb : PySem.W.exmOne X.K cls c = some b) (h : R (.ok (if b then .brk else .next)) s) :
    codeAny (model X.prog X.w) (X.A.mark (some (.ref a))) (.handlers (.ref a) [.ExceptHandler (some (.Name x np)) none [] pos'] X.env) R s := by
  obtain ⟨oe, ze, _, ge, S⟩ := g.suite hf
  refine codeAny_handlers_test ?_
  have look : PySem.W.Looks (model X.prog X.w) s.heap (typeOf (.ref a)) cls := fun _ _ _ _ k q => wpAny_typeOf_ref (k _ _ ge) (ze.1.symm ▸ q)
  have nxt := (PySem.W.exm_one (M := model X.prog X.w) g.inv.kIn look hb).here (A := X.A.mark (some (.ref a))) (s := s) (Q := fun b s₂ => R (.ok (if b then .brk else .next)) s₂)
    (E := notedBy (model X.prog X.w) (X.A.mark (some (.ref a))) X.env fun x s₂ => R (.error x) s₂) h
  rcases hc with ⟨hg, hd, hm | ⟨hm, hv, hn⟩⟩
  · exact ld_glob S hg hm nxt hd
  · exact ld_blt S hg hm hv nxt hn hd
/-- the ends of a suite whose name goes -/
def gone (i : Nat) (D : Ends) : Ends := { nx := fun σ' H' => D.nx (σ'.set i none) H', rt := D.rt, bk := fun σ' H' => D.bk (σ'.set i none) H', ct := fun σ' H' => D.ct (σ'.set i none) H' }
end
abbrev ClW := Ends → Addr → Value → Option Addr → L2.St → Hp → Prop
/-- a clause, with the class it names and what its suite wishes -/
inductive Clause (X : Cx) : ExceptHandler → Value → ClW → Prop
  | plain {x : Str} {c : Value} {np pos' : Pos} {b₀ : Stmt} {suite : List Stmt} {ts : Addr → Value → Option Addr → TS} (hc : Names X x c)
      (hsu : ∀ (a : Addr) (oe : Obj) (cls : Value) (d : Option Addr) (pn : List (Addr × Obj)), Zc cls d oe → (∃ vs, oe.data = .fields vs) → PSs (X.suite a ((a, oe) :: pn)) (b₀ :: suite) (ts a cls d)) :
      Clause X (.ExceptHandler (some (.Name x np)) none (b₀ :: suite) pos') c (fun D a cls d σ H => ts a cls d D σ H)
  | named {x n : Str} {i : Nat} {c : Value} {np pos' : Pos} {b₀ : Stmt} {suite : List Stmt} {ts : Addr → Value → Option Addr → TS} (hN : X.N.Nodup) (hi : X.N[i]? = some n) (hl : X.env.kindOf n = some .local) (hc : Names X x c)
      (hsu : ∀ (a : Addr) (oe : Obj) (cls : Value) (d : Option Addr) (pn : List (Addr × Obj)), Zc cls d oe → (∃ vs, oe.data = .fields vs) → PSs (X.suite a ((a, oe) :: pn)) (b₀ :: suite) (ts a cls d)) :
      Clause X (.ExceptHandler (some (.Name x np)) (some n) (b₀ :: suite) pos') c (fun D a cls d σ H => ts a cls d (gone i D) (σ.set i (some (.ref a))) H)
inductive Clauses (X : Cx) : List ExceptHandler → List (Value × ClW) → Prop
  | nil : Clauses X [] []
  | cons {h : ExceptHandler} {c : Value} {f : ClW} {hs : List ExceptHandler} {l : List (Value × ClW)} : Clause X h c f → Clauses X hs l → Clauses X (h :: hs) ((c, f) :: l)
/-- what the clauses wish of an exception -/
def wCl (K : PySem.W.Frag) (D : Ends) : List (Value × ClW) → WX
  | [] => fun _ _ _ _ => False
  | (c, f) :: r => fun cls d σ H => (PySem.W.exmOne K cls c = some true ∧ ∀ a, H a = none → f D a cls d σ H) ∨ (PySem.W.exmOne K cls c = some false ∧ wCl K D r cls d σ H)
section
variable {X : Cx} {pins : List (Addr × Obj)} {σ : L2.St} {H : Hp} {a : Addr} {cls : Value} {d : Option Addr} {s : Shared}
end
/-- what a try wishes of what flies out of its body -/
abbrev caught (X : Cx) (pins : List (Addr × Obj)) (D : Ends) (hds : List ExceptHandler) : Value → Shared → Prop := fun e => wpAny (model X.prog X.w) X.A (noteFrame e X.env)
  (fun _ => wpAny (model X.prog X.w) X.A (setFlight e none) (fun _ => wpAny (model X.prog X.w) X.A (handleBy e X.env hds) (SP X pins D) X.xe) X.xe) X.xe
end Lv
namespace PySem.W
open PySem PySem.Spec PySem.Calls PyProof.Rows
end PySem.W
namespace Lv
open PySem PySem.Spec PyProof.Rows L2
/-- isinstance(e, c), e the caught error, c its class or one above it -/
def rIsT (K : PySem.W.Frag) (D a : Addr) : List V → Hp → VK → Prop := fun xs H Q => ∃ (c : V) (cv : Value), xs = [.ref a, c] ∧ (∀ u, RelV c u → u = cv) ∧ PySem.W.kitOne K (.ref D) cv = some true ∧ Q (.bl true) H
/-- repr(None) -/
def rRpN : List V → Hp → VK → Prop := fun xs H Q => xs = [.non] ∧ Q (.str "None") H
end Lv

/-! errors over other classes than ValueError -/
namespace PySem
namespace PeB
open PySem.W PySem.Calls PyProof.Rows PySem.HandSPX Builtin Builtin.ObjectAttr
abbrev keTail : List Value := [.type "KeyError", .type "LookupError", .type "Exception", .type "BaseException", .type "object"]
/-- what is asked of the __new__ under which such objects are made -/
structure NewF (B newId : String) : Prop where
  kind : builtinKind newId = some .builtinFn
  split : splitId newId = some (B, "__new__")
  row : Manifest.signature? newId = some ⟨.any, B, B, .cls, [⟨"args", .varPos, false⟩, ⟨"kwargs", .varKw, false⟩]⟩
  ends : newId.endsWith ".__new__" = true
  entry : entryFor table newId = some Builtin.«BaseException.__new__»
  owner : newId.dropRight 8 = B
  canon : Manifest.canonical newId = Manifest.canonical "BaseException.__new__"
  quiet : newId.startsWith "lifetime." = false
  star : (B != "*") = true
theorem NewF.of {B newId initId : String} {bm : List Value} (F : ExcBaseFacts B newId initId bm) : NewF B newId := ⟨F.newKind, F.newSplit, F.newRow, F.ends, F.entry, F.owner, F.canon, F.quiet, F.noStar⟩
/-- what is asked of the __init__ that super() finds -/
structure InitF (B initId : String) : Prop where
  kx : KxsFacts B initId
  kind : builtinKind initId = some .slot
  row : Manifest.signature? initId = some ⟨.positional, "*", B, .self, [⟨"args", .varPos, false⟩]⟩
  slot : Slot B "__init__" initId
  entry : entryFor table initId = some Builtin.«BaseException.__init__»
  star : (B != "*") = true
theorem InitF.of {B newId initId : String} {bm : List Value} (k : KxsFacts B initId) (F : ExcBaseFacts B newId initId bm) : InitF B initId := ⟨k, F.initKind, F.initRow, F.init, F.initEntry, F.noStar⟩
/-- the classes above such a class -/
structure Above (B' : String) (l : List Value) : Prop where
  has : l.contains (.type B') = true
  na : l.contains (.type "AttributeError") = false
  nn : l.contains (.type "NameError") = false
  obj : l.contains (.type "object") = true
  ne : l.isEmpty = false
  pass : ∀ self, refuseLoop self "__setattr__" l = pure ()
section
variable {prog : Program} {w : World} {A : Around} {E : Value → Shared → Prop} {R : Result → Shared → Prop} {h : Heap} {g : Array GenState} {d : Drawn} {t : Nat} {os : OsState}
variable {nm q : Str} {C N : Addr} {bs bm : List Value} {hdct : Bool} {sn : List Str} {sub : List Value} {ab : Bool} {col : Option Bool} {dd : Option Addr} {k0 k1 k2 k3 k5 : Option Value} {B newId : String}
theorem made_new (F : NewF B newId) (L : Above B (.ref C :: bm)) {rest : List Value} (hC : h.get? C = some (excClassObj nm q C N bs bm hdct sn sub ab col dd k0 k1 k2 k3 k5 newId)) (hz : rest.length ≤ sizeLine)
    (fin : R (.ok (.ret (.ref (h.objs.size + 1)))) ⟨(h.push (kdv_tup rest)).push (excO C h.objs.size), g, d, t, os⟩) : codeAny (model prog w) A (.call (.builtin newId) ⟨.ref C :: rest, []⟩) R ⟨h, g, d, t, os⟩ := by
  have cB := L.has
  have cA := L.na
  have cN := L.nn
  have e1 := F.ends
  have e2 := F.star
  refine codeAny_call_builtin_code (Code.quiet_builtin _ F.quiet) ?_
  simp only [checkBuiltinCall, F.kind, F.split, F.row]
  repeat (first
    | refine wpAny_loadPart_at hC ?_
    | (refine wpAny_isSubtype_exc hC ?_; rw [cB])
    | refine wpAny_staticBase_exc hC ?_
    | refine wpAny_madeBy_exc hC ?_
    | simp only [bne_self_eq_false, Bool.false_eq_true, if_false]
    | wp_step)
  refine codeAny_builtinAt F.entry ?_
  unfold Builtin.«BaseException.__new__»; refine wpAt_bind ?_
  change wpAt _ _ _ (stack >>= _) _ _ _
  refine wpAt_bind (wpAt_stack fun _ _ => wpAt_of_wpAny ?_)
  wp_walk
  refine wpAt_of_wpAny ?_
  rw [F.owner]
  repeat (first
    | with_reducible refine wpAny_madeHere_exc F.canon hC ?_
    | with_reducible refine wpAny_loadPart_at hC ?_
    | (with_reducible refine wpAny_isSubtype_exc hC ?_; first | rw [cB] | rw [cA] | rw [cN])
    | wp_step)
  show R _ _
  rw [Heap.size_push]
  exact fin
theorem type_call (F : NewF B newId) (L : Above B (.ref C :: bm)) {rest : List Value} {fI : Addr} {Q : Fin → Shared → Prop} (hC : h.get? C = some (excClassObj nm q C N bs bm hdct sn sub ab col dd k0 k1 k2 k3 k5 newId))
    (hi : Looks (model prog w) h (typeLookup (.ref C) "__init__") (some (.ref fI))) (hb : ∀ self, Looks (model prog w) h (bindSpecial (.ref fI) self) (.ref fI, [self])) (hz : rest.length ≤ sizeLine)
    (go : codeAny (model prog w) A (.call (.ref fI) ⟨.ref (h.objs.size + 1) :: rest, []⟩)
      (fun r s' => match r with | .ok (.ret v) => v = .none ∧ Q (.done (.ret (.ref (h.objs.size + 1)))) s' | .ok _ => False | .error e => E e s') ⟨(h.push (kdv_tup rest)).push (excO C h.objs.size), g, d, t, os⟩) :
    wpAny (model prog w) A (Builtin.«type.__call__» ⟨.ref C :: rest, []⟩) Q E ⟨h, g, d, t, os⟩ := by
  have kk : ∀ b o, h.get? b = some o → ((h.push (kdv_tup rest)).push (excO C h.objs.size)).get? b = some o := fun b o e => Heap.get?_push_of_some _ (Heap.get?_push_of_some _ e)
  have own : (Value.ref C :: bm).contains (.ref C) = true := by simp
  have here : ((h.push (kdv_tup rest)).push (excO C h.objs.size)).get? (h.objs.size + 1) = some (excO C h.objs.size) := by heap_get
  repeat (first
    | with_reducible refine wpAny_loadPart_at hC ?_
    | with_reducible refine wpAny_madeBy_exc hC ?_
    | wp_step)
  refine made_new F L hC hz ?_
  change wpAny _ _ _ _ _ _
  unfold isInstance
  repeat (first
    | with_reducible refine wpAny_loadPart_at here ?_
    | (with_reducible refine wpAny_isSubtype_exc (kk _ _ hC) ?_; rw [own])
    | wp_step)
  change wpAny _ _ (typeLookup (.ref C) _) _ _ _
  refine (hi.keeps kk).at (wpAny_holding (wpAny_bind (((hb _).keeps kk).at (wpAny_bind (wpAny_call (codeAny_mono go fun r s' z => ?_))))))
  match r, z with
  | .error e, z => exact z
  | .ok (.ret v), z =>
    obtain ⟨rfl, z⟩ := z
    first
      | exact wpAny_pure (wpAny_pure z)
      | (wp_walk; exact z)
theorem call_cls (F : NewF B newId) (L : Above B (.ref C :: bm)) {rest : List Value} {fI : Addr} (hC : h.get? C = some (excClassObj nm q C N bs bm hdct sn sub ab col dd k0 k1 k2 k3 k5 newId))
    (hi : Looks (model prog w) h (typeLookup (.ref C) "__init__") (some (.ref fI))) (hb : ∀ self, Looks (model prog w) h (bindSpecial (.ref fI) self) (.ref fI, [self])) (hz : rest.length ≤ sizeLine)
    (go : codeAny (model prog w) (A.under (.builtin "type.__call__" ⟨.ref C :: rest, []⟩)) (.call (.ref fI) ⟨.ref (h.objs.size + 1) :: rest, []⟩) (InitBack (h.objs.size + 1) R) ⟨(h.push (kdv_tup rest)).push (excO C h.objs.size), g, d, t, os⟩) :
    codeAny (model prog w) A (.call (.ref C) ⟨rest, []⟩) R ⟨h, g, d, t, os⟩ := by
  have l1 := tc_lookup
  have l2 := tc_bind (.ref C)
  have l3 : (⟨h, g, d, t, os⟩ : Shared).TypeIs (.ref C) "type" := ⟨_, hC, rfl⟩
  refine codeAny_of_tree (show wpAny _ _ (callAny (.ref C) _) _ _ _ from ?_)
  repeat (any_goals (first
    | assumption
    | with_reducible refine wpAny_loadPart_at hC ?_
    | wp_step))
  refine ⟨rfl, codeAny_call_builtin_at (Code.quiet_builtin _ (by decide +kernel)) entry_typeCall (wpAny_check_type_call_sub hC (type_call F L hC hi hb hz (codeAny_mono go fun r s' z => ?_)))⟩
  match r, z with
  | .error e, z => exact z
  | .ok (.ret v), z => exact z
theorem Above.of {B' : String} {bmB l : List Value} (a : Above B' bmB) (e : excTail bmB l = true) : Above B' l where
  has := (excTail_contains _ l e).trans a.has
  na := (excTail_contains _ l e).trans a.na
  nn := (excTail_contains _ l e).trans a.nn
  obj := (excTail_contains _ l e).trans a.obj
  ne := by
    cases l with
    | nil =>
      have z := a.has
      rw [← excTail_contains (bmB := bmB) B' [] e] at z
      cases z
    | cons _ _ => rfl
  pass := fun self => excTail_pass self (a.pass self) l e
abbrev tl1 (b : String) : List Value := [.type b, .type "Exception", .type "BaseException", .type "object"]
abbrev tl2 (a b : String) : List Value := [.type a, .type b, .type "Exception", .type "BaseException", .type "object"]
theorem aOE : Above "OverflowError" (tl2 "OverflowError" "ArithmeticError") := ⟨by decide +kernel, by decide +kernel, by decide +kernel, by decide +kernel, rfl, F.store_OverflowError.passes⟩
theorem aRE : Above "RuntimeError" (tl1 "RuntimeError") := ⟨by decide +kernel, by decide +kernel, by decide +kernel, by decide +kernel, rfl, F.store_RuntimeError.passes⟩
/-- self.name = v where the error has no dict yet -/
theorem osaB {K : Frag} {B' : String} {name : Str} {tk : Tok} {v : Value} {x : Addr} {fv : Array Value} {cd : ClassData} (X : K.In h) (hx : h.get? x = some { cls := .ref C, data := .fields fv }) (hcd : clsIn K C = some cd) (L : Above B' cd.mro)
    (hh : cd.hasDict = true) (ha : findIn K (.ref C) name = some none)
    (fin : ∀ h' tk' dx, (∀ b o, b ≠ x → h.get? b = some o → h'.get? b = some o) → h.objs.size ≤ dx → dx ≠ x → h'.get? x = some { cls := .ref C, dict := some dx, data := .fields fv } →
      h'.Ns1 dx (fun y => if y = name then some v else none) → R (.ok (.ret .none)) ⟨h', g, d, tk', os⟩) :
    codeAny (model prog w) A (.call (.builtin "object.__setattr__") ⟨[.ref x, .str name tk, v], []⟩) R ⟨h, g, d, t, os⟩ := by
  have J : InstAt h x { cls := .ref C, data := .fields fv } C none := ⟨hx, rfl, rfl, trivial⟩
  have S := F.store_object
  have far : x ≠ h.objs.size := Nat.ne_of_lt (Heap.lt_size hx)
  have lc : Looks (model prog w) h (classData C) cd := looks_clsIn X hcd
  have lo : Looks (model prog w) h (isInstance (.ref x) (.type "object")) true := by
    refine J.type.andThen (looks_mroIn X ?_)
    unfold mroIn
    rw [hcd, Option.bind_some, if_neg (by rw [L.ne]; decide), L.obj]
  have lm : Looks (model prog w) h (mroOf (.ref C)) cd.mro := lc.andThen .now
  refine codeAny_call_builtin S.slot.plain S.entry (@check_slot (model prog w) _ _ ⟨h, g, d, t, os⟩ "object.__setattr__" "object" "__setattr__" (.ref x) [.str name tk, v] [] _ S.kind S.split lo (S.args _ _ _) ?_)
  rw [osa_eq, refuse_eq]
  refine wpAny_bind (wpAny_bind (J.type.at (wpAny_bind (lm.at ?_))))
  rw [L.pass]
  refine wpAny_pure (wpAny_bind (J.type.at (wpAny_bind ((looks_findIn X ha).at (wpAny_bind (Looks.at (r := none) .now ?_))))))
  change wpAny _ _ (storeInOwnDict (.ref x) (.ref C) (.str name tk) name v false) _ _ _
  obtain ⟨a1, a2, a3, a4, a5, hd, a6, a7, a8, a9, a0⟩ := cd
  obtain rfl : hd = true := hh
  unfold storeInOwnDict ownDictForStores
  repeat (first
    | with_reducible refine store_in_new ?_ ?_
    | with_reducible refine wpAny_loadPart_at hx ?_
    | with_reducible refine lc.at ?_
    | wp_step)
  · exact ⟨_, #[], _, (Heap.get?_update_ne _ _ _ _ far.symm).trans (Heap.get?_push_at rfl rfl), rfl, fun e he => absurd he (by simp), fun _ => rfl⟩
  · intro h' tk' n1 n2
    refine fin h' tk' h.objs.size (fun b o hb e => ?_) (Nat.le_refl _) far.symm ?_ n1
    · rw [n2.2 b (Nat.ne_of_lt (Heap.lt_size e)), Heap.get?_update_ne _ _ _ _ hb]
      exact Heap.get?_push_of_some _ e
    · rw [n2.2 x far]
      exact Heap.get?_update_self _ (Heap.get?_push_of_some _ hx) rfl
theorem check_boundB {M : Model} {B' newId i : String} (F : InitF B' i) {x : Addr} {oe : Obj} {rest : List Value} {Q : Unit → Shared → Prop} (hC : h.get? C = some (excClassObj nm q C N bs bm hdct sn sub ab col dd k0 k1 k2 k3 k5 newId))
    (he : h.get? x = some oe) (hc : oe.cls = .ref C) (fin : Q () ⟨h, g, d, t, os⟩) : wpAny M A (checkBoundCall i ⟨.ref x :: rest, []⟩) Q E ⟨h, g, d, t, os⟩ := by
  have st := F.star
  simp only [checkBoundCall, F.kind, F.row]
  repeat (first
    | (with_reducible refine wpAny_loadPart_at he ?_; rw [hc])
    | with_reducible refine wpAny_loadPart_at hC ?_
    | wp_step)
  have e : ∀ (a b : String) (n : Nat), Bind.check ⟨.positional, "*", B', .self, [⟨"args", .varPos, false⟩]⟩ a b n (List.map (fun x => x.fst) ({ pos := Value.ref x :: rest } : Args).kw) = pure () := fun _ _ _ => check_star_args _ _ _ _ _ _
  exact wpAny_onRaise (by rw [e]; exact wpAny_pure fin)
/-- the bound __init__ of a class above, called -/
theorem call_wrapB {B' i : String} (F : InitF B' i) {u x t0 : Addr} {rest : List Value} {Q : Value → Shared → Prop} {s : Shared} (hu : s.heap.get? u = some (kxs_mw i x))
    (hC : s.heap.get? C = some (excClassObj nm q C N bs bm hdct sn sub ab col dd k0 k1 k2 k3 k5 newId)) (he : s.heap.get? x = some (excObj C t0 none .none)) (hz : rest.length ≤ sizeLine)
    (fin : ∀ h', (∀ b o, b ≠ x → s.heap.get? b = some o → h'.get? b = some o) → h'.get? x = some (excObj C s.heap.objs.size none .none) → Q .none { s with heap := h' }) : wpAny (model prog w) A (call (.ref u) rest) Q E s := by
  obtain ⟨hh, g, d, tk, os⟩ := s
  have go := fun (A : Around) (P : Fin → Shared → Prop) (E : Value → Shared → Prop) (f : ∀ h', (∀ b o, b ≠ x → hh.get? b = some o → h'.get? b = some o) → h'.get? x = some (excObj C hh.objs.size none .none) → P (.done (.ret .none)) ⟨h', g, d, tk, os⟩) =>
    exc_init_tree (M := model prog w) (A := A) (E := E) (P := P) (g := g) (d := d) (t := tk) (os := os) (cls := .ref C) (t0 := t0) (dv := none) (c2 := .none) (c3 := .none) (b4 := .bool false) (rest := rest) he hz fun h' k e _ => f h' k e
  refine wpAny_call (codeAny_of_tree (show wpAny _ _ (callAny (.ref u) _) _ _ _ from ?_))
  unfold callAny
  repeat (first
    | (with_reducible refine wpAny_load hu ?_)
    | (refine check_boundB (rest := rest) F hC he rfl ?_)
    | wp_step)
  all_goals (try exact ⟨plainId_quiet F.slot.plain _, codeAny_builtin F.entry (go _ _ _ fun h' k e => fin h' k e)⟩)
end
end PeB
end PySem

set_option pp.maxSteps 300
/-! an own error over some class of Python: def __init__(self, f): super().__init__(f'..{f}..'); self.f = f -/
namespace PySem
namespace PeB
open PySem.W PySem.Calls PyProof.Rows PySem.HandSPX
/-- the class above: of whose __new__ (Bn, newId), of whose __init__ (Bi, i), its own row -/
structure Bs where
  Bn : String
  newId : String
  Bi : String
  i : String
  tail : List Value
structure BsOk (p : Bs) : Prop where
  new : NewF p.Bn p.newId
  init : InitF p.Bi p.i
  ab : Above p.Bn p.tail
abbrev bVE : Bs := ⟨"ValueError", "ValueError.__new__", "ValueError", "ValueError.__init__", tl1 "ValueError"⟩
abbrev bKE : Bs := ⟨"LookupError", "LookupError.__new__", "KeyError", "KeyError.__init__", tl2 "KeyError" "LookupError"⟩
abbrev bLE : Bs := ⟨"LookupError", "LookupError.__new__", "LookupError", "LookupError.__init__", tl1 "LookupError"⟩
abbrev bIE : Bs := ⟨"IndexError", "IndexError.__new__", "IndexError", "IndexError.__init__", tl2 "IndexError" "LookupError"⟩
abbrev bOE : Bs := ⟨"OverflowError", "OverflowError.__new__", "OverflowError", "OverflowError.__init__", tl2 "OverflowError" "ArithmeticError"⟩
abbrev bAE : Bs := ⟨"ArithmeticError", "ArithmeticError.__new__", "ArithmeticError", "ArithmeticError.__init__", tl1 "ArithmeticError"⟩
abbrev bRE : Bs := ⟨"RuntimeError", "RuntimeError.__new__", "RuntimeError", "RuntimeError.__init__", tl1 "RuntimeError"⟩
theorem okOE : BsOk bOE := ⟨.of F.excBase_OverflowError, .of kxs_OverflowError F.excBase_OverflowError, aOE⟩
theorem okRE : BsOk bRE := ⟨.of F.excBase_RuntimeError, .of kxs_RuntimeError F.excBase_RuntimeError, aRE⟩
/-- __init__ whose text begins with the value -/
def iB1 (f a b : Str) (p : PeX.Ps) : List Stmt := [
  .Expr (.Call (.Attribute (.Call (.Name "super" p.p0) [] [] p.p1) "__init__" p.p2) [.JoinedStr [.FormattedValue (.Name f p.n1) (-1) none p.v1, .Constant (.str b) 0 p.k2] p.j] [] p.c) p.x,
  .Assign [.Attribute (.Name "self" p.q1) f p.q2] (.Name f p.q3) p.q4]
/-- __init__ whose text ends with the value -/
def iB2 (f a b : Str) (p : PeX.Ps) : List Stmt := [
  .Expr (.Call (.Attribute (.Call (.Name "super" p.p0) [] [] p.p1) "__init__" p.p2) [.JoinedStr [.Constant (.str a) 0 p.k1, .FormattedValue (.Name f p.n1) (-1) none p.v1] p.j] [] p.c) p.x,
  .Assign [.Attribute (.Name "self" p.q1) f p.q2] (.Name f p.q3) p.q4]
/-- what the written part says of the class c at C, and of its __init__, at fI -/
structure TxB (P : Program) (K : Frag) (mg : Str → Option Value) (c q f a b : Str) (C fI : Addr) (p : Bs) (bd : Str → Str → Str → PeX.Ps → List Stmt) : Prop where
  gC : mg c = some (.ref C)
  cls : ∃ nm q N bs bm sn sub ab col dd k0 k1 k2 k3 k5, K.lookup C = some (excClassObj nm q C N bs bm true sn sub ab col dd k0 k1 k2 k3 k5 p.newId) ∧ excTail p.tail bm = true
  sa : findIn K (.ref C) "__setattr__" = some (some (.builtin "object.__setattr__"))
  ga : findIn K (.ref C) "__getattribute__" = some (some (.builtin "BaseException.__getattribute__"))
  gg : findIn K (.ref C) "__getattr__" = some none
  noN : findIn K (.ref C) f = some none
  iC : findIn K (.ref C) "__init__" = some (some (.ref fI))
  tC : typeIn K (.ref fI) = some (.type "function")
  kC : keepIn K (.ref C) = true
  exC : subIn K (.ref C) (.type "BaseException") = some true
  veC : subIn K (.ref C) (.type p.Bi) = some true
  tyC : typeIn K (.ref C) = some (.type "type")
  hdC : hasDictIn K C = true
  sup : ks_superIn K C C "__init__" = some (some (.builtin p.i))
  op : nsIn K cStatics "thirdparty.any" = some none
  msub : mroIn K C (.ref C) = some true
  nsup : mg "super" = none
  top : (P.main.scope.names.lookup ("super" : Str)).isSome = false
  fn : ∃ (oc : Value) (od : Option Addr) (doc pm : Value) (an : Option Addr) (cda : Addr) (ct : Value) (osl : Array (Option Value)) (ps : PeX.Ps) (cc : Addr) (cl : Value) (cld : Option Addr) (csl : Array (Option Value)) (ccl : Value) (cdd : Option Addr) (vs : Array Value) (ccs : Array (Option Value)) (file : Str) (tf : Tok),
    K.lookup fI = some ⟨oc, od, .func (ksFn "__init__" q (PeX.iA f ps) (bd f a b ps) (PeX.iS f) .none .none doc pm an (.ref cda) ct cc), osl⟩ ∧ codeIn K (.ref cda) q = true ∧
    K.lookup cc = some ⟨cl, cld, .cell (some (.ref C)), csl⟩ ∧ K.lookup cda = some ⟨ccl, cdd, .fields vs, ccs⟩ ∧ vs[2]? = some (.str file tf) ∧ ((P.main.file : Str) == file) = true ∧ (ps.p2.endLine == ps.c.line) = true
section
variable {prog : Program} {w : World} {A : Around} {E : Value → Shared → Prop} {R : Result → Shared → Prop} {s : Shared} {K : Frag} {mg mb : Str → Option Value} {C fI : Addr} {c q a b : Str}
/-- how the value is put into the text of the error -/
def Fmts (prog : Program) (w : World) (A : Around) (h : Heap) (v : Value) : Prop :=
  ∀ (env : Env) (s' : Shared) (Q : Value → Shared → Prop) (E : Value → Shared → Prop), (∀ b o, h.get? b = some o → s'.heap.get? b = some o) →
    (∀ (y : Str) (t' k : Nat) (h' : Heap), y.length ≤ 100000 → (∀ b o, s'.heap.get? b = some o → h'.get? b = some o) → Q (.str y t') { s' with heap := h', toks := k }) → wpAny (model prog w) (A.deeper env) (formatField v Str.empty) Q E s'
theorem Fmts.mono {prog : Program} {w : World} {A : Around} {h h' : Heap} {v : Value} (f : Fmts prog w A h v) (k : ∀ b o, h.get? b = some o → h'.get? b = some o) : Fmts prog w A h' v :=
  fun env s' Q E k' fin => f env s' Q E (fun b o e => k' b o (k b o e)) fin
/-- a class whose objects keep what they are made of, in the field f -/
structure Kp (P : Program) (w : World) (K : Frag) (mg : Str → Option Value) (c : Str) (C : Addr) (f : Str) : Prop where
  gC : mg c = some (.ref C)
  kC : keepIn K (.ref C) = true
  exC : subIn K (.ref C) (.type "BaseException") = some true
  tyC : typeIn K (.ref C) = some (.type "type")
  ga : findIn K (.ref C) "__getattribute__" = some (some (.builtin "BaseException.__getattribute__"))
  gg : findIn K (.ref C) "__getattr__" = some none
  hdC : hasDictIn K C = true
  noN : findIn K (.ref C) f = some none
  made : ∀ (A : Around) (R : Result → Shared → Prop) (s : Shared) (v : Value) (mb : Str → Option Value), K.In s.heap → s.heap.NoLimit → s.heap.Ns mainGlobals mg → s.heap.Ns builtinsNs mb → mb "super" = some (.type "super") → A.depth + 1 < recursionLimit →
    Fmts P w (A.under (.builtin "type.__call__" ⟨[.ref C, v], []⟩)) s.heap v → (∀ h' tk e d, PeX.OwnMade f s.heap h' e C d v → R (.ok (.ret (.ref e))) { s with heap := h', toks := tk }) → codeAny (model P w) A (.call (.ref C) ⟨[v], []⟩) R s
/-- the __init__ of such a class, whose field is limit -/
theorem init_limit {p : Bs} (ok : BsOk p) (T : TxB prog K mg c q "limit" a b C fI p iB2) {x t0 : Addr} {v : Value} (X : K.In s.heap) (hlim : s.heap.NoLimit) (hG : s.heap.Ns mainGlobals mg) (hB : s.heap.Ns builtinsNs mb) (hsu : mb "super" = some (.type "super"))
    (hx : s.heap.get? x = some (excO C t0)) (hnx : K.lookup x = none) (hroom : A.depth < recursionLimit) (za : a.length ≤ 100) (zb : b.length ≤ 100)
    (hfm : Fmts prog w A s.heap v)
    (hq : ∀ h' tk dx t1, PeX.InitEnd "limit" s.heap h' x C dx t1 v → R (.ok (.ret .none)) { s with heap := h', toks := tk }) :
    codeAny (model prog w) A (.call (.ref fI) ⟨[.ref x, v], []⟩) R s := by
  obtain ⟨oc, od, doc, pm, an, cda, ct, osl, ps, cc, cl, cld, csl, ccl, cdd, vs, ccs, file, tf, ho, hcd, hcell, hcode, hvs, hfile, hpos⟩ := T.fn
  obtain ⟨nm, qn, N, bs, bm, sn, sub, ab, col, dd, k0, k1, k2, k3, k5, hC, hbm⟩ := T.cls
  have hcl : clsIn K C = some { name := nm, bases := bs, mro := .ref C :: bm, ns := N, qualname := qn, hasDict := true, slotNames := sn, subclasses := sub, abstract := ab, collection := col, hasDel := false } := by unfold clsIn; rw [hC] <;> rfl
  have hsup := T.sup
  unfold ks_superIn at hsup
  rw [hcl] at hsup
  obtain ⟨hp, g, dr, tk, os⟩ := s
  refine ks_codeAny_call_defAt (fd := ksFn "__init__" q (PeX.iA "limit" ps) (iB2 "limit" a b ps) (PeX.iS "limit") .none .none doc pm an (.ref cda) ct cc) (body := iB2 "limit" a b ps) (binds := [("self", .ref x), ("limit", v)]) hroom (X _ _ ho) rfl hlim (codeRec_of X hcd) rfl
    (BindsTo.of_eq (by first | rfl | with_unfolding_all rfl)) (show ∀ x ∈ (PeX.iS "limit").names, x.2 ≠ .cell by decide) (fun y hy => by
      rcases List.mem_cons.mp hy with rfl | hy
      · rfl
      · rcases List.mem_cons.mp hy with rfl | hy
        · rfl
        · exact nomatch hy) (fun h₁ hns k => ?_)
  have X₁ : K.In h₁ := X.keeps k
  have hx₁ := k _ _ hx
  have hC₁ := X₁ _ _ hC
  refine ks_wpAt_execs_cons (ks_wpAt_Expr_any (ks_wpAt_MethodCall ?_ (PeX.call_tree hpos rfl)))
  refine ks_wpAt_super_base rfl rfl rfl rfl (X₁ _ _ ho) rfl rfl rfl (X₁ _ _ hcode) rfl hvs hfile T.top ?_
  refine ks_loadName_global rfl rfl (loadGlobal_builtin (hG.keeps k) T.nsup (hB.keeps k) hsu ⟨rfl, ?_⟩)
  refine wpAny_loadName_free rfl rfl rfl ⟨_, X₁ _ _ hcell, rfl⟩ (wpAny_loadName_local rfl rfl hns rfl (ks_wpAny_isType_cls hC₁ rfl ⟨rfl, ?_⟩))
  refine ks_wpAny_call_super hC₁ rfl hx₁ rfl (fun c e => nomatch e) (looks_mroIn X₁ T.msub) (fun h₂ e₂ k₂ => ?_)
  have X₂ : K.In h₂ := X₁.keeps k₂
  have hx₂ := k₂ _ _ hx₁
  have I₂ : InstAt h₂ x (excO C t0) C none := ⟨hx₂, rfl, rfl, trivial⟩
  refine kxs_getMethod ok.init.kx e₂ (looks_opaque X₂ T.op) (l₀ := .ref C :: bm) (fun A Q E s k q => wpAny_bind ((looks_clsIn X₂ hcl) A _ E s k (wpAny_pure q))) rfl X₂ hsup (I₂.type.andThen (looks_subIn X₂ T.veC)) (ks_ne X₂ I₂ hcl) rfl ?_
  have k₃ : ∀ b o, h₂.get? b = some o → (h₂.push (kxs_mw p.i x)).get? b = some o := fun b o e => Heap.get?_push_of_some _ e
  have e₃ : (h₂.push (kxs_mw p.i x)).get? h₂.objs.size = some (kxs_mw p.i x) := Heap.get?_push_at rfl rfl
  have k₃₃ : ∀ b o, h₁.get? b = some o → (h₂.push (kxs_mw p.i x)).get? b = some o := fun b o e => k₃ b o (k₂ b o e)
  have hns₃ := hns.keeps k₃₃
  refine kxs_callWith (i := p.i) (x := x) rfl (evalArgs_plain (spliced_cons (wpAny_JoinedStr (pos := ps.j) (Constant_str ⟨_, _, rfl, ?_, ?_⟩))))
  · rw [strLen_append]
    exact Nat.le_trans (show _ ≤ 100 by show 0 + a.length ≤ 100; omega) (by decide)
  refine wpAny_FormattedValue_plain (wpAny_Name (wpAny_loadName_local rfl rfl hns₃ rfl ?_) (by decide))
  refine hfm _ _ _ _ (fun b o e => k₃₃ b o (k b o e)) fun y t' k' h₆ hy k₆ => ?_
  have all : Str.empty.length + a.length + y.length ≤ sizeLine := Nat.le_trans (show _ ≤ 100200 by show 0 + a.length + y.length ≤ 100200; omega) (by decide)
  refine ⟨y, t', rfl, by rw [strLen_append, strLen_append]; exact all, by rw [strLen_append, strLen_append]; exact all, spliced_nil ⟨k₆ _ _ e₃, ?_⟩⟩
  have X₆ : K.In h₆ := (X₂.keeps k₃).keeps k₆
  refine call_wrapB ok.init (k₆ _ _ e₃) (X₆ _ _ hC) (k₆ _ _ (k₃ _ _ hx₂)) (show 1 ≤ sizeLine by decide) fun h₄ k₄ hx₄ => ?_
  have X₄ : K.In h₄ := PeX.kept_but X₆ hnx k₄
  have xL : hp.objs.size ≠ x := Nat.ne_of_gt (Heap.lt_size hx)
  have hns₄ : h₄.Ns hp.objs.size (fun x_1 => List.lookup x_1 [(("self" : Str), Value.ref x), (("limit" : Str), v)].reverse) := (hns₃.keeps k₆).at fun o e => k₄ _ o xL e
  change wpAt _ _ _ (execs _ _) _ _ _
  refine ks_wpAt_execs_cons (ks_wpAt_Assign_Attr (wpAt_of_wpAny (wpAny_Name (wpAny_loadName_local rfl rfl hns₄ rfl (wpAny_Name (wpAny_loadName_local rfl rfl hns₄ rfl ?_) (by decide))) (by decide))))
  refine set_plain X₄ (ox := excObj C h₆.objs.size none .none) (od := none) ⟨hx₄, rfl, rfl, trivial⟩ T.sa ?_
  refine osaB X₄ hx₄ hcl (ok.ab.of (show excTail p.tail (.ref C :: bm) = true from hbm)) rfl T.noN (fun h₅ tk₅ dx k₅ dn dne hx₅ hn₅ => ?_)
  change wpAt _ _ _ (execs _ _) _ _ _
  refine wpAt_of_wpAny (wpAny_execs_nil (hq h₅ tk₅ dx _ ⟨fun b o hb e => k₅ b o hb (k₄ b o hb (k₆ _ _ (k₃₃ b o (k b o e)))), hx₅, ?_, dne, hn₅⟩))
  have z : hp.objs.size < h₄.objs.size := hns₄.lt
  exact Nat.le_of_lt (Nat.lt_of_lt_of_le z dn)
theorem Kp.of_limit {p : Bs} (ok : BsOk p) (T : TxB prog K mg c q "limit" a b C fI p iB2) (za : a.length ≤ 100) (zb : b.length ≤ 100) : Kp prog w K mg c C "limit" := by
  refine ⟨T.gC, T.kC, T.exC, T.tyC, T.ga, T.gg, T.hdC, T.noN, ?_⟩
  intro A R s v mb X hlim hG hB hsu hroom hfm fin
  obtain ⟨nm, qn, N, bs, bm, sn, sub, ab, col, dd, k0, k1, k2, k3, k5, hC, hbm⟩ := T.cls
  obtain ⟨hp, g, dr, tk, os⟩ := s
  have k : ∀ b o, hp.get? b = some o → ((hp.push (kdv_tup [v])).push (excO C hp.objs.size)).get? b = some o := fun b o e => Heap.get?_push_of_some _ (Heap.get?_push_of_some _ e)
  have here : ((hp.push (kdv_tup [v])).push (excO C hp.objs.size)).get? (hp.objs.size + 1) = some (excO C hp.objs.size) := by heap_get
  have hnx : K.lookup (hp.objs.size + 1) = none := by
    cases e : K.lookup (hp.objs.size + 1) with
    | none => rfl
    | some o => exact absurd (Nat.lt_of_succ_lt (Heap.lt_size (X _ _ e))) (Nat.lt_irrefl _)
  refine call_cls ok.new (ok.ab.of (show excTail p.tail (.ref C :: bm) = true from hbm)) (X _ _ hC) (looks_findIn X T.iC) (fun self => bind_fn X self T.tC) (show 1 ≤ sizeLine by decide) ?_
  refine init_limit (s := ⟨(hp.push (kdv_tup [v])).push (excO C hp.objs.size), g, dr, tk, os⟩) ok T (X.keeps k) (hlim.keeps k) (hG.keeps k) (hB.keeps k) hsu here hnx hroom za zb (hfm.mono k) fun h' tk' dx t1 M => ⟨rfl, ?_⟩
  have z : hp.objs.size + 1 + 1 ≤ dx := by
    have q := M.dbig
    first
      | exact q
      | simpa only [Heap.size_push] using q
  exact fin h' tk' (hp.objs.size + 1) dx ⟨fun b o e => M.keep b o (Nat.ne_of_lt (Nat.lt_succ_of_lt (Heap.lt_size e))) (k b o e), Nat.le_succ _, ⟨_, _, M.obj, rfl, rfl, rfl, rfl⟩, Nat.le_trans (Nat.le_trans (Nat.le_succ _) (Nat.le_succ _)) z, M.dne, M.ns⟩
/-- the __init__ of such a class, whose field is value -/
theorem init_value {p : Bs} (ok : BsOk p) (T : TxB prog K mg c q "value" a b C fI p iB1) {x t0 : Addr} {v : Value} (X : K.In s.heap) (hlim : s.heap.NoLimit) (hG : s.heap.Ns mainGlobals mg) (hB : s.heap.Ns builtinsNs mb) (hsu : mb "super" = some (.type "super"))
    (hx : s.heap.get? x = some (excO C t0)) (hnx : K.lookup x = none) (hroom : A.depth < recursionLimit) (za : a.length ≤ 100) (zb : b.length ≤ 100)
    (hfm : Fmts prog w A s.heap v)
    (hq : ∀ h' tk dx t1, PeX.InitEnd "value" s.heap h' x C dx t1 v → R (.ok (.ret .none)) { s with heap := h', toks := tk }) :
    codeAny (model prog w) A (.call (.ref fI) ⟨[.ref x, v], []⟩) R s := by
  obtain ⟨oc, od, doc, pm, an, cda, ct, osl, ps, cc, cl, cld, csl, ccl, cdd, vs, ccs, file, tf, ho, hcd, hcell, hcode, hvs, hfile, hpos⟩ := T.fn
  obtain ⟨nm, qn, N, bs, bm, sn, sub, ab, col, dd, k0, k1, k2, k3, k5, hC, hbm⟩ := T.cls
  have hcl : clsIn K C = some { name := nm, bases := bs, mro := .ref C :: bm, ns := N, qualname := qn, hasDict := true, slotNames := sn, subclasses := sub, abstract := ab, collection := col, hasDel := false } := by unfold clsIn; rw [hC] <;> rfl
  have hsup := T.sup
  unfold ks_superIn at hsup
  rw [hcl] at hsup
  obtain ⟨hp, g, dr, tk, os⟩ := s
  refine ks_codeAny_call_defAt (fd := ksFn "__init__" q (PeX.iA "value" ps) (iB1 "value" a b ps) (PeX.iS "value") .none .none doc pm an (.ref cda) ct cc) (body := iB1 "value" a b ps) (binds := [("self", .ref x), ("value", v)]) hroom (X _ _ ho) rfl hlim (codeRec_of X hcd) rfl
    (BindsTo.of_eq (by first | rfl | with_unfolding_all rfl)) (show ∀ x ∈ (PeX.iS "value").names, x.2 ≠ .cell by decide) (fun y hy => by
      rcases List.mem_cons.mp hy with rfl | hy
      · rfl
      · rcases List.mem_cons.mp hy with rfl | hy
        · rfl
        · exact nomatch hy) (fun h₁ hns k => ?_)
  have X₁ : K.In h₁ := X.keeps k
  have hx₁ := k _ _ hx
  have hC₁ := X₁ _ _ hC
  refine ks_wpAt_execs_cons (ks_wpAt_Expr_any (ks_wpAt_MethodCall ?_ (PeX.call_tree hpos rfl)))
  refine ks_wpAt_super_base rfl rfl rfl rfl (X₁ _ _ ho) rfl rfl rfl (X₁ _ _ hcode) rfl hvs hfile T.top ?_
  refine ks_loadName_global rfl rfl (loadGlobal_builtin (hG.keeps k) T.nsup (hB.keeps k) hsu ⟨rfl, ?_⟩)
  refine wpAny_loadName_free rfl rfl rfl ⟨_, X₁ _ _ hcell, rfl⟩ (wpAny_loadName_local rfl rfl hns rfl (ks_wpAny_isType_cls hC₁ rfl ⟨rfl, ?_⟩))
  refine ks_wpAny_call_super hC₁ rfl hx₁ rfl (fun c e => nomatch e) (looks_mroIn X₁ T.msub) (fun h₂ e₂ k₂ => ?_)
  have X₂ : K.In h₂ := X₁.keeps k₂
  have hx₂ := k₂ _ _ hx₁
  have I₂ : InstAt h₂ x (excO C t0) C none := ⟨hx₂, rfl, rfl, trivial⟩
  refine kxs_getMethod ok.init.kx e₂ (looks_opaque X₂ T.op) (l₀ := .ref C :: bm) (fun A Q E s k q => wpAny_bind ((looks_clsIn X₂ hcl) A _ E s k (wpAny_pure q))) rfl X₂ hsup (I₂.type.andThen (looks_subIn X₂ T.veC)) (ks_ne X₂ I₂ hcl) rfl ?_
  have k₃ : ∀ b o, h₂.get? b = some o → (h₂.push (kxs_mw p.i x)).get? b = some o := fun b o e => Heap.get?_push_of_some _ e
  have e₃ : (h₂.push (kxs_mw p.i x)).get? h₂.objs.size = some (kxs_mw p.i x) := Heap.get?_push_at rfl rfl
  have k₃₃ : ∀ b o, h₁.get? b = some o → (h₂.push (kxs_mw p.i x)).get? b = some o := fun b o e => k₃ b o (k₂ b o e)
  have hns₃ := hns.keeps k₃₃
  refine kxs_callWith (i := p.i) (x := x) rfl (evalArgs_plain (spliced_cons (wpAny_JoinedStr (pos := ps.j) ?_)))
  refine wpAny_FormattedValue_plain (wpAny_Name (wpAny_loadName_local rfl rfl hns₃ rfl ?_) (by decide))
  refine hfm _ _ _ _ (fun b o e => k₃₃ b o (k b o e)) fun y t' k' h₆ hy k₆ => ⟨y, t', rfl, ?_, ?_⟩
  · rw [strLen_append]
    exact Nat.le_trans (show _ ≤ 100000 by show 0 + y.length ≤ 100000; omega) (by decide)
  have all : Str.empty.length + y.length + b.length ≤ sizeLine := Nat.le_trans (show _ ≤ 100200 by show 0 + y.length + b.length ≤ 100200; omega) (by decide)
  refine Constant_str ⟨_, _, rfl, by rw [strLen_append, strLen_append]; exact all, by rw [strLen_append, strLen_append]; exact all, spliced_nil ⟨k₆ _ _ e₃, ?_⟩⟩
  have X₆ : K.In h₆ := (X₂.keeps k₃).keeps k₆
  refine call_wrapB ok.init (k₆ _ _ e₃) (X₆ _ _ hC) (k₆ _ _ (k₃ _ _ hx₂)) (show 1 ≤ sizeLine by decide) fun h₄ k₄ hx₄ => ?_
  have X₄ : K.In h₄ := PeX.kept_but X₆ hnx k₄
  have xL : hp.objs.size ≠ x := Nat.ne_of_gt (Heap.lt_size hx)
  have hns₄ : h₄.Ns hp.objs.size (fun x_1 => List.lookup x_1 [(("self" : Str), Value.ref x), (("value" : Str), v)].reverse) := (hns₃.keeps k₆).at fun o e => k₄ _ o xL e
  change wpAt _ _ _ (execs _ _) _ _ _
  refine ks_wpAt_execs_cons (ks_wpAt_Assign_Attr (wpAt_of_wpAny (wpAny_Name (wpAny_loadName_local rfl rfl hns₄ rfl (wpAny_Name (wpAny_loadName_local rfl rfl hns₄ rfl ?_) (by decide))) (by decide))))
  refine set_plain X₄ (ox := excObj C h₆.objs.size none .none) (od := none) ⟨hx₄, rfl, rfl, trivial⟩ T.sa ?_
  refine osaB X₄ hx₄ hcl (ok.ab.of (show excTail p.tail (.ref C :: bm) = true from hbm)) rfl T.noN (fun h₅ tk₅ dx k₅ dn dne hx₅ hn₅ => ?_)
  change wpAt _ _ _ (execs _ _) _ _ _
  refine wpAt_of_wpAny (wpAny_execs_nil (hq h₅ tk₅ dx _ ⟨fun b o hb e => k₅ b o hb (k₄ b o hb (k₆ _ _ (k₃₃ b o (k b o e)))), hx₅, ?_, dne, hn₅⟩))
  have z : hp.objs.size < h₄.objs.size := hns₄.lt
  exact Nat.le_of_lt (Nat.lt_of_lt_of_le z dn)
theorem Kp.of_value {p : Bs} (ok : BsOk p) (T : TxB prog K mg c q "value" a b C fI p iB1) (za : a.length ≤ 100) (zb : b.length ≤ 100) : Kp prog w K mg c C "value" := by
  refine ⟨T.gC, T.kC, T.exC, T.tyC, T.ga, T.gg, T.hdC, T.noN, ?_⟩
  intro A R s v mb X hlim hG hB hsu hroom hfm fin
  obtain ⟨nm, qn, N, bs, bm, sn, sub, ab, col, dd, k0, k1, k2, k3, k5, hC, hbm⟩ := T.cls
  obtain ⟨hp, g, dr, tk, os⟩ := s
  have k : ∀ b o, hp.get? b = some o → ((hp.push (kdv_tup [v])).push (excO C hp.objs.size)).get? b = some o := fun b o e => Heap.get?_push_of_some _ (Heap.get?_push_of_some _ e)
  have here : ((hp.push (kdv_tup [v])).push (excO C hp.objs.size)).get? (hp.objs.size + 1) = some (excO C hp.objs.size) := by heap_get
  have hnx : K.lookup (hp.objs.size + 1) = none := by
    cases e : K.lookup (hp.objs.size + 1) with
    | none => rfl
    | some o => exact absurd (Nat.lt_of_succ_lt (Heap.lt_size (X _ _ e))) (Nat.lt_irrefl _)
  refine call_cls ok.new (ok.ab.of (show excTail p.tail (.ref C :: bm) = true from hbm)) (X _ _ hC) (looks_findIn X T.iC) (fun self => bind_fn X self T.tC) (show 1 ≤ sizeLine by decide) ?_
  refine init_value (s := ⟨(hp.push (kdv_tup [v])).push (excO C hp.objs.size), g, dr, tk, os⟩) ok T (X.keeps k) (hlim.keeps k) (hG.keeps k) (hB.keeps k) hsu here hnx hroom za zb (hfm.mono k) fun h' tk' dx t1 M => ⟨rfl, ?_⟩
  have z : hp.objs.size + 1 + 1 ≤ dx := by
    have q := M.dbig
    first
      | exact q
      | simpa only [Heap.size_push] using q
  exact fin h' tk' (hp.objs.size + 1) dx ⟨fun b o e => M.keep b o (Nat.ne_of_lt (Nat.lt_succ_of_lt (Heap.lt_size e))) (k b o e), Nat.le_succ _, ⟨_, _, M.obj, rfl, rfl, rfl, rfl⟩, Nat.le_trans (Nat.le_trans (Nat.le_succ _) (Nat.le_succ _)) z, M.dne, M.ns⟩
end
end PeB
end PySem

set_option pp.maxSteps 400
/-! values with their data, dicts of one int among them: repr, and in the text of an error -/
namespace Lv
open PySem PySem.Spec PyProof.Rows L2
/-- a value and its data -/
inductive Vd (K : PySem.W.Frag) (H : Hp) : V → PyData → Prop
  | flat {v : V} {d : PyData} : Dp K H v d → d.hasDict = false → Vd K H v d
  | emp {a : Addr} : H a = some (.dK []) → Vd K H (.ref a) (.dict [])
  | one {a : Addr} {k : Str} {i : Int} : H a = some (.dK [(.inr k, .int i)]) → Vd K H (.ref a) (.dict [(.str k, .int i)])
  | temp {a b : Addr} : SqT K H a [.ref b] → H b = some (.dK []) → Vd K H (.ref a) (.tuple [.dict []])
/-- data that is small enough to be shown -/
structure Sm (d : PyData) : Prop where
  sh : d.showable = true
  dp : d.depth ≤ 60
  ln : d.shown.length ≤ 90000
  tx : ∀ z, d = .str z → z.length ≤ 90000
def encK : Key → PyData
  | .inl i => .int i
  | .inr x => .str x
theorem encK_ok {P : Program} {w : World} {h : Heap} (k : Key) (key : Value) (e : (mixKind P w).is k key = true) : Reads h key (encK k) [] := by
  rcases keyIs_shape e with ⟨i, t, rfl, rfl⟩ | ⟨x, t, rfl, rfl⟩
  · exact .int i t
  · exact .str x t
section
variable {X : Cx} {pins : List (Addr × Obj)} {σ : L2.St} {H : Hp} {s : Shared}
theorem Vd.reads {v : V} {d : PyData} {u : Value} (I : L2.Inv X pins σ H s) (h : Vd X.K H v d) (r : RelV v u) : ∃ as, Reads s.heap u d as ∧ (d.hasDict = true → sysModules ∉ as) := by
  cases h with
  | flat hd hn =>
    obtain ⟨as, rd⟩ := Dp.reads I d v u hd r
    exact ⟨as, rd, PyData.noDict_hsm hn⟩
  | @emp a ha =>
    cases r
    obtain ⟨_, ns, vs, kv, hd⟩ := (show ObjOk X.prog X.w H s.heap a (.dK []) from I.hok a _ ha)
    cases kv
    refine ⟨_, PyProof.V.reads_dictOf (enc := encK) encK_ok hd .nil, fun _ m => ?_⟩
    rw [List.mem_singleton.mp m] at ns
    simp at ns
  | @one a k i ha =>
    cases r
    obtain ⟨_, ns, vs, kv, hd⟩ := (show ObjOk X.prog X.w H s.heap a (.dK _) from I.hok a _ ha)
    obtain _ | ⟨e, kv⟩ := kv
    cases kv
    rename_i q
    obtain ⟨k', v'⟩ := q
    obtain ⟨rfl, t, rfl⟩ := e
    refine ⟨_, PyProof.V.reads_dictOf (enc := encK) encK_ok hd (.cons (.int i t) .nil), fun _ m => ?_⟩
    have m' : sysModules = a := by simpa using m
    rw [m'] at ns
    simp at ns
  | @temp a b ha hb =>
    cases r
    obtain ⟨_, ns, vs, kv, hd⟩ := (show ObjOk X.prog X.w H s.heap b (.dK []) from I.hok b _ hb)
    cases kv
    obtain ⟨its, rv, ⟨o, ho, hc, n, hdt⟩, _⟩ := I.tuple ha
    obtain ⟨u, rfl, ru⟩ := rv.one
    cases ru
    have rd := PyProof.V.reads_dictOf (enc := encK) encK_ok hd .nil
    refine ⟨_, .tuple ho hc hdt (.cons rd .nil), fun _ m => ?_⟩
    have m' : sysModules = b := by simpa using m
    rw [m'] at ns
    simp at ns
/-- repr of a value by its data -/
def rRpV (K : PySem.W.Frag) : List V → Hp → VK → Prop := fun xs H Q => ∃ (v : V) (d : PyData), xs = [v] ∧ Vd K H v d ∧ Sm d ∧ Q (.str d.shown) H
theorem fmts_of {v : V} {d : PyData} {u : Value} {A : Around} (I : L2.Inv X pins σ H s) (hv : Vd X.K H v d) (sm : Sm d) (r : RelV v u) (hgd : A.guards = some []) (hu : A.units + 70 < cLine) : PySem.PeB.Fmts X.prog X.w A s.heap u := by
  obtain ⟨as, rd, ns⟩ := hv.reads I r
  intro env s' Q E keep fin
  have dp := sm.dp
  have ln := sm.ln
  have big : ∀ a, u = .ref a → wpAny (model X.prog X.w) (A.deeper env) (formatField u Str.empty) Q E s' := by
    rintro a rfl
    exact formatField_of_reads rd sm.sh ns (show (A.deeper env).guards = some [] from hgd) (show A.units + 3 + (d.depth + 2) < cLine by omega) keep (fun h' t tk k => fin d.shown t tk h' (by omega) k) (sz100 (by omega))
  cases rd with
  | none => exact wpAny_formatField_none (fin _ _ _ s'.heap (by decide) fun _ _ e => e)
  | bool b => exact wpAny_formatField_bool (fin _ _ _ s'.heap (by cases b <;> decide) fun _ _ e => e)
  | int i t => exact wpAny_formatField_int (of_decide_eq_true sm.sh) (fin _ _ _ s'.heap (by have h : (Str.ofString (toString i)).length ≤ 90000 := ln; omega) fun _ _ e => e)
  | str x t =>
    have h := sm.tx x rfl
    exact wpAny_formatField_str (fin x t s'.toks s'.heap (by omega) fun _ _ e => e) (fin x _ _ s'.heap (by omega) fun _ _ e => e) (sz100 (by omega))
  | list => exact big _ rfl
  | tuple => exact big _ rfl
  | dict => exact big _ rfl
end
end Lv

/-! errors as values: made, asked for their fields and their classes -/
namespace PySem.W
open PySem PySem.Spec PySem.Calls PyProof.Rows
section
variable {prog : Program} {w : World} {A : Around} {E : Value → Shared → Prop} {s : Shared} {K : Frag} {x D : Addr} {ox : Obj} {od : Option Obj}
end
end PySem.W
namespace Lv
open PySem PySem.Spec PyProof.Rows L2
/-- an error of the class C, its dict at d -/
def EvO (C d a : Addr) : HO := .ext fun h => ∃ (oe : Obj) (vs : Array Value), h.get? a = some oe ∧ Zc (.ref C) (some d) oe ∧ oe.data = .fields vs
theorem evO_ok {P : Program} {w : World} {H : Hp} {h : Heap} {a C d : Addr} {oe : Obj} {vs : Array Value} (e : h.get? a = some oe) (z : Zc (.ref C) (some d) oe) (dd : oe.data = .fields vs) : ObjOk P w H h a (EvO C d a) :=
  ⟨⟨oe, vs, e, z, dd⟩, ⟨oe, e⟩, fun _ _ ⟨o, v, q, r⟩ k => ⟨o, v, k o q, r⟩⟩
/-- an error, held: of the class C -/
def IsE (H : Hp) (a C : Addr) : Prop := H a = some (ExO (.ref C) a) ∨ ∃ (d : Addr) (fs : List (Str × V)), H a = some (EvO C d a) ∧ H d = some (.xd fs)
section
variable {X : Cx} {pins : List (Addr × Obj)} {σ : L2.St} {H : Hp} {s : Shared}
/-- isinstance(e, c) -/
def rIsV (K : PySem.W.Frag) : List V → Hp → VK → Prop := fun xs H Q => ∃ (a D : Addr) (c : V) (cv : Value) (b : Bool), xs = [.ref a, c] ∧ IsE H a D ∧ ExcC K D ∧ (∀ u, RelV c u → u = cv) ∧ PySem.W.kitOne K (.ref D) cv = some b ∧ Q (.bl b) H
/-- what is asked of a class for its objects' field f to be read -/
structure Rdb (K : PySem.W.Frag) (C : Addr) (f : Str) : Prop where
  xf : XfC K C
  no : PySem.W.findIn K (.ref C) f = some none
/-- e.f -/
def tFl (K : PySem.W.Frag) (f : Str) (te : TE) : TE := fun σ H Q => te σ H fun x H1 => ∃ (a C d : Addr) (fs : List (Str × V)) (v : V), x = .ref a ∧ Rdb K C f ∧ H1 a = some (EvO C d a) ∧ H1 d = some (.xd fs) ∧ fs.lookup f = some v ∧ Q v H1
/-- a made error, its dict tracked, itself not -/
theorem laid_own {f : Str} {hp h' : Heap} {g : Array GenState} {dr : Drawn} {tk tk' : Nat} {os : OsState} {e C d : Addr} {v : V} {v' : Value} (I : L2.Inv X pins σ H ⟨hp, g, dr, tk, os⟩) (M : PySem.PeX.OwnMade f hp h' e C d v') (r : RelV v v') :
    ∃ G : Heap, L2.Inv X pins σ (upd H d (.xd [(f, v)])) ⟨G, g, dr, tk', os⟩ ∧ (∀ b o, G.get? b = some o → h'.get? b = some o) ∧ G.get? e = none ∧ H e = none ∧ H d = none := by
  obtain ⟨G, g1, g2⟩ := restrict h' fun b => decide (b ≠ e)
  have gk : ∀ b, b ≠ e → G.get? b = h'.get? b := fun b hb => g1 b (decide_eq_true hb)
  have ge : G.get? e = none := g2 e (by simp)
  have ob : ObjOk X.prog X.w (upd H d (.xd [(f, v)])) G d (.xd [(f, v)]) := ⟨_, M.ns.at (fun o q => (gk d M.dne).trans q), fun y => relO_one r y⟩
  refine ⟨G, I.laid (t' := tk') (fun b o q => (gk b (Nat.ne_of_lt (Nat.lt_of_lt_of_le (Heap.lt_size q) M.new))).trans (M.keep b o q)) M.dbig ob, fun b o q => ?_, ge, I.hok.fresh M.new, I.hok.fresh M.dbig⟩
  by_cases hb : b = e
  · rw [hb, ge] at q
    cases q
  · exact (gk b hb).symm.trans q
/-- C(x), as a value -/
def tKeep (K : PySem.W.Frag) (C : Addr) (f : Str) (ta : TA) : TE := fun σ H Q => ta σ H fun vs H1 => ∃ (v : V) (d : PyData), vs = [v] ∧ Vd K H1 v d ∧ Sm d ∧ ∀ a dd, H1 a = none → H1 dd = none → a ≠ dd → Q (.ref a) (upd (upd H1 dd (.xd [(f, v)])) a (EvO C dd a))
/-- C(x), to be raised -/
def tKeepX (K : PySem.W.Frag) (C : Addr) (f : Str) (ta : TA) : L2.St → Hp → XK → Prop := fun σ H Q => ta σ H fun vs H1 => ∃ (v : V) (d : PyData), vs = [v] ∧ Vd K H1 v d ∧ Sm d ∧ ∀ dd, H1 dd = none → Q (.ref C) (some dd) (upd H1 dd (.xd [(f, v)]))
theorem under_type {A : Around} {C : Addr} {us : List Value} : (A.under (.builtin "type.__call__" ⟨.ref C :: us, []⟩)).guards = A.guards ∧ (A.under (.builtin "type.__call__" ⟨.ref C :: us, []⟩)).units ≤ A.units + 4 := by
  constructor
  · first
      | rfl
      | simp [Around.under, Code.weight, Code.isCreation, Code.isGuard, Code.isCaller, Code.frames, Code.isFrame, guardIds]
  · show A.units + Code.cUnits (.builtin "type.__call__" ⟨.ref C :: us, []⟩) ≤ _
    have e : Code.cUnits (.builtin "type.__call__" ⟨.ref C :: us, []⟩) ≤ 4 := by
      first
        | exact (show 1 ≤ 4 by decide)
        | exact (show 2 ≤ 4 by decide)
        | exact (show 0 ≤ 4 by decide)
        | simp [Code.cUnits]
    omega
/-- a def by its body, where no guarded call runs and errors may leave -/
theorem okGX {P : Program} {w : World} {K : PySem.W.Frag} {mg : Str → Option Value} {base : Heap} {CX : CXT} {x qual : Str} {st : Stmt} {f : Addr} {fd : FuncData} {N ps : List Str} {k : Nat} {sp : Sp}
    (F : Fun K x qual st f fd) (S : FnScope N ps (defScope st)) (len : ∀ vs H Q E, sp vs H Q E → vs.length = ps.length)
    (hbody : ∀ (cdv : Value) (A : Around) (outer : List Env) (s : Shared) (H : Hp) (vs : List V) (Q : VK) (E : XK),
      (A.deeper (envOfC qual (defScope st) s.heap.objs.size f cdv)).guards = some [] → Room k (A.deeper (envOfC qual (defScope st) s.heap.objs.size f cdv)) → sp vs H Q E →
      ∃ t, PSs (cxOf CX P w K mg base N qual (defScope st) f cdv A outer s H E) (defBody st) t ∧ t { nx := fun _ H' => Q .non H', rt := Q } (L2.start N vs) H) :
    FnG P w K mg base CX (k + 1) f fd ps sp := by
  obtain ⟨oc, od, kV, doc, pm, an, cdv, ct, osl, rfl, lk, hcd⟩ := F.ex
  refine ⟨len, fun A hgd outer s H args us vs Q E hr e0 hb hv hsp => ?_⟩
  have kept := fun b o (z : base.get? b = some o) => (e0.bs b o z).1
  have hK : K.In s.heap := e0.mod.kin.keeps kept
  refine codeAny_call_function hr.depth (hK _ _ lk) rfl S.co S.gen rfl (PySem.W.codeRec_of hK hcd) (hb _ _ _ _ ?_)
  have kinds : ∀ y ∈ ps.zip us, (defScope st).names.lookup y.1 = some .local ∨ ((defScope st).names.lookup y.1 = some .cell ∧ ((cellsFrom (s.heap.objs.size + 1) (defScope st).names []).lookup y.1).isSome = true) := by
    rintro ⟨n, v⟩ hy
    rcases S.par n (List.of_mem_zip hy).1 with z | z
    · exact .inl z
    · exact .inr ⟨z, PySem.W.cellsFrom_some _ _ _ (.inl z)⟩
  refine wpAny_newFunctionEnv_cells S.kind kinds ?_
  rintro env rfl s1 x
  refine ⟨(e0.mod.nolimit.keeps kept).keeps x.toInCall.keep, codeAny_func ?_⟩
  obtain ⟨t, ht, hq⟩ := hbody cdv A outer s H vs Q E hgd (hr.deeper _) hsp
  refine wpAny_mono (ht.run [] s1 (L2.start N vs) H _ (inv_start S hr.hd e0 (len _ _ _ _ hsp) hv x) hq) ?_ (fun e s' z => z)
  rintro (_ | _ | _ | u) s' hs
  · obtain ⟨σ', H', J, q⟩ := hs
    exact ⟨V.non, H', J.os, J.bare, J.base, J.hok, (rfl : RelV V.non Value.none), q⟩
  · exact False.elim hs.choose_spec.choose_spec.2
  · exact False.elim hs.choose_spec.choose_spec.2
  · obtain ⟨v, σ', H', J, rv, q⟩ := hs
    exact ⟨v, H', J.os, J.bare, J.base, J.hok, rv, q⟩
section
variable {c f : Str} {C : Addr} {x : Expr} {ta : TA} {p pos : Pos} {k : Nat}
theorem run_keep {Q : Value → Shared → Prop} (T : PySem.PeB.Kp X.prog X.w X.K X.mg c C f) (hgd : X.A.guards = some []) (hr : Room k X.A) {v : V} {d : PyData} {u : Value} (I : L2.Inv X pins σ H s) (hv : Vd X.K H v d) (sm : Sm d) (r : RelV v u)
    (fin : ∀ h' tk e d, PySem.PeX.OwnMade f s.heap h' e C d u → Q (.ref e) { s with heap := h', toks := tk }) : wpAny (model X.prog X.w) X.A (call (.ref C) [u]) Q X.xe s := by
  obtain ⟨mb, hB0, hB1⟩ := I.mod.blt
  have un := hr.un
  have hu := (under_type (A := X.A) (C := C) (us := [u])).2
  refine wpAny_call (T.made _ _ s u mb I.kIn I.nolimit (I.mod.glob.keeps I.bk) (hB0.keeps I.bk) ((hB1 _ (by decide)).trans (by decide +kernel)) (by have := hr.dp; omega) (fmts_of I hv sm r (under_type.1.trans hgd) (by omega)) fin)
theorem pmk_keep (T : PySem.PeB.Kp X.prog X.w X.K X.mg c C f) (hgd : X.A.guards = some []) (hr : Room k X.A) (ha : PA X [x] ta) (hg : Gl X c) (hdb : (c == ("__debug__" : Str)) = false)
    (he : starEach (x :: []) X.env = (false, eval x X.env) :: starEach [] X.env := by rfl) (hpl : (backTo pos (starEach [] X.env)).any (·.1) = false := by rfl) : PMk X (.Call (.Name c p) [x] [] pos) (tKeepX X.K C f ta) := by
  intro pins s σ H Q I h
  refine wpAny_Call_Name_kw (ld_glob I hg T.gC ?_ hdb)
  refine PySem.W.callWith_K (h₀ := X.base) I.ok.mod.kin T.kC (thn (ha.run pos pins s σ H _ I h) fun us s1 hh => ?_) he hpl
  obtain ⟨vs, H1, I1, r1, v, d, rfl, hv, sm, q⟩ := hh
  obtain _ | ⟨rv, _ | _⟩ := r1
  refine ⟨I1.kIn, run_keep T hgd hr I1 hv sm rv fun h' tk e dd M => ?_⟩
  obtain ⟨hp, g, dr, t0, os⟩ := s1
  obtain ⟨G, J, gk, ge, ne, nd⟩ := laid_own (tk' := tk) I1 M rv
  obtain ⟨oe, fv, hoe, hc, hd, hdat, h1⟩ := M.obj
  refine ⟨e, oe, fv, ⟨G, g, dr, tk, os⟩, _, .ref C, some dd, rfl, J, gk, ge, hoe, ⟨hc, hd⟩, hdat, h1, ?_, rfl, I1.bare, raises_own T.exC T.tyC, q dd nd⟩
  rw [upd_ne (Ne.symm M.dne)]
  exact ne
end
end
end Lv

/-! a caught error handed on as a value; clauses with one class or two -/
namespace Lv
open PySem PySem.Spec PyProof.Rows L2
/-- a def's promise wherever it is called, also while an error is handled -/
structure FnC (P : Program) (w : World) (K : PySem.W.Frag) (mg : Str → Option Value) (base : Heap) (CX : CXT) (k : Nat) (f : Addr) (fd : FuncData) (ps : List Str) (sp : Sp) : Prop where
  len : ∀ vs H Q E, sp vs H Q E → vs.length = ps.length
  run : ∀ (A : Around) (outer : List Env) (s : Shared) (H : Hp) (args : Args) (us : List Value) (vs : List V) (Q : VK) (E : XK), L2H.RoomH k A → Env0 P w K mg base A outer s H →
    BindsTo s fd args (ps.zip us) → Vals vs us → sp vs H Q E → codeAny (model P w) A (.call (.ref f) args) (CR CX outer P w H s Q E) s
section
variable {P : Program} {w : World} {K : PySem.W.Frag} {mg : Str → Option Value} {base : Heap} {CX : CXT}
end
section
variable {X : Cx} {CX : CXT} {k : Nat} {f : Addr} {fd : FuncData} {ps : List Str} {sp : Sp} {dvs : List V} {ds : List Value} {E : XK} {x : Str} {p pos : Pos} {e : Expr} {es : List Expr} {t : TA}
end
section
variable {X : Cx} {pins : List (Addr × Obj)} {σ : L2.St} {H : Hp} {a C d : Addr} {s : Shared}
/-- the error that was caught, as a value of the suite -/
theorem Got.held (g : Got X pins σ H a (.ref C) (some d) s) (hs : X.stack = X.env :: X.outer) (hf : X.env.frame = some X.env.locals) (hx : X.ex = []) : L2.Inv (X.suite a (X.pn ++ pins)) [] σ (upd H a (EvO C d a)) s := by
  obtain ⟨B, t, J, nb, up, fl, os, ag⟩ := id g.ex
  obtain ⟨oe, vs, ge, ze, de⟩ := fl.there
  have out : a ∉ (X.env :: X.outer).filterMap (·.frame) := by
    intro m
    obtain ⟨_, o2, e2, no⟩ := fl.2.2.1.mem m
    cases ge.symm.trans e2
    exact no vs de
  have nt : t.heap.get? a = none := by
    cases e : t.heap.get? a with
    | none => rfl
    | some o =>
      have z := nb a o e (by rw [hs]; exact out)
      rw [fl.2.1] at z
      cases z
  have I := g.inv
  have na := g.na
  have n0 : X.s_0.heap.get? a = none := by
    cases e : X.s_0.heap.get? a with
    | none => rfl
    | some o =>
      obtain ⟨o', z⟩ := J.base.there a o e (by rw [hx]; exact List.not_mem_nil)
      rw [nt] at z
      cases z
  have ne0 : ∀ b o, X.s_0.heap.get? b = some o → b ≠ a := by
    rintro b o e rfl
    rw [n0] at e
    cases e
  have neH : ∀ {b : Addr} {o : HO}, H b = some o → b ≠ a := fun e => ne_of_none e na
  refine ⟨I.ok.suite _ _, I.os, I.bare, ⟨I.base.keep, I.base.slot, fun b o e n hb => ?_, I.base.there, fun b xs e => ?_, fun b o u e => ?_, fun b ps e => ?_⟩, I.loc, I.cell, ?_, fun y c e => ?_, fun p hp => ?_, fun b u e => ?_, I.len⟩
  · rw [upd_ne (ne0 b o e)]
    exact I.base.free b o e n hb
  · have q := I.base.tups b xs e
    rw [upd_ne (neH q)]
    exact q
  · have q := I.base.frzs b o u e
    rw [upd_ne (neH q)]
    exact q
  · obtain ⟨m, q⟩ := I.base.tbls b ps e
    exact ⟨m, by rw [upd_ne (neH q)]; exact q⟩
  · rw [upd_ne]
    · exact I.free
    · intro z
      exact out (List.mem_filterMap.mpr ⟨X.env, .head _, by rw [hf]; exact congrArg some z⟩)
  · rw [upd_ne]
    · exact I.freeC y c e
    · rintro rfl
      obtain ⟨v, o, ho, hd⟩ := I.cell y c e
      rw [ge] at ho
      cases ho
      rw [de] at hd
      cases hd
  · have hp' : p ∈ X.pn ++ pins := by rw [List.append_nil] at hp; exact hp
    obtain ⟨e1, e2, e3, e4, e5⟩ := I.pin p hp'
    refine ⟨e1, ?_, e3, e4, e5⟩
    rw [upd_ne]
    · exact e2
    · intro z
      have q := (J.pin p hp').1
      rw [z, nt] at q
      cases q
  · by_cases hb : b = a
    · subst hb
      rw [upd_same] at e
      cases e
      exact evO_ok ge ze de
    · rw [upd_ne hb] at e
      exact (I.hok b u e).stay (fun c v _ q => q) (fun c q => by rw [upd_ne (neH q)]; exact q) fun c xs q => by rw [upd_ne (neH q)]; exact q
theorem Got.more {cls : Value} {d : Option Addr} {s' : Shared} (g : Got X pins σ H a cls d s) (k : ∀ b o, s.heap.get? b = some o → s'.heap.get? b = some o) (os : s'.os = s.os) (ag : AllBare s'.gens) : Got X pins σ H a cls d s' := by
  obtain ⟨B, t, J, nb, up, fl, os0, ag0⟩ := g.ex
  refine ⟨⟨B, t, J, nb, fun b o e hd => ?_, ⟨fun b o e => k _ _ (fl.1 b o e), fl.2.1, fl.2.2.1.of_keeps fun b o e _ => ⟨o, k _ _ e, rfl⟩, ?_⟩, os.trans os0, ag⟩, g.na⟩
  · obtain ⟨sl, q⟩ := up b o e hd
    exact ⟨sl, k _ _ q⟩
  · obtain ⟨oe, vs, T, oT, ts, e1, e2, e3, e4, e5, e6, e7, e8⟩ := fl.2.2.2
    exact ⟨oe, vs, T, oT, ts, k _ _ e1, e2, e3, e4, e5, e6, k _ _ e7, e8⟩
end
section
variable {X : Cx} {pins : List (Addr × Obj)} {σ : L2.St} {H : Hp} {a : Addr} {cls : Value} {d : Option Addr} {s : Shared}
theorem Got.name {x : Str} {c : Value} {np : Pos} {Q : Value → Shared → Prop} {E : Value → Shared → Prop} (g : Got X pins σ H a cls d s) (hf : X.env.frame = some X.env.locals) (hc : Names X x c) (h : Q c s) :
    wpAny (model X.prog X.w) (X.A.mark (some (.ref a))) (eval (.Name x np) X.env) Q E s := by
  obtain ⟨oe, ze, _, ge, S⟩ := g.suite hf
  rcases hc with ⟨hg, hd, hm | ⟨hm, hv, hn⟩⟩
  · exact ld_glob S hg hm h hd
  · exact ld_blt S hg hm hv h hn hd
end
abbrev ClE := Ends → Addr → Addr → Addr → L2.St → Hp → Prop
/-- a clause 'except c as n' or 'except (c1, c2) as n', the error a value of its suite -/
inductive ClauseE (X : Cx) : ExceptHandler → List Value → ClE → Prop
  | one {x n : Str} {i : Nat} {c : Value} {np pos' : Pos} {b₀ : Stmt} {suite : List Stmt} {ts : Addr → TS} (hN : X.N.Nodup) (hi : X.N[i]? = some n) (hl : X.env.kindOf n = some .local) (hc : Names X x c)
      (hsu : ∀ (a : Addr) (pn : List (Addr × Obj)), PSs (X.suite a pn) (b₀ :: suite) (ts a)) :
      ClauseE X (.ExceptHandler (some (.Name x np)) (some n) (b₀ :: suite) pos') [c] (fun D a C d σ H => ts a (gone i D) (σ.set i (some (.ref a))) (upd H a (EvO C d a)))
  | two {x1 x2 n : Str} {i : Nat} {c1 c2 : Value} {p1 p2 tp pos' : Pos} {tk} {b₀ : Stmt} {suite : List Stmt} {ts : Addr → TS} (hN : X.N.Nodup) (hi : X.N[i]? = some n) (hl : X.env.kindOf n = some .local) (h1 : Names X x1 c1) (h2 : Names X x2 c2)
      (hsu : ∀ (a : Addr) (pn : List (Addr × Obj)), PSs (X.suite a pn) (b₀ :: suite) (ts a)) :
      ClauseE X (.ExceptHandler (some (.Tuple [.Name x1 p1, .Name x2 p2] tk tp)) (some n) (b₀ :: suite) pos') [c1, c2] (fun D a C d σ H => ts a (gone i D) (σ.set i (some (.ref a))) (upd H a (EvO C d a)))
inductive ClausesE (X : Cx) : List ExceptHandler → List (List Value × ClE) → Prop
  | nil : ClausesE X [] []
  | cons {h : ExceptHandler} {cs : List Value} {f : ClE} {hs : List ExceptHandler} {l : List (List Value × ClE)} : ClauseE X h cs f → ClausesE X hs l → ClausesE X (h :: hs) ((cs, f) :: l)
/-- what the clauses wish of an error -/
def wClE (K : PySem.W.Frag) (D : Ends) : List (List Value × ClE) → WX
  | [] => fun _ _ _ _ => False
  | (cs, f) :: r => fun cls d σ H => (PySem.W.exmAny K cls cs = some true ∧ ∃ C dd, cls = .ref C ∧ d = some dd ∧ ∀ a, H a = none → f D a C dd σ H) ∨ (PySem.W.exmAny K cls cs = some false ∧ wClE K D r cls d σ H)
section
variable {X : Cx} {pins : List (Addr × Obj)} {σ : L2.St} {H : Hp} {a : Addr} {s : Shared}
end
end Lv

/-! two lists of the same flat items -/
namespace Lv
open PySem PySem.Spec PyProof.Rows L2
/-- x != y, two lists with the same flat items -/
def rNeS (K : PySem.W.Frag) : R2 := fun x y H Q => ∃ (a b : Addr) (xs : List V), x = .ref a ∧ y = .ref b ∧ SqL K H a xs ∧ SqL K H b xs ∧ xs.all flatB = true ∧ Q (.bl false) H
end Lv

set_option pp.maxSteps 600
/-! match of a tuple, by cases [a, b, ..] with a guard -/
namespace Lv
open PySem PySem.Spec PyProof.Rows L2
/-- patterns that are names alone -/
inductive Caps : List Pattern → List Str → Prop
  | nil : Caps [] []
  | cons {n : Str} {pos : Pos} {ps : List Pattern} {ns : List Str} : Caps ps ns → Caps (.MatchAs none (some n) pos :: ps) (n :: ns)
theorem Caps.len {ps : List Pattern} {ns : List Str} (c : Caps ps ns) : ps.length = ns.length := by
  induction c with
  | nil => rfl
  | cons _ ih => simp [ih]
/-- the slots of some names set -/
def setAll : List Nat → List V → L2.St → L2.St
  | i :: is, v :: vs, σ => setAll is vs (σ.set i (some v))
  | _, _, σ => σ
/-- the slots of names -/
inductive Slts (X : Cx) : List Str → List Nat → Prop
  | nil : Slts X [] []
  | cons {n : Str} {i : Nat} {ns : List Str} {is : List Nat} (hi : X.N[i]? = some n) (hl : X.env.kindOf n = some .local) (r : Slts X ns is) : Slts X (n :: ns) (i :: is)
section
variable {X : Cx} {pins : List (Addr × Obj)} {H : Hp}
abbrev TCs := List V → Addr → TS
/-- what the cases wish, the subject a tuple -/
structure PCs (X : Cx) (cs : List MatchCase) (t : TCs) : Prop where
  run : ∀ (pins : List (Addr × Obj)) (s : Shared) (σ : L2.St) (H : Hp) (D : Ends) (a : Addr) (xs : List V) (first : Bool), L2.Inv X pins σ H s → SqT X.K H a xs → t xs a D σ H → wpAny (model X.prog X.w) X.A (matchCases cs X.env (.ref a) first) (SP X pins D) X.xe s
def tCsNil : TCs := fun _ _ D σ H => D.nx σ H
/-- case [..] if g: body -/
def tCsCons (K : PySem.W.Frag) (is : List Nat) (tg : TT) (tb : TS) (tr : TCs) : TCs := fun xs a D σ H =>
  if xs.length = is.length then tg (setAll is xs σ) H fun b H1 => if b = true then tb D (setAll is xs σ) H1 else SqT K H1 a xs ∧ tr xs a D (setAll is xs σ) H1 else tr xs a D σ H
/-- match subject: .. -/
def tMatch (K : PySem.W.Frag) (te : TE) (t : TCs) : TS := fun D σ H => te σ H fun x H1 => ∃ (a : Addr) (xs : List V), x = .ref a ∧ SqT K H1 a xs ∧ t xs a D σ H1
end
end Lv
namespace Lv
open PySem PySem.Spec PyProof.Rows L2 PySem.W
section
variable {prog : Program} {w : World} {A : Around} {E : Value → Shared → Prop} {s : Shared}
end
section
variable {X : Cx}
/-- the targets a, .., *c of a tuple -/
def gStar (K : PySem.W.Frag) (i : Nat) (t : TGs) : TG := fun v σ H Q => ∃ (a : Addr) (xs : List V), v = .ref a ∧ SqT K H a xs ∧ i ≤ xs.length ∧ xs.length ≤ 16384 ∧ ∀ p, H p = none → t (xs.take i ++ [.ref p]) σ (upd H p (.lst (xs.drop i))) Q
end
end Lv

/-! instances with defs of their own: str, len, ==, !=; a class in a local name -/
namespace Lv
open PySem PySem.Spec PyProof.Rows L2
section
variable {X : Cx} {CX : CXT} {n k i : Nat} {C g : Addr} {sp : Sp} {E : XK}
/-- str(x) -/
def rStrI (C : Addr) (sp : Sp) (E : XK) : List V → Hp → VK → Prop := fun xs H Q => ∃ a dx fs, xs = [V.ref a] ∧ H a = some (.ins C dx fs) ∧ sp [.ref a] H (fun z H' => ∃ t, z = .str t ∧ Q z H') E
/-- len(x) -/
def rLenI (C : Addr) (sp : Sp) (E : XK) : List V → Hp → VK → Prop := fun xs H Q => ∃ a dx fs, xs = [V.ref a] ∧ H a = some (.ins C dx fs) ∧ sp [.ref a] H (fun z H' => ∃ m : Nat, z = .int m ∧ m ≤ 1000000 ∧ Q z H') E
/-- x == y, the def's own answer -/
def rEqI (K : PySem.W.Frag) (C : Addr) (sp : Sp) (E : XK) : R2 := fun x y H Q => ∃ a dx fs t, x = .ref a ∧ H a = some (.ins C dx fs) ∧ TyX K H y t ∧ PySem.W.notFirst K C t = true ∧ sp [x, y] H Q E
/-- x != y: the answer of == turned round -/
def rNeI (K : PySem.W.Frag) (C : Addr) (sp : Sp) (E : XK) : R2 := fun x y H Q => ∃ a dx fs t, x = .ref a ∧ H a = some (.ins C dx fs) ∧ TyX K H y t ∧ PySem.W.notFirst K C t = true ∧ sp [x, y] H (fun z H' => ∃ b, z = .bl b ∧ Q (.bl (!b)) H') E
/-- C(..), C in the i-th slot -/
def tMakeL (i : Nat) (C : Addr) (sp : Sp) (dvs : List V) (E : XK) (t : TA) : TE := fun σ H Q => σ[i]? = some (some (.ref C)) ∧ tMake C sp dvs E t σ H Q
/-- x == (), x a tuple of any values -/
def rEqE (K : PySem.W.Frag) : R2 := fun x y H Q => ∃ (a b : Addr) (xs : List V), x = .ref a ∧ y = .ref b ∧ SqT K H a xs ∧ SqT K H b [] ∧ Q (.bl xs.isEmpty) H
theorem op_eqE (hu : X.A.units + 64 < cLine) : OpR X (compareOp .Eq) (rEqE X.K) := by
  intro pins s σ H x y v u Q I rx ry h
  obtain ⟨a, b, xs, rfl, rfl, ha, hb, q⟩ := h
  cases (show v = Value.ref a from rx)
  cases (show u = Value.ref b from ry)
  obtain ⟨us, r1, p1, _⟩ := I.tuple ha
  obtain ⟨ws, r2, p2, _⟩ := I.tuple hb
  cases r2
  refine SeqAt.RcAt.tuples (e := fun _ => true) p1 p2 (by omega) (fun j h1 h2 => absurd h2 (Nat.not_lt_zero j)) X.prog X.w _ _ ⟨.bl xs.isEmpty, H, I, ?_, q⟩
  show Value.bool _ = Value.bool _
  congr 1
  have e := r1.length
  cases us with
  | nil =>
    cases xs with
    | nil => rfl
    | cons _ _ => cases e
  | cons _ _ =>
    cases xs with
    | nil => cases e
    | cons _ _ => simp
end
end Lv

/-! the parts of a text: split and partition -/
namespace Lv
open PySem PySem.Spec PyProof.Rows L2
theorem at_last {α : Type} {xs : List α} (h : xs ≠ []) : atI xs (-1) = xs.getLast? := by
  have hl : 0 < xs.length := List.length_pos_iff.mpr h
  unfold atI ixN
  rw [if_neg (by decide), if_pos (by omega), List.getLast?_eq_getElem?]
  show xs[((-1 : Int) + xs.length).toNat]? = _
  rw [show ((-1 : Int) + xs.length).toNat = xs.length - 1 by omega]
theorem cut_last {xs : List V} : cutV xs none (some (-1)) = xs.dropLast := by
  unfold cutV
  rw [HT.sIx_none, List.drop_zero, Nat.sub_zero]
  have e : HT.sIx xs.length xs.length (some (-1)) = xs.length - 1 := by
    unfold HT.sIx
    simp
    omega
  rw [e, List.dropLast_eq_take]
end Lv

/-! nested tuples as data: compared and shown -/
namespace Lv
open PySem PySem.Spec PyProof.Rows L2
/-- data of a small depth that can be compared and shown -/
structure Gd (d : PyData) (k n : Nat) : Prop where
  lay : d.canLay0 = true
  dep : d.depth ≤ k
  shw : d.showable = true
  nod : d.hasDict = false
  len : d.shown.length ≤ n
theorem Gd.mono {d : PyData} {k n k' n' : Nat} (g : Gd d k n) (h1 : k ≤ k') (h2 : n ≤ n') : Gd d k' n' := ⟨g.lay, Nat.le_trans g.dep h1, g.shw, g.nod, Nat.le_trans g.len h2⟩
theorem Gd.str {w : Str} (p : Pl w) : Gd (.str w) 0 (10 * w.length + 2) := by
  refine ⟨?_, ?_, ?_, ?_, ?_⟩
  · rw [PyData.canLay0]
    exact strOk_pl p
  · simp [PyData.depth]
  · simp [PyData.showable]
  · simp [PyData.hasDict]
  · rw [PyData.shown]
    exact rlen p
theorem Gd.int {i : Int} {n : Nat} (h : i.natAbs.log2 < 1920) (hn : (Str.ofString (toString i)).length ≤ n) : Gd (.int i) 0 n := by
  refine ⟨?_, ?_, ?_, ?_, ?_⟩
  · simp [PyData.canLay0]
  · simp [PyData.depth]
  · simp only [PyData.showable]
    exact decide_eq_true h
  · simp [PyData.hasDict]
  · rw [PyData.shown]
    exact hn
structure GdAll (ds : List PyData) (k n : Nat) : Prop where
  lay : PyData.canLayAll0 ds = true
  dep : PyData.depthAll ds ≤ k
  shw : PyData.showableAll ds = true
  nod : PyData.hasDictAll ds = false
  len : ((PyData.shownAll ds).map (·.length)).sum + 2 * (PyData.shownAll ds).length ≤ ds.length * (n + 2)
theorem GdAll.of {k n : Nat} : ∀ {ds : List PyData}, (∀ d ∈ ds, Gd d k n) → GdAll ds k n
  | [], _ => ⟨by simp [PyData.canLayAll0], by simp [PyData.depthAll], by simp [PyData.showableAll], by simp [PyData.hasDictAll], by simp [PyData.shownAll]⟩
  | d :: ds, h => by
    have g := h d (.head _)
    have r := GdAll.of (ds := ds) fun x hx => h x (.tail _ hx)
    refine ⟨?_, ?_, ?_, ?_, ?_⟩
    · rw [PyData.canLayAll0, g.lay, r.lay]
      rfl
    · rw [PyData.depthAll]
      exact Nat.max_le.mpr ⟨g.dep, r.dep⟩
    · rw [PyData.showableAll, g.shw, r.shw]
      rfl
    · rw [PyData.hasDictAll, g.nod, r.nod]
      rfl
    · have h1 := r.len
      have h2 := g.len
      have e : (ds.length + 1) * (n + 2) = ds.length * (n + 2) + (n + 2) := Nat.succ_mul _ _
      rw [PyData.shownAll, List.map_cons, List.sum_cons, List.length_cons, List.length_cons, e]
      omega
theorem Gd.tuple {ds : List PyData} {k n : Nat} (h : ∀ d ∈ ds, Gd d k n) : Gd (.tuple ds) (k + 1) (ds.length * (n + 2) + 3) := by
  have g := GdAll.of h
  refine ⟨?_, ?_, ?_, ?_, ?_⟩
  · rw [PyData.canLay0]
    exact g.lay
  · simp only [PyData.depth]
    have := g.dep
    omega
  · simp only [PyData.showable]
    exact g.shw
  · simp only [PyData.hasDict]
    exact g.nod
  · have h1 := g.len
    have h2 := tupleText_len_le (PyData.shownAll ds)
    simp only [PyData.shown]
    omega
theorem Gd.list {ds : List PyData} {k n : Nat} (h : ∀ d ∈ ds, Gd d k n) : Gd (.list ds) (k + 1) (ds.length * (n + 2) + 3) := by
  have g := GdAll.of h
  refine ⟨?_, ?_, ?_, ?_, ?_⟩
  · rw [PyData.canLay0]
    exact g.lay
  · simp only [PyData.depth]
    have := g.dep
    omega
  · simp only [PyData.showable]
    exact g.shw
  · simp only [PyData.hasDict]
    exact g.nod
  · have h1 := g.len
    have h2 := listText_len_le (PyData.shownAll ds)
    simp only [PyData.shown]
    omega
theorem Gd.shaped {d : PyData} {k n : Nat} (g : Gd d k n) (h : k ≤ 60) : SeqAt.shaped d = true := by
  unfold SeqAt.shaped
  rw [g.lay]
  exact decide_eq_true (by have := g.dep; omega)
/-- the names of a type or a front -/
theorem Gd.names {ws : List Str} (h : ∀ w ∈ ws, isNm w = true) (hn : ws.length ≤ 5) : Gd (dS ws) 1 423 := by
  refine (Gd.tuple (k := 0) (n := 82) fun d hd => ?_).mono (Nat.le_refl _) ?_
  · obtain ⟨w, hw, rfl⟩ := List.mem_map.mp hd
    have := isNm_len (h w hw)
    exact (Gd.str (pl_of (h w hw))).mono (Nat.le_refl _) (by omega)
  · rw [List.length_map]
    omega
end Lv

/-! comprehensions whose elements are new tuples -/
namespace Lv
open PySem PySem.Spec PyProof.Rows L2
/-- all tuples stay -/
def SmT (H H' : Hp) : Prop := ∀ a xs, H a = some (.tup xs) → H' a = some (.tup xs)
theorem SmT.of {H H' : Hp} (s : Same H H') : SmT H H' := fun a xs h => s _ _ h
theorem SmT.gr {d : Addr} {H H' : Hp} (g : Gr d H H') : SmT H H' := fun a xs h => g.keep _ _ (g.pre.ne_tup h) h
theorem SmT.lst {H : Hp} {D : Addr} {l l' : List V} (h : H D = some (.lst l)) : SmT H (upd H D (.lst l')) := fun a xs e => by
  rw [upd_ne]
  · exact e
  · intro z
    rw [z, h] at e
    cases e
theorem SmT.trans {H H1 H2 : Hp} (a : SmT H H1) (b : SmT H1 H2) : SmT H H2 := fun p xs h => b _ _ (a _ _ h)
section
variable {J : It} {n : Nat} {G : Hp → Prop} {Y : Nat → Hp → V → Hp → Prop} {g : TG} {tt : TT} {te : TE} {vs : List Nat} {σ : L2.St} {H1 : Hp} {Q : VK}
theorem lc_mon (w : Walk J n G Y) (P : Nat → V → Hp → Prop) (hP : ∀ i y H H', SmT H H' → P i y H → P i y H') (hn : n ≤ sizeLine) (hG : ∀ H, Same H1 H → G H)
    (hs : ∀ i x H H', i < n → Same H1 H → Y i H x H' → ∀ R : VK, (∀ y H4, Same H H4 → P i y H4 → R y H4) →
      g x (wipe σ vs) H' fun σ2 H2 => wipe σ2 vs = wipe σ vs ∧ tt σ2 H2 fun b H3 => b = true ∧ te σ2 H3 R)
    (mono : ∀ (x : V) (σ' : L2.St) (H' : Hp) (A B : L2.St → Hp → Prop), (∀ s h, A s h → B s h) → g x σ' H' A → g x σ' H' B)
    (monoT : ∀ (σ' : L2.St) (H' : Hp) (A B : Bool → Hp → Prop), (∀ b h, A b h → B b h) → tt σ' H' A → tt σ' H' B)
    (hd : ∀ H D ys, Same H1 H → H1 D = none → ys.length = n → (∀ (i : Nat) y, ys[i]? = some y → P i y H) → H D = some (.lst ys) → Q (.ref D) H) : LcB J g tt te vs σ Q H1 := by
  intro D hD
  refine lc_it w (fun i H => Same H1 H ∧ ∃ ys, ys.length = i ∧ (∀ (j : Nat) y, ys[j]? = some y → P j y H) ∧ H D = some (.lst ys)) ⟨same_new hD, [], rfl, (fun j y h => nomatch h), upd_same⟩
    (fun i H _ h => hG H h.1) ?_ (fun H h => let ⟨hS, ys, hl, hp, hL⟩ := h; hd H D ys hS hD hl hp hL)
  rintro i x H H' hi ⟨hS, ys, hl, hp, hL⟩ hy
  have := hs i x H H' hi hS hy
    (fun y H4 => ∃ acc, H4 D = some (.lst acc) ∧ acc.length < sizeLine ∧
      (Same H1 (upd H4 D (.lst (acc ++ [y]))) ∧ ∃ zs, zs.length = i + 1 ∧ (∀ (j : Nat) z, zs[j]? = some z → P j z (upd H4 D (.lst (acc ++ [y])))) ∧ upd H4 D (.lst (acc ++ [y])) D = some (.lst zs)))
    (fun y H4 s4 py => ⟨ys, s4 _ _ hL, by rw [hl]; omega, same_mut (hS.trans s4) hD, ys ++ [y], by rw [List.length_append, hl]; rfl, fun j z hz => ?_, upd_same⟩)
  · refine mono _ _ _ _ _ ?_ this
    rintro s h ⟨e, h2⟩
    refine ⟨e, monoT _ _ _ _ ?_ h2⟩
    rintro b h3 ⟨rfl, h4⟩
    rw [if_pos rfl]
    exact h4
  · have st : SmT H4 (upd H4 D (.lst (ys ++ [y]))) := SmT.lst (s4 _ _ hL)
    by_cases hj : j < i
    · rw [List.getElem?_append_left (by omega)] at hz
      exact hP _ _ _ _ ((SmT.of s4).trans st) (hp j z hz)
    · have e : j = i := by
        have := (List.getElem?_eq_some_iff.mp hz).1
        rw [List.length_append, hl] at this
        simp at this
        omega
      subst e
      rw [List.getElem?_append_right (by omega), hl, Nat.sub_self] at hz
      cases hz
      exact hP _ _ _ _ st py
end
end Lv

set_option pp.maxSteps 1500
/-! sets whose members are nested tuples: made, filled, counted -/
namespace Lv
open PySem PySem.Spec PyProof.Rows L2
section
variable {P : Program} {w : World}
/-- whether v's hash is by value: some answer, nothing else -/
def HashQ (P : Program) (w : World) (n : Nat) (s : Shared) (v : Value) : Prop := ∀ (A : Around) (E : Value → Shared → Prop) (Q : Bool → Shared → Prop), (∀ b, Q b s) → wpAny (model P w) A (hashByValue n v) Q E s
theorem HashQ.tup {n : Nat} {s : Shared} {a : Addr} {o : Obj} {vs : Array Value} {m : Nat} (ho : s.heap.get? a = some o) (hc : o.cls = .type "tuple") (hd : o.data = .seq vs m) (hv : ∀ v ∈ vs.toList, HashQ P w n s v) : HashQ P w (n + 1) s (.ref a) := by
  intro A E Q q
  unfold hashByValue
  refine wpAny_bind (wpAny_specialOf (T := "tuple") ⟨o, ho, hc⟩ F.slot_tuple_hash.lookup ?_)
  show wpAny _ _ (seqItems? (.ref a) >>= _) _ _ s
  refine wpAny_bind (wpAny_seqItems ho hd (wpAny_bind ?_))
  show wpAny _ _ (forIn vs _ _) _ _ s
  rw [← Array.forIn_toList]
  refine wpAny_forIn_list _ (fun rest _ s1 => s1 = s ∧ ∀ v ∈ rest, HashQ P w n s v) _ (fun v rest r s1 h => ?_) (fun r s1 h => ?_) _ _ ⟨rfl, hv⟩
  · obtain ⟨rfl, h⟩ := h
    refine wpAny_bind (h v (.head _) _ _ _ fun b => ?_)
    cases b with
    | true =>
      refine wp_if_neg (by decide) ?_
      exact wpAny_pure ⟨rfl, fun u hu => h u (.tail _ hu)⟩
    | false =>
      refine wp_if_pos (by decide) ?_
      exact wpAny_pure (wpAny_pure (q _))
  · obtain ⟨rfl, _⟩ := h
    obtain ⟨r1, r2⟩ := r
    cases r1 with
    | none => exact wpAny_pure (q _)
    | some b => exact wpAny_pure (q _)
mutual
theorem hashQ : ∀ (k : NestedKey) (v : Value) (n : Nat) (s : Shared), NestedIs s.heap k v → HashQ P w n s v
  | .none, _, n, s, x => by cases x; intro A E Q q; cases n <;> exact wpAny_pure (q _)
  | .num i, _, n, s, x => by cases x <;> (intro A E Q q; cases n <;> exact wpAny_pure (q _))
  | .text y, _, n, s, x => by cases x; intro A E Q q; cases n <;> exact wpAny_pure (q _)
  | .tup ks, _, n, s, x => by
    cases x with
    | tup hg hc hd hk =>
      cases n with
      | zero => intro A E Q q; exact wpAny_pure (q _)
      | succ n => exact .tup hg hc hd (hashQs ks _ n s hk)
theorem hashQs : ∀ (ks : List NestedKey) (vs : List Value) (n : Nat) (s : Shared), NestedAll s.heap ks vs → ∀ v ∈ vs, HashQ P w n s v
  | [], _, n, s, x, v, hv => by cases x; cases hv
  | k :: ks, _, n, s, x, v, hv => by
    cases x with
    | cons x1 x2 =>
      rcases List.mem_cons.mp hv with rfl | hv
      · exact hashQ k _ n s x1
      · exact hashQs ks _ n s x2 v hv
end
/-- v is of no class statement -/
def PlainQ (P : Program) (w : World) (n : Nat) (s : Shared) (v : Value) : Prop := ∀ (A : Around) (E : Value → Shared → Prop) (Q : Bool → Shared → Prop), Q false s → wpAny (model P w) A (ofAClassStatement n v) Q E s
theorem PlainQ.tup {n : Nat} {s : Shared} {a : Addr} {o : Obj} {vs : Array Value} {m : Nat} (ho : s.heap.get? a = some o) (hc : o.cls = .type "tuple") (hd : o.data = .seq vs m) (hv : ∀ v ∈ vs.toList, PlainQ P w n s v) : PlainQ P w (n + 1) s (.ref a) := by
  intro A E Q q
  unfold ofAClassStatement
  refine wpAny_bind (wpAny_typeOf (T := "tuple") ⟨o, ho, hc⟩ ?_)
  dsimp only
  rw [if_pos (show (("tuple" : String) == "tuple") = true by decide)]
  refine wpAny_bind (wpAny_pure ?_)
  refine wp_if_neg (by decide) ?_
  show wpAny _ _ (seqItems? (.ref a) >>= _) _ _ s
  refine wpAny_bind (wpAny_seqItems ho hd (wpAny_bind ?_))
  show wpAny _ _ (forIn vs _ _) _ _ s
  rw [← Array.forIn_toList]
  refine wpAny_forIn_list _ (fun rest r s1 => r.1 = none ∧ s1 = s ∧ ∀ v ∈ rest, PlainQ P w n s v) _ (fun v rest r s1 h => ?_) (fun r s1 h => ?_) _ _ ⟨rfl, rfl, hv⟩
  · obtain ⟨_, rfl, h⟩ := h
    refine wpAny_bind (h v (.head _) _ _ _ ?_)
    refine wp_if_neg (by decide) ?_
    exact wpAny_pure ⟨rfl, rfl, fun u hu => h u (.tail _ hu)⟩
  · obtain ⟨e, rfl, _⟩ := h
    obtain ⟨r1, r2⟩ := r
    cases (show r1 = none from e)
    exact wpAny_pure q
mutual
theorem plainQ : ∀ (k : NestedKey) (v : Value) (n : Nat) (s : Shared), NestedIs s.heap k v → k.depth ≤ n → PlainQ P w n s v
  | .none, _, n, s, x, _ => by cases x; intro A E Q q; cases n <;> exact wpAny_pure q
  | .num i, _, n, s, x, _ => by cases x <;> (intro A E Q q; cases n <;> exact wpAny_pure q)
  | .text y, _, n, s, x, _ => by cases x; intro A E Q q; cases n <;> exact wpAny_pure q
  | .tup ks, _, n, s, x, h => by
    cases x with
    | tup hg hc hd hk =>
      simp only [NestedKey.depth] at h
      cases n with
      | zero => omega
      | succ n => exact .tup hg hc hd (plainQs ks _ n s hk (by omega))
theorem plainQs : ∀ (ks : List NestedKey) (vs : List Value) (n : Nat) (s : Shared), NestedAll s.heap ks vs → NestedKey.depthAll ks ≤ n → ∀ v ∈ vs, PlainQ P w n s v
  | [], _, n, s, x, _, v, hv => by cases x; cases hv
  | k :: ks, _, n, s, x, h, v, hv => by
    cases x with
    | cons x1 x2 =>
      simp only [NestedKey.depthAll] at h
      rcases List.mem_cons.mp hv with rfl | hv
      · exact plainQ k _ n s x1 (by omega)
      · exact plainQs ks _ n s x2 (by omega) v hv
end
abbrev NK (P : Program) (w : World) : HeapKind P w NestedKey := nestedKind P w
/-- a search among nested tuples can't be seen -/
theorem unseen {A : Around} {E : Value → Shared → Prop} {s : Shared} {k : NestedKey} {b : Addr} {ys : List Value} {Q : Bool → Shared → Prop} (hb : (NK P w).is s.heap k b) (hy : ∀ y ∈ ys, ∃ c k', y = Value.ref c ∧ (NK P w).is s.heap k' c) (q : Q false s) :
    wpAny (model P w) A (searchCouldBeSeen (.ref b) ys) Q E s := by
  unfold searchCouldBeSeen
  refine wpAny_bind (wpAny_forIn_list _ (fun rest r s1 => r.1 = none ∧ s1 = s ∧ ∀ y ∈ rest, ∃ c k', y = Value.ref c ∧ (NK P w).is s.heap k' c) _ (fun v rest r s1 h => ?_) (fun r s1 h => ?_) _ _ ⟨rfl, rfl, hy⟩)
  · obtain ⟨_, rfl, h⟩ := h
    obtain ⟨c, k', rfl, hc⟩ := h v (.head _)
    have later : ∀ y ∈ rest, ∃ c k', y = Value.ref c ∧ (NK P w).is s1.heap k' c := fun u hu => h u (.tail _ hu)
    dsimp only
    by_cases hv : (b == c || (carriedByValue (.ref b) && carriedByValue (.ref c))) = true
    · exact wp_if_pos hv (wpAny_pure ⟨rfl, rfl, later⟩)
    · refine wp_if_neg hv (wpAny_bind ((NK P w).quiet hb ?_))
      refine wp_if_neg (by decide) (wpAny_bind ((NK P w).quiet hc ?_))
      refine wp_if_neg (by decide) (wpAny_bind (plainQ k _ 8 _ hb.1 hb.2 _ _ _ ?_))
      refine wp_if_neg (by decide) (wpAny_bind (plainQ k' _ 8 _ hc.1 hc.2 _ _ _ ?_))
      refine wp_if_neg (by decide) ?_
      exact wpAny_pure ⟨rfl, rfl, later⟩
  · obtain ⟨e, rfl, _⟩ := h
    obtain ⟨r1, r2⟩ := r
    cases (show r1 = none from e)
    exact wpAny_pure q
end
end Lv

/-! sets of nested tuples: the search for a member -/
namespace Lv
open PySem PySem.Spec PyProof.Rows L2
/-- the c-th stand of a search for the hash h -/
abbrev stand (t : SetTable) (h : Int) (c : Nat) : SetTable.Probe := nth t.mask (runAt t.mask (SetTable.bits h % (t.mask + 1)) (SetTable.bits h)) c
theorem stand_clean (t : SetTable) (h : Int) (c : Nat) : (stand t h c).dummy = none := by
  induction c with
  | zero => rfl
  | succ c ih =>
    show (nth t.mask _ (c + 1)).dummy = none
    rw [nth_succ]
    unfold adv
    split <;> exact ih
theorem stand_on (t : SetTable) (h : Int) (c q : Nat) : nth t.mask (stand t h c) q = stand t h (c + q) := (nth_add t.mask c _ q).symm
/-- one question of the search: the next place of a member with this hash, or the free slot -/
theorem probe_at {t : SetTable} {hs : List Int} (T : TabOk t hs) {ha : Nat → Int} (hha : ∀ (i : Nat) x, hs[i]? = some x → ha i = x) {h : Int} {K c : Nat} (hc : c ≤ K) (hf : K < 10 * SetTable.turns t.mask)
    (hK : way t.mask h K ∉ t.place.toList) (hb : ∀ q, q < K → way t.mask h q ∈ t.place.toList) :
    (∃ (q i : Nat), c ≤ q ∧ q < K ∧ t.place.toList[i]? = some (way t.mask h q) ∧ hs[i]? = some h ∧ (∀ (q' i' : Nat), c ≤ q' → q' < q → t.place.toList[i']? = some (way t.mask h q') → hs[i']? ≠ some h) ∧
      t.probe ha h (stand t h c) = some (.candidate (way t.mask h q) i (stand t h (q + 1)))) ∨
    ((∀ (q' i' : Nat), c ≤ q' → q' < K → t.place.toList[i']? = some (way t.mask h q') → hs[i']? ≠ some h) ∧ t.probe ha h (stand t h c) = some (.empty (way t.mask h K) none)) := by
  have at_ : ∀ q, (nth t.mask (stand t h c) q).j = way t.mask h (c + q) := fun q => congrArg SetTable.Probe.j (stand_on t h c q)
  have sz : t.place.toList.length = hs.length := by rw [Array.length_toList]; exact T.sz
  have hsome : ∀ (i j : Nat), t.place.toList[i]? = some j → hs[i]? = some (hs.getD i 0) := fun i j e => by
    have hl : i < hs.length := by rw [← sz]; exact (List.getElem?_eq_some_iff.mp e).1
    simp [List.getD, List.getElem?_eq_getElem hl]
  have no : ∀ {B : Nat}, (∀ (k' i' : Nat), k' < B → t.place.toList[i']? = some (nth t.mask (stand t h c) k').j → ha i' ≠ h) → ∀ (q' i' : Nat), c ≤ q' → q' < c + B → t.place.toList[i']? = some (way t.mask h q') → hs[i']? ≠ some h := by
    intro B hno q' i' h1 h2 h3 h4
    refine hno (q' - c) i' (by omega) ?_ (hha i' h h4)
    rw [at_, show c + (q' - c) = q' by omega]
    exact h3
  rcases go_spec t T.ris T.dm ha h (10 * SetTable.turns t.mask) (K - c) (stand t h c) (stand_clean t h c) (by omega) (fun q hq => by rw [at_]; exact hb _ (by omega)) (by rw [at_, show c + (K - c) = K by omega]; exact hK) with ⟨q, i, hq, hi, hh, hno, hp⟩ | ⟨hno, hp⟩
  · refine .inl ⟨c + q, i, by omega, by omega, by rw [← at_]; exact hi, ?_, no hno, ?_⟩
    · have e := hsome i _ hi
      rw [e]
      rw [← hha i _ e, hh]
    · have hp' : t.probe ha h (stand t h c) = some (.candidate (nth t.mask (stand t h c) q).j i (nth t.mask (stand t h c) (q + 1))) := hp
      rw [hp', at_, stand_on]
      rfl
  · refine .inr ⟨fun q' i' h1 h2 => no hno q' i' h1 (by omega), ?_⟩
    have hp' : t.probe ha h (stand t h c) = some (.empty (nth t.mask (stand t h c) (K - c)).j none) := hp
    rw [hp', at_, show c + (K - c) = K by omega]
/-- members: a key, and where it stands -/
abbrev Mems := List (NestedKey × Addr)
def hashN (w : World) (L : Mems) : List Int := L.map fun p => p.1.hash w
def rowN (w : World) (L : Mems) : List (Int × Value) := L.map fun p => (p.1.hash w, Value.ref p.2)
/-- the set at a holds L -/
structure SetN (P : Program) (w : World) (h : Heap) (a : Addr) (L : Mems) (es : Array (Int × Value)) (ep : Nat) (t : SetTable) : Prop where
  obj : ∃ o, h.get? a = some o ∧ o.ExactSet ∧ o.data = .set es ep t
  row : es.toList = rowN w L
  tab : TabOk t (hashN w L)
  once : (L.map (·.1)).Nodup
  key : ∀ p ∈ L, (NK P w).is h p.1 p.2
  free : L.length * 5 < t.mask * 3
  small : L.length < 64
section
variable {P : Program} {w : World} {A : Around} {E : Value → Shared → Prop} {s : Shared} {a : Addr} {L : Mems} {es : Array (Int × Value)} {ep : Nat} {t : SetTable}
theorem row_len (w : World) (L : Mems) : (rowN w L).length = L.length := by simp [rowN]
theorem hash_len (w : World) (L : Mems) : (hashN w L).length = L.length := by simp [hashN]
theorem SetN.len {h : Heap} (R : SetN P w h a L es ep t) : es.size = L.length := by
  rw [← Array.length_toList, R.row, row_len]
theorem fits_of {n : Nat} (h1 : t.place.size = n) (h2 : t.dummies = #[]) (h3 : n ≤ t.mask) : t.fits n = true := by
  unfold SetTable.fits SetTable.fill
  rw [h2, Bool.and_eq_true, beq_iff_eq, decide_eq_true_eq]
  exact ⟨h1, by show t.place.size + 0 ≤ t.mask; omega⟩
theorem SetN.fit {h : Heap} (R : SetN P w h a L es ep t) : t.fits es.size = true := by
  have h1 := R.tab.sz
  rw [hash_len] at h1
  have h2 := R.len
  have h3 := R.free
  exact fits_of (by omega) R.tab.dm (by omega)
theorem SetN.nth_ {h : Heap} (R : SetN P w h a L es ep t) {i : Nat} {p : NestedKey × Addr} (e : L[i]? = some p) : es[i]? = some (p.1.hash w, Value.ref p.2) := by
  rw [← Array.getElem?_toList, R.row]
  simp [rowN, e]
theorem SetN.stays {h : Heap} (R : SetN P w h a L es ep t) : ¬ t.gaveWay = true := by
  unfold SetTable.gaveWay
  rw [mask_odd R.tab.mok]
  decide
/-- the search, from its c-th stand on -/
theorem seek (R : SetN P w s.heap a L es ep t) {x : Addr} {k : NestedKey} (hx : (NK P w).is s.heap k x) (ru : (NK P w).room A) {K : Nat} (hf : K < 10 * SetTable.turns t.mask) (hK : way t.mask (k.hash w) K ∉ t.place.toList)
    (hb : ∀ q, q < K → way t.mask (k.hash w) q ∈ t.place.toList) {Q : SetFound → Shared → Prop} (qi : k ∈ L.map (·.1) → Q (.there none) s) (qo : k ∉ L.map (·.1) → Q (.free (way t.mask (k.hash w) K) false) s) :
    ∀ (f c : Nat) (o : Option SetTable.Probe), o.getD (t.probeStart (k.hash w)) = stand t (k.hash w) c → c ≤ K → K - c < f →
      (∀ (i : Nat) p, L[i]? = some p → p.1 = k → ∃ c', c ≤ c' ∧ c' < K ∧ t.place.toList[i]? = some (way t.mask (k.hash w) c')) → wpAny (model P w) A (setSearchFrom a (.ref x) (k.hash w) true f o) Q E s := by
  intro f
  induction f with
  | zero => intro c o _ _ hz; omega
  | succ f ih =>
    intro c o eo hc hz later
    obtain ⟨ob, hob, hex, hda⟩ := R.obj
    have hat : ∀ (i : Nat) v, (hashN w L)[i]? = some v → (fun i => (es[i]?.map (·.1)).getD 0) i = v := fun i v e => by
      unfold hashN at e
      rw [List.getElem?_map] at e
      cases hp : L[i]? with
      | none => rw [hp] at e; cases e
      | some p =>
        rw [hp] at e
        cases e
        simp [R.nth_ hp]
    have inL : ∀ (i : Nat) p, L[i]? = some p → p.1 = k → (hashN w L)[i]? = some (k.hash w) := fun i p e ek => by
      unfold hashN
      rw [List.getElem?_map, e, ← ek]
      rfl
    rw [setSearchFrom_succ]
    refine wpAny_bind (wpAny_setState_of hob hda R.fit ?_)
    dsimp only
    refine wp_if_neg R.stays ?_
    rw [eo]
    rcases probe_at R.tab hat hc hf hK hb with ⟨q, i, h1, h2, h3, h4, h5, h6⟩ | ⟨h5, h6⟩
    · rw [h6]
      dsimp only
      have il : i < L.length := by
        have := (List.getElem?_eq_some_iff.mp h4).1
        rw [hash_len] at this
        exact this
      obtain ⟨p, hp⟩ : ∃ p, L[i]? = some p := ⟨_, List.getElem?_eq_getElem il⟩
      have pm := List.mem_of_getElem? hp
      have slot := slot_live R.tab.ris h3
      have rest : wpAny (model P w) A (searchRest a (.ref x) (k.hash w) true f es t (way t.mask (k.hash w) q) i (stand t (k.hash w) (q + 1))) Q E s := by
        unfold searchRest
        rw [R.nth_ hp]
        dsimp only
        refine wpAny_bind (wpAny_holding ((NK P w).eqBool ru (R.key p pm) hx (wpAny_bind (wpAny_setState_of hob hda R.fit ?_))))
        dsimp only
        by_cases same : p.1 = k
        · rw [decide_eq_true same]
          exact wp_if_pos (by decide) (wpAny_pure (qi (List.mem_map.mpr ⟨p, pm, same⟩)))
        · rw [decide_eq_false same]
          refine wp_if_neg (by decide) ?_
          rw [sameMem]
          dsimp only
          simp only [if_true, slot, R.nth_ hp]
          refine wpAny_bind (wpAny_isSame_ref_self (wpAny_bind (wpAny_pure ?_)))
          simp only [if_true]
          refine wp_if_neg (by decide) ?_
          refine ih (q + 1) (some (stand t (k.hash w) (q + 1))) rfl (by omega) (by omega) fun i0 p0 e0 k0 => ?_
          obtain ⟨c', l1, l2, l3⟩ := later i0 p0 e0 k0
          refine ⟨c', ?_, l2, l3⟩
          rcases Nat.lt_trichotomy c' q with z | z | z
          · exact absurd (inL i0 p0 e0 k0) (h5 c' i0 l1 z l3)
          · have s0 := slot_live R.tab.ris l3
            rw [z, slot] at s0
            injection s0 with s0
            rw [← s0, hp] at e0
            cases e0
            exact absurd k0 same
          · omega
      by_cases hl : t.led = true
      · refine wp_if_neg (by rw [hl]; decide) ?_
        exact rest
      · refine wp_if_pos (by simp [hl]) ?_
        refine wpAny_bind (unseen hx (fun y hy => ?_) ?_)
        · obtain ⟨e, he, rfl⟩ := List.mem_map.mp hy
          have he' : e ∈ es.toList := by
            have : e ∈ es ∧ e.1 = k.hash w := by simpa using he
            simpa using this.1
          rw [R.row] at he'
          obtain ⟨p2, hp2, rfl⟩ := List.mem_map.mp he'
          exact ⟨p2.2, p2.1, rfl, R.key p2 hp2⟩
        · exact wp_if_neg (by decide) rest
    · rw [h6]
      refine wpAny_pure (qo fun hm => ?_)
      obtain ⟨p0, m0, k0⟩ := List.mem_map.mp hm
      obtain ⟨i0, l0, e0⟩ := List.getElem_of_mem m0
      have e1 : L[i0]? = some p0 := by rw [List.getElem?_eq_getElem l0, e0]
      obtain ⟨c', l1, l2, l3⟩ := later i0 p0 e1 k0
      exact h5 c' i0 l1 l2 l3 (inL i0 p0 e1 k0)
/-- the search of an adding -/
theorem search_n (R : SetN P w s.heap a L es ep t) {x : Addr} {k : NestedKey} (hx : (NK P w).is s.heap k x) (ru : (NK P w).room A) {Q : SetFound → Shared → Prop} (qi : k ∈ L.map (·.1) → Q (.there none) s)
    (qo : ∀ K, k ∉ L.map (·.1) → way t.mask (k.hash w) K ∉ t.place.toList → (∀ q, q < K → way t.mask (k.hash w) q ∈ t.place.toList) → Q (.free (way t.mask (k.hash w) K) false) s) :
    wpAny (model P w) A (setSearch a (.ref x) (k.hash w) true) Q E s := by
  have fr := R.free
  obtain ⟨K, hf, hK, hb⟩ := R.tab.first (by rw [hash_len]; omega) (k.hash w)
  have few : 10 * SetTable.turns t.mask ≤ 2000 := by
    unfold SetTable.turns
    rcases R.tab.mok with e | e | e <;> omega
  refine seek R hx ru hf hK hb qi (fun n => qo K n hK hb) 100000 0 none rfl (Nat.zero_le _) (by omega) fun i p e ek => ?_
  have hi : (hashN w L)[i]? = some (k.hash w) := by
    unfold hashN
    rw [List.getElem?_map, e, ← ek]
    rfl
  have il : i < t.place.toList.length := by
    have h1 := (List.getElem?_eq_some_iff.mp hi).1
    have h2 := R.tab.sz
    rw [Array.length_toList]
    omega
  obtain ⟨c, hc, ec⟩ := R.tab.before hK hi (List.getElem?_eq_getElem il)
  exact ⟨c, Nat.zero_le _, hc, by rw [List.getElem?_eq_getElem il, ec]⟩
end
end Lv

/-! sets of nested tuples: a member is put in -/
namespace Lv
open PySem PySem.Spec PyProof.Rows L2
section
variable {P : Program} {w : World} {A : Around} {E : Value → Shared → Prop} {s : Shared} {a : Addr} {L : Mems} {es : Array (Int × Value)} {ep : Nat} {t : SetTable}
theorem key_but {h h' : Heap} {k : NestedKey} {b : Addr} {o : Obj} (hb : (NK P w).is h k b) (ho : h.get? a = some o) (hd : o.data = .set es ep t) (sb : Heap.SameBut a h h') : (NK P w).is h' k b := by
  refine ⟨NestedIs.at (fun c oc vs n hc hv => ?_) k _ hb.1, hb.2⟩
  refine (sb.2 c fun e => ?_).trans hc
  rw [e, ho] at hc
  cases hc
  rw [hd] at hv
  cases hv
theorem range_all {α : Type} : ∀ (l : List α), (List.range l.length).filterMap (fun i => l[i]?) = l
  | [] => rfl
  | x :: l => by
    rw [List.length_cons, List.range_succ_eq_map, List.filterMap_cons]
    simp only [List.getElem?_cons_zero, List.filterMap_map]
    exact congrArg (x :: ·) (range_all l)
theorem reorder (order : List Nat) (hr : es.toList = rowN w L) (hp : order.Perm (List.range L.length)) :
    ∃ L2 : Mems, order.filterMap (fun i => es[i]?) = rowN w L2 ∧ L2.Perm L ∧ hashN w L2 = order.map fun i => (es.map (·.1)).getD i 0 := by
  have at_ : ∀ i : Nat, es[i]? = (L[i]?).map fun p => (p.1.hash w, Value.ref p.2) := fun i => by
    rw [← Array.getElem?_toList, hr]
    simp [rowN]
  refine ⟨order.filterMap (fun i => L[i]?), ?_, ?_, ?_⟩
  · unfold rowN
    rw [List.map_filterMap]
    exact congrArg (fun f => order.filterMap f) (funext at_)
  · have h := hp.filterMap (fun i => L[i]?)
    rw [range_all] at h
    exact h
  · have all : ∀ i ∈ order, i < L.length := fun i hi => List.mem_range.mp (hp.mem_iff.mp hi)
    clear hp
    unfold hashN
    induction order with
    | nil => rfl
    | cons i r ih =>
      have hi := all i (.head _)
      have e : L[i]? = some L[i] := List.getElem?_eq_getElem hi
      rw [List.filterMap_cons, e]
      dsimp only
      rw [List.map_cons, List.map_cons, ih fun j hj => all j (.tail _ hj)]
      refine congrArg (· :: _) ?_
      rw [Array.getD_eq_getD_getElem?, Array.getElem?_map, at_, e]
      rfl
/-- the table is laid anew -/
theorem relay_n {o : Obj} (ho : s.heap.get? a = some o) (hx : o.ExactSet) (hd : o.data = .set es ep t) (hr : es.toList = rowN w L) (hsz : t.place.size = L.length) (hdm : t.dummies = #[]) (hm : L.length ≤ t.mask)
    (once : (L.map (·.1)).Nodup) (key : ∀ p ∈ L, (NK P w).is s.heap p.1 p.2) (small : L.length < 64) {want M : Nat} (hw : SetTable.sizeAbove want - 1 = M) (hM : MaskOk M) (hw2 : SetTable.sizeAbove want ≤ 128) (hn : L.length * 5 < M * 3)
    {Q : Unit → Shared → Prop} (q : ∀ h' L' es' ep' t', Heap.SameBut a s.heap h' → SetN P w h' a L' es' ep' t' → L'.Perm L → Q () { s with heap := h' }) : wpAny (model P w) A (setRelay a want) Q E s := by
  have hl : es.size = L.length := by rw [← Array.length_toList, hr, row_len]
  obtain ⟨t', order, e, hp, T, em, _, _, _⟩ := relaid_ok t (hs := es.map (·.1)) hw hM (by rw [Array.size_map, hl]; omega)
  rw [Array.size_map, hl] at hp
  obtain ⟨L2, r1, r2, r3⟩ := reorder order.toList hr hp
  rw [← r3] at T
  have r1' : (order.filterMap (es[·]?)).toList = rowN w L2 := by rw [Array.toList_filterMap]; exact r1
  have hs2 : (order.filterMap (es[·]?)).size = es.size := by rw [← Array.length_toList, r1', row_len, r2.length_eq, hl]
  rw [setRelay_eq]
  refine wpAny_bind (wpAny_setState_of ho hd (by rw [hl]; exact fits_of hsz hdm hm) ?_)
  dsimp only
  refine wp_if_neg (by rw [sizeLine_eq]; omega) ?_
  rw [e]
  refine wpAny_bind (wp_if_neg (by rw [hs2]; simp) (wpAny_pure ?_))
  refine wpAny_storeSet_of ho hd ?_ (by rw [hs2, hl, sizeLine_eq]; omega)
  have sb : Heap.SameBut a s.heap (s.heap.update a (Obj.putSet (order.filterMap (es[·]?)) t')) := Heap.SameBut.update ..
  exact q _ L2 _ (ep + 1) t' sb ⟨⟨_, store_at ho hd, ⟨hx.1, hx.2.1, hx.2.2⟩, rfl⟩, r1', T, (r2.map (·.1)).nodup_iff.mpr once, fun p hp => key_but (key p (r2.mem_iff.mp hp)) ho hd sb, by rw [r2.length_eq, em]; exact hn, by rw [r2.length_eq]; exact small⟩ r2
/-- a key is put in -/
theorem add_n (R : SetN P w s.heap a L es ep t) {x : Addr} {k : NestedKey} (hx : (NK P w).is s.heap k x) (ru : (NK P w).room A) (more : L.length + 1 < 64) {Q : Bool → Shared → Prop}
    (q : ∀ b h' L' es' ep' t', Heap.SameBut a s.heap h' → SetN P w h' a L' es' ep' t' → (k ∈ L.map (·.1) → L' = L) → (k ∉ L.map (·.1) → L'.Perm ((k, x) :: L)) → Q b { s with heap := h' }) :
    wpAny (model P w) A (setAddHashed a (.ref x) (k.hash w)) Q E s := by
  obtain ⟨o, ho, hex, hd⟩ := R.obj
  have hl := R.len
  have fr := R.free
  refine wpAny_holding ?_
  rw [show (100000 : Nat) = 99999 + 1 from rfl, setAddHashedIn_succ]
  refine wpAny_bind (wpAny_setState_of ho hd R.fit ?_)
  dsimp only
  refine wp_if_neg (by simp [byScan, Value.scannable]) ?_
  refine wpAny_bind (search_n R hx ru (fun hm => wpAny_pure (q false s.heap L es ep t (Heap.SameBut.refl a s.heap) R (fun _ => rfl) fun z => absurd hm z)) fun K hm hK hb => ?_)
  dsimp only
  refine wpAny_bind (wpAny_setState_of ho hd R.fit ?_)
  dsimp only
  obtain ⟨b1, b2, b3, b4, _, _, _, _, b9⟩ := R.tab.put hK hb
  rw [hash_len] at b2 b9
  have hpm : (L.take (SetTable.below t.place (way t.mask (k.hash w) K)) ++ (k, x) :: L.drop (SetTable.below t.place (way t.mask (k.hash w) K))).Perm ((k, x) :: L) := by
    have := List.perm_middle (a := (k, x)) (l₁ := L.take (SetTable.below t.place (way t.mask (k.hash w) K))) (l₂ := L.drop (SetTable.below t.place (way t.mask (k.hash w) K)))
    rw [List.take_append_drop] at this
    exact this
  have hrow : (SetTable.insertAt es (SetTable.below t.place (way t.mask (k.hash w) K)) (k.hash w, Value.ref x)).toList = rowN w (L.take (SetTable.below t.place (way t.mask (k.hash w) K)) ++ (k, x) :: L.drop (SetTable.below t.place (way t.mask (k.hash w) K))) := by
    rw [SetTable.toList_insertAt, R.row]
    simp [rowN, List.map_take, List.map_drop]
  have hhash : hashN w (L.take (SetTable.below t.place (way t.mask (k.hash w) K)) ++ (k, x) :: L.drop (SetTable.below t.place (way t.mask (k.hash w) K))) = (hashN w L).take (SetTable.below t.place (way t.mask (k.hash w) K)) ++ k.hash w :: (hashN w L).drop (SetTable.below t.place (way t.mask (k.hash w) K)) := by
    simp [hashN, List.map_take, List.map_drop]
  rw [← hhash] at b3
  generalize hpt : t.put (way t.mask (k.hash w) K) = pt at b1 b3 b4 b9 ⊢
  obtain ⟨t1, p1⟩ := pt
  dsimp only at b1 b3 b4 b9 ⊢
  subst b1
  generalize SetTable.below t.place (way t.mask (k.hash w) K) = pl at *
  generalize L.take pl ++ (k, x) :: L.drop pl = L1 at *
  have l1 : L1.length = L.length + 1 := hpm.length_eq
  have once1 : (L1.map (·.1)).Nodup := by
    refine (hpm.map (·.1)).nodup_iff.mpr ?_
    rw [List.map_cons]
    exact List.nodup_cons.mpr ⟨hm, R.once⟩
  have go : ∀ (b : Bool) (t2 : SetTable), t2 = (if b = true then t1 else { t1 with plain := false }) → wpAny (model P w) A (do
      storeSet a (SetTable.insertAt es pl (k.hash w, Value.ref x)) t2
      if !false && t2.tooFull then setRelay a (SetTable.grown (es.size + 1))
      return true) Q E s := by
    intro b t2 e2
    have T2 : TabOk t2 (hashN w L1) ∧ t2.mask = t1.mask ∧ t2.fill = t1.fill := by
      rw [e2]
      cases b with
      | true => exact ⟨b3, rfl, rfl⟩
      | false => exact ⟨⟨b3.ris, b3.dm, b3.sz, b3.mok, b3.bd, b3.reach⟩, rfl, rfl⟩
    obtain ⟨T2, m2, f2⟩ := T2
    generalize SetTable.insertAt es pl (k.hash w, Value.ref x) = es1 at *
    have hs1 : es1.size = L.length + 1 := by rw [← Array.length_toList, hrow, row_len, l1]
    refine wpAny_bind (wpAny_storeSet_of ho hd ?_ (by rw [hs1, sizeLine_eq]; omega))
    have sb : Heap.SameBut a s.heap (s.heap.update a (Obj.putSet es1 t2)) := Heap.SameBut.update ..
    have ho1 := store_at (es' := es1) (t' := t2) ho hd
    have key1 : ∀ p ∈ L1, (NK P w).is (s.heap.update a (Obj.putSet es1 t2)) p.1 p.2 := fun p hp => by
      rcases List.mem_cons.mp (hpm.mem_iff.mp hp) with rfl | hp
      · exact key_but hx ho hd sb
      · exact key_but (R.key p hp) ho hd sb
    generalize s.heap.update a (Obj.putSet es1 t2) = h1 at *
    have full : t2.tooFull = decide ((L.length + 1) * 5 ≥ t2.mask * 3) := by
      unfold SetTable.tooFull
      rw [f2, b9]
    by_cases hf : (L.length + 1) * 5 ≥ t2.mask * 3
    · rw [full, decide_eq_true hf]
      refine wp_if_pos rfl (wpAny_bind ?_)
      rw [hl]
      have two : (t.mask = 7 ∧ L.length = 4) ∨ (t.mask = 31 ∧ L.length = 18) := by
        rw [m2, b4] at hf
        rcases R.tab.mok with e | e | e <;> rw [e] at hf fr
        · exact .inl ⟨e, by omega⟩
        · exact .inr ⟨e, by omega⟩
        · omega
      have end_ : ∀ h' L' es' ep' t', Heap.SameBut a h1 h' → SetN P w h' a L' es' ep' t' → L'.Perm L1 → wpAny (model P w) A (pure true) Q E { s with heap := h' } := fun h' L' es' ep' t' s2 R2 p2 =>
        wpAny_pure (q true h' L' es' ep' t' (sb.trans s2) R2 (fun z => absurd z hm) fun _ => p2.trans hpm)
      have sz2 : t2.place.size = L1.length := by
        have := T2.sz
        rw [hash_len] at this
        exact this
      rcases two with ⟨e, e'⟩ | ⟨e, e'⟩
      · refine relay_n (s := { s with heap := h1 }) (M := 31) ho1 ⟨hex.1, hex.2.1, hex.2.2⟩ rfl hrow sz2 T2.dm (by rw [m2, b4]; omega) once1 key1 (by omega) (by rw [e', size_20]) (.inr (.inl rfl)) (by rw [e', size_20]; decide) (by omega) end_
      · refine relay_n (s := { s with heap := h1 }) (M := 127) ho1 ⟨hex.1, hex.2.1, hex.2.2⟩ rfl hrow sz2 T2.dm (by rw [m2, b4]; omega) once1 key1 (by omega) (by rw [e', size_76]) (.inr (.inr rfl)) (by rw [e', size_76]; decide) (by omega) end_
    · rw [full, decide_eq_false hf]
      refine wp_if_neg (fun z => nomatch z) ?_
      refine wpAny_pure (q true h1 L1 es1 (ep + 1) t2 sb ⟨⟨_, ho1, ⟨hex.1, hex.2.1, hex.2.2⟩, rfl⟩, hrow, T2, once1, key1, by omega, by omega⟩ (fun z => absurd z hm) fun _ => hpm)
  by_cases hpl : t1.plain = true
  · exact wp_if_pos hpl (wpAny_bind (hashQ k _ 8 s hx.1 _ _ _ fun b => go b _ rfl))
  · exact wp_if_neg hpl (wpAny_bind (wpAny_pure (go true _ rfl)))
end
end Lv

/-! set comprehensions: what the set is and what adding does is told by two readings -/
namespace Lv
open PySem PySem.Spec PyProof.Rows L2
/-- a new empty set's object -/
abbrev freshSet (w : World) : Obj := { cls := .type "set", dict := none, data := .set #[] 0 (.fresh 0 0 (!w.params.followText "set-order")) }
/-- set.add(D, y) does what Add says -/
def AddR (Y : Cx) (Add : V → Hp → Addr → (Hp → Prop) → Prop) : Prop := ∀ (pins : List (Addr × Obj)) (s : Shared) (σ : L2.St) (H : Hp) (D : Addr) (y : V) (u : Value) (N : Hp → Prop) (E : Value → Shared → Prop),
  L2.Inv Y pins σ H s → RelV y u → Add y H D N → wpAny (model Y.prog Y.w) Y.A (call (.builtin "set.add") [.ref D, u]) (fun _ s' => ∃ H', L2.Inv Y pins σ H' s' ∧ N H') E s
/-- {elt for target in iter if ..} -/
def tScG (new : Addr → HO) (Add : V → Hp → Addr → (Hp → Prop) → Prop) (wi : TI) (g : TG) (tt : TT) (te : TE) (vs : List Nat) : TE := fun σ H Q => wi σ H fun J H1 => ∀ D, H1 D = none → ∃ W : Nat → Nat → Hp → Prop, (∃ m, W 0 m (upd H1 D (new D))) ∧
  ∀ i m H, W i m H → (J.stop i H ∧ Q (.ref D) H) ∨ (J.go i H ∧ ∃ N : Hp → Prop, (∀ H', N H' → ∃ m', m' < m ∧ W (i + 1) m' H') ∧ ∀ x H', J.yld i H x H' → g x (wipe σ vs) H' fun σ2 H2 => wipe σ2 vs = wipe σ vs ∧ tt σ2 H2 fun b H3 => if b = true then te σ2 H3 fun y H4 => Add y H4 D N else N H3)
section
variable {X : Cx} {new : Addr → HO} {Add : V → Hp → Addr → (Hp → Prop) → Prop}
theorem pe_scG {elt tg iter : Expr} {ifs : List Expr} {scope : Scope} {own : List (PySem.Str × Nat)} {pos : Pos} {wi : TI} {g : TG} {tt : TT} {te : TE} (hnew : ∀ (H : Hp) (h : Heap), ObjOk X.prog X.w H (h.push (freshSet X.w)) h.objs.size (new h.objs.size))
    (ha : ∀ (s : Shared) (H : Hp) (ce : Env) (fp : List Addr), AddR (X.blk s H scope ce fp) Add) (calm : X.calm = true) (nd : X.N.Nodup) (hi : PI X tg iter wi) (ok : BlkOk X.N X.env.scope scope own)
    (hg : ∀ (s : Shared) (H : Hp) (C : Addr) (cl : List (PySem.Str × Addr)) (fp : List Addr), PG (X.blk s H scope (compEnvC scope cl C X.env) fp) tg g) (ht : ∀ (s : Shared) (H : Hp) (C : Addr) (cl : List (PySem.Str × Addr)) (fp : List Addr), PTs (X.blk s H scope (compEnvC scope cl C X.env) fp) ifs tt)
    (he : ∀ (s : Shared) (H : Hp) (C : Addr) (cl : List (PySem.Str × Addr)) (fp : List Addr), PE (X.blk s H scope (compEnvC scope cl C X.env) fp) elt te) (hs : ∀ x, foldedSetIterable iter X.env x = pure x := by intro _; rfl) :
    PE X (.SetComp elt [⟨tg, iter, ifs, 0⟩] scope pos) (tScG new Add wi g tt te (own.map (·.2))) := by
  refine ⟨fun pins sA σ HA Q IA wish => ?_⟩
  suffices main : ∀ Qf : Value → Shared → Prop, (∀ u s', (∃ v H', L2.Inv X pins σ H' s' ∧ RelV v u ∧ Q v H') → Qf u s') → wpAny (model X.prog X.w) X.A (eval (.SetComp elt [⟨tg, iter, ifs, 0⟩] scope pos) X.env) Qf X.xe sA from main _ fun _ _ h => h
  intro Qf hQf
  rw [PpSet.eval_SetComp]
  have cellsOk : ∀ y ∈ scope.names, y.2 = .free → ∃ c, X.env.cells.lookup y.1 = some c := fun y hy e => (ok.free y hy e).elim (fun z => IA.ok.has _ (.inl z)) fun z => IA.ok.has _ (.inr z)
  refine wpAny_comprehension_free rfl hs (closure_ok cellsOk) ok.kind (fun y hy e => by rw [ok.uniq y hy, e]) (thn (hi.run pins sA σ HA _ IA wish) fun xv sB hx => thn hx fun itv sC hC => ?_)
  obtain ⟨it, fp, tn, J, HC, rfl, IC, T, stC, fC, todo⟩ := hC
  refine PpSet.newSet_ok (newEnv_comp ?_)
  obtain ⟨D, eD⟩ : ∃ D, D = sC.heap.objs.size := ⟨_, rfl⟩
  have freeD : HC D = none := IC.hok.fresh (Nat.le_of_eq eD.symm)
  obtain ⟨W, ⟨m0, wm0⟩, turn⟩ := todo D freeD
  obtain ⟨sD, eSD⟩ : ∃ sD : Shared, sD = { sC with heap := sC.heap.push (freshSet X.w) } := ⟨_, rfl⟩
  obtain ⟨HD, eHD⟩ : ∃ HD, HD = upd HC D (new D) := ⟨_, rfl⟩
  have heapD : sD.heap = sC.heap.push (freshSet X.w) := by rw [eSD]
  have ID : L2.Inv X pins σ HD sD := by
    rw [eSD, eHD]
    refine IC.laid (t' := sC.toks) (fun b o e => Heap.get?_push_of_some _ e) (by rw [eD]; exact Nat.le_refl _) ?_
    rw [eD]
    exact hnew _ _
  have fpD : ∀ b ∈ fp, FpOk X pins HD b ∧ b < sD.heap.objs.size := fun b hb => by
    obtain ⟨o, e, _⟩ := T.obj _ _ stC b hb
    have lt := Heap.lt_size e
    refine ⟨⟨?_, (fC b hb).2⟩, by rw [heapD, Heap.size_push]; exact Nat.lt_succ_of_lt lt⟩
    rw [eHD, upd_ne (by rw [eD]; exact Nat.ne_of_lt lt)]
    exact (fC b hb).1
  have stD : tn 0 sD.heap := T.keep _ _ _ stC fun b _ o e => by rw [heapD]; exact Heap.get?_push_of_some _ e
  rw [← eHD] at wm0
  rw [← eD]
  show codeAny _ _ (.compStart (.SetComp elt [⟨tg, iter, ifs, 0⟩] scope pos) 0 (.ref it) (.ref D) (compEnvC scope (cellsFrom ((({ sC with heap := sC.heap.push (freshSet X.w) } : Shared)).heap.objs.size + 1) scope.names (cloFrom X.env.cells scope.names [])) (({ sC with heap := sC.heap.push (freshSet X.w) } : Shared)).heap.objs.size X.env)) (compPost (model X.prog X.w) X.A X.xe none Qf (.ref D) (({ sC with heap := sC.heap.push (freshSet X.w) } : Shared)).heap.objs.size) { ({ sC with heap := sC.heap.push (freshSet X.w) } : Shared) with heap := pushCells (({ sC with heap := sC.heap.push (freshSet X.w) } : Shared).heap.push { cls := .type "dict", data := .dict #[] }) scope.names }
  rw [← eSD]
  have IE := block_start ID ok nd fpD
  have pg := hg sD HD sD.heap.objs.size (cellsFrom (sD.heap.objs.size + 1) scope.names (cloFrom X.env.cells scope.names [])) fp
  have pt := ht sD HD sD.heap.objs.size (cellsFrom (sD.heap.objs.size + 1) scope.names (cloFrom X.env.cells scope.names [])) fp
  have pe := he sD HD sD.heap.objs.size (cellsFrom (sD.heap.objs.size + 1) scope.names (cloFrom X.env.cells scope.names [])) fp
  have none_ : ∀ b ∈ fp, HD b = none := fun b hb => (fpD b hb).1.1
  obtain ⟨ce, ece⟩ : ∃ ce, ce = compEnvC scope (cellsFrom (sD.heap.objs.size + 1) scope.names (cloFrom X.env.cells scope.names [])) sD.heap.objs.size X.env := ⟨_, rfl⟩
  have loc : ce.locals = sD.heap.objs.size := by rw [ece]; rfl
  rw [← ece] at IE pg pt pe ⊢
  obtain ⟨sE, eSE⟩ : ∃ sE : Shared, sE = { sD with heap := pushCells (sD.heap.push { cls := .type "dict", data := .dict #[] }) scope.names } := ⟨_, rfl⟩
  rw [← eSE] at IE ⊢
  have stE : tn 0 sE.heap := T.keep _ _ _ stD fun b _ o e => by rw [eSE]; exact pushCells_keeps _ _ _ _ (Heap.get?_push_of_some _ e)
  have fixed : ∀ {σ' : L2.St} {H' : Hp} {s' : Shared}, L2.Inv (X.blk sD HD scope ce fp) [] σ' H' s' → (∀ b ∈ fp, H' b = none) → ∀ b ∈ fp, FpOk (X.blk sD HD scope ce fp) [] H' b := fun {_ _ _} I' hn b hb =>
    ⟨hn b hb, (I'.ok.exf b hb).1, I'.ok.exfs b hb, .inl hb, fun x c e => (I'.ok.exf b hb).2 x c e, fun p hp => by cases hp⟩
  have loop : codeAny (model X.prog X.w) X.A (.compLoop (.SetComp elt [⟨tg, iter, ifs, 0⟩] scope pos) 0 (.ref it) (.ref D) ce) (compPost (model X.prog X.w) X.A X.xe none Qf (.ref D) sD.heap.objs.size) sE := by
    refine PpSet.compLoopS_any (fun n s' => ∃ i H', L2.Inv (X.blk sD HD scope ce fp) [] (wipe σ (own.map (·.2))) H' s' ∧ tn i s'.heap ∧ (∀ b ∈ fp, H' b = none) ∧ W i n H') (fun n sF hF => ?_) m0 ⟨0, HD, IE, stE, none_, wm0⟩
    obtain ⟨i, HF, IF, stF, nF, wF⟩ := hF
    rcases turn i n HF wF with ⟨stop, done⟩ | ⟨go, N, later, step⟩
    · refine thnF (T.done (X.blk sD HD scope ce fp) rfl rfl rfl calm i [] sF _ HF (fun _ _ => False) IF (fixed IF nF) stF stop) fun r sG hG => ?_
      obtain ⟨rfl, IG⟩ := hG
      have IH : L2.Inv X pins σ HF sG := ID.call' (ch := fp) IG.os IG.base IG.hok IG.bare fun b hb => ⟨(fpD b hb).1.2.2.2.1, (fpD b hb).1.2.1, (fpD b hb).1.2.2.2.2.1, (fpD b hb).1.2.2.2.2.2⟩
      have nloc : HF sD.heap.objs.size = none := loc ▸ (show HF ce.locals = none from IG.free)
      obtain ⟨mm, hns, _⟩ := IG.loc
      have hns' : sG.heap.Ns sD.heap.objs.size mm := loc ▸ (show sG.heap.Ns ce.locals mm from hns)
      obtain ⟨f0, f1, f2, f3, f4, f5⟩ := ID.fpOk (Nat.le_refl _) nloc
      exact ⟨mm, hns', fun h2 sb => hQf _ _ ⟨.ref D, HF, IH.turned (t' := sG.toks) (fun b o hb e => (sb.2 b hb).trans e) f0 f1 f3 f4 f5, rfl, done⟩⟩
    · refine thnF (T.item (X.blk sD HD scope ce fp) rfl rfl rfl calm i [] sF _ HF (fun _ _ => False) IF (fixed IF nF) stF go) fun r sG hG => ?_
      obtain ⟨u, rfl, hG⟩ := hG
      refine thnF hG fun _ sH hH => ?_
      obtain ⟨x, HH, IH, rx, yx, stH, nH⟩ := hH
      refine thnF (pg.run _ sH _ HH x u _ (IH.pinned (fixed IH nH) (T.obj _ _ stH)) rx (step x HH yx)) fun _ sI hI => ?_
      obtain ⟨σI, HI, II, wI, qI⟩ := hI
      refine thnF (pt.run _ sI σI HI _ II qI) fun b sJ hJ => ?_
      obtain ⟨HJ, IJ, qJ⟩ := hJ
      have next : ∀ {s' : Shared} {H' : Hp}, L2.Inv (X.blk sD HD scope ce fp) ([] ++ pinsAt fp sH.heap) σI H' s' → N H' → ∃ m, m < n ∧ ∃ i H', L2.Inv (X.blk sD HD scope ce fp) [] (wipe σ (own.map (·.2))) H' s' ∧ tn i s'.heap ∧ (∀ b ∈ fp, H' b = none) ∧ W i m H' := fun {s' H'} I' hN => by
        obtain ⟨m', lt, w'⟩ := later H' hN
        have pinned : ∀ b ∈ fp, ∀ o, sH.heap.get? b = some o → s'.heap.get? b = some o ∧ H' b = none := fun b hb o e => by
          have z := I'.pin (b, o) (List.mem_append_right _ (List.mem_append_right _ (mem_pinsAt hb e)))
          exact ⟨z.1, z.2.1⟩
        refine ⟨m', lt, i + 1, H', (I'.unpinned (pins := [])).weak (by rw [← wI, wipe_length]) (fun j v e => ?_), T.keep _ _ _ stH fun b hb o e => (pinned b hb o e).1, fun b hb => ?_, w'⟩
        · rw [← wI] at e
          exact (wipe_some e).1
        · obtain ⟨o, e, _⟩ := T.obj _ _ stH b hb
          exact (pinned b hb o e).2
      cases b with
      | false =>
        rw [if_neg Bool.false_ne_true] at qJ ⊢
        exact next IJ qJ
      | true =>
        rw [if_pos rfl] at qJ ⊢
        refine thnF (pe.run _ sJ σI HJ _ IJ qJ) fun z sK hK => ?_
        obtain ⟨yv, HK, IK, rK, aK⟩ := hK
        refine wpAny_mono (ha sD HD ce fp _ sK σI HK D yv z N _ IK rK aK) (fun _ sL hL => ?_) fun _ _ e => e
        obtain ⟨HL, IL, nL⟩ := hL
        exact next IL nL
  exact PpSet.codeAny_compStart_set loop (T.self X.A 0 _ _ _ stE loop)
end
end Lv

/-! sets of nested tuples as tracked things; set comprehensions of them, len -/
namespace Lv
open PySem PySem.Spec PyProof.Rows L2
mutual
/-- the value is the nested key -/
inductive NkV (K : PySem.W.Frag) (H : Hp) : NestedKey → V → Prop
  | int (i : Int) : NkV K H (.num i) (.int i)
  | str (z : Str) : NkV K H (.text z) (.str z)
  | tup {a : Addr} {xs : List V} {ks : List NestedKey} : SqT K H a xs → NkAll K H ks xs → NkV K H (.tup ks) (.ref a)
inductive NkAll (K : PySem.W.Frag) (H : Hp) : List NestedKey → List V → Prop
  | nil : NkAll K H [] []
  | cons {k : NestedKey} {v : V} {ks : List NestedKey} {vs : List V} : NkV K H k v → NkAll K H ks vs → NkAll K H (k :: ks) (v :: vs)
end
mutual
theorem NkV.mono {K : PySem.W.Frag} {H H' : Hp} (t : ∀ a xs, SqT K H a xs → SqT K H' a xs) : ∀ {k : NestedKey} {v : V}, NkV K H k v → NkV K H' k v
  | _, _, .int i => .int i
  | _, _, .str z => .str z
  | _, _, .tup h r => .tup (t _ _ h) (NkAll.mono t r)
theorem NkAll.mono {K : PySem.W.Frag} {H H' : Hp} (t : ∀ a xs, SqT K H a xs → SqT K H' a xs) : ∀ {ks : List NestedKey} {vs : List V}, NkAll K H ks vs → NkAll K H' ks vs
  | _, _, .nil => .nil
  | _, _, .cons h r => .cons (NkV.mono t h) (NkAll.mono t r)
end
section
variable {X : Cx} {pins : List (Addr × Obj)} {σ : L2.St} {H : Hp} {s : Shared}
mutual
theorem nk_is (I : L2.Inv X pins σ H s) : ∀ {k : NestedKey} {v : V} {u : Value}, NkV X.K H k v → RelV v u → NestedIs s.heap k u
  | _, _, _, .int i, r => by obtain ⟨t, rfl⟩ := r; exact .int _ _
  | _, _, _, .str z, r => by obtain ⟨t, rfl⟩ := r; exact .text _ _
  | _, _, _, .tup h a, r => by
    cases r
    obtain ⟨its, rv, ⟨o, ho, hc, n, hd⟩, _⟩ := I.tuple h
    exact .tup ho hc hd (by simpa using nks_are I a rv)
theorem nks_are (I : L2.Inv X pins σ H s) : ∀ {ks : List NestedKey} {vs : List V} {us : List Value}, NkAll X.K H ks vs → Vals vs us → NestedAll s.heap ks us
  | _, _, _, .nil, r => by cases r; exact .nil
  | _, _, _, .cons h a, r => by
    cases r with
    | cons r1 r2 => exact .cons (nk_is I h r1) (nks_are I a r2)
end
end
/-- the key stands at b -/
def KeyAt (K : PySem.W.Frag) (H : Hp) (k : NestedKey) (b : Addr) : Prop := NkV K H k (.ref b) ∧ k.depth ≤ 8
theorem KeyAt.mono {K : PySem.W.Frag} {H H' : Hp} {k : NestedKey} {b : Addr} (t : ∀ a xs, SqT K H a xs → SqT K H' a xs) (h : KeyAt K H k b) : KeyAt K H' k b := ⟨h.1.mono t, h.2⟩
/-- the set at a, its members aside -/
def Set0 (w : World) (h : Heap) (a : Addr) (L : Mems) : Prop := ∃ (es : Array (Int × Value)) (ep : Nat) (t : SetTable), (∃ o, h.get? a = some o ∧ o.ExactSet ∧ o.data = .set es ep t) ∧ es.toList = rowN w L ∧ TabOk t (hashN w L) ∧ (L.map (·.1)).Nodup ∧ L.length * 5 < t.mask * 3 ∧ L.length < 64
def SetNO (w : World) (a : Addr) (L : Mems) : HO := .ext fun h => Set0 w h a L
theorem Set0.full {P : Program} {w : World} {h : Heap} {a : Addr} {L : Mems} (R : Set0 w h a L) (k : ∀ p ∈ L, (NK P w).is h p.1 p.2) : ∃ es ep t, SetN P w h a L es ep t := by
  obtain ⟨es, ep, t, h1, h2, h3, h4, h5, h6⟩ := R
  exact ⟨es, ep, t, h1, h2, h3, h4, k, h5, h6⟩
theorem SetN.set0 {P : Program} {w : World} {h : Heap} {a : Addr} {L : Mems} {es : Array (Int × Value)} {ep : Nat} {t : SetTable} (R : SetN P w h a L es ep t) : Set0 w h a L := ⟨es, ep, t, R.obj, R.row, R.tab, R.once, R.free, R.small⟩
theorem setNO_ok {P : Program} {w : World} {H : Hp} {h : Heap} {a : Addr} {L : Mems} (R : Set0 w h a L) : ObjOk P w H h a (SetNO w a L) := by
  obtain ⟨es, ep, t, ⟨o, ho, r⟩, q⟩ := id R
  refine ⟨R, ⟨o, ho⟩, fun h1 h2 p k => ?_⟩
  obtain ⟨es', ep', t', ⟨o', ho', r'⟩, q'⟩ := (show Set0 w h1 a L from p)
  exact ⟨es', ep', t', ⟨o', k o' ho', r'⟩, q'⟩
theorem setNO_new (P : Program) (w : World) (H : Hp) (h : Heap) : ObjOk P w H (h.push (freshSet w)) h.objs.size (SetNO w h.objs.size []) := by
  refine setNO_ok ⟨#[], 0, _, ⟨_, Heap.get?_push_size _ rfl, ⟨rfl, rfl, rfl⟩, rfl⟩, rfl, ?_, List.nodup_nil, (show 0 * 5 < 7 * 3 by decide), by decide⟩
  refine ⟨?_, rfl, rfl, .inl rfl, (fun x hx => nomatch hx), (fun i x j e => nomatch e)⟩
  show List.Pairwise _ []
  exact List.Pairwise.nil
/-- set.add of a nested tuple -/
def AddN (K : PySem.W.Frag) (w : World) : V → Hp → Addr → (Hp → Prop) → Prop := fun y H D N => ∃ (b : Addr) (k : NestedKey) (L : Mems), y = .ref b ∧ KeyAt K H k b ∧ H D = some (SetNO w D L) ∧ (∀ p ∈ L, KeyAt K H p.1 p.2) ∧ L.length + 1 < 64 ∧
  ∀ L' : Mems, (k ∈ L.map (·.1) → L' = L) → (k ∉ L.map (·.1) → L'.Perm ((k, b) :: L)) → N (upd H D (SetNO w D L'))
theorem addR_n {Y : Cx} (hu : Y.A.units + 16 < cLine) : AddR Y (AddN Y.K Y.w) := by
  intro pins s σ H D y u N E I ry h
  obtain ⟨b, k, L, rfl, hk, hD, hL, more, q⟩ := h
  cases ry
  have isK : ∀ {k : NestedKey} {b : Addr}, KeyAt Y.K H k b → (NK Y.prog Y.w).is s.heap k b := fun h => ⟨nk_is I h.1 rfl, h.2⟩
  obtain ⟨es, ep, t, R⟩ := Set0.full (P := Y.prog) (show Set0 Y.w s.heap D L from (I.hok D _ hD).1) fun p hp => isK (hL p hp)
  obtain ⟨o, ho, hex, hd⟩ := R.obj
  refine wpAny_call_entry (T := "set") F.slot_set_add ⟨o, ho, hex.1⟩ F.entry_set_add ?_ (F.args_set_add_2 _ _)
  unfold Builtin.«set.add» Builtin.Frozenset.oneOther
  simp only [List.isEmpty_nil, bind_assoc]
  unfold Builtin.Frozenset.addrOf setAdd
  refine wpAny_bind (wpAny_pure (wpAny_bind (wpAny_pure (wpAny_bind (wpAny_holding (wpAny_bind ((NK Y.prog Y.w).pyHash (show Y.A.in1.units + 8 < cLine by rw [Around.in1_units]; omega) (isK hk) ?_)))))))
  refine add_n (s := { s with toks := s.toks + k.draws }) (k := k) ⟨R.obj, R.row, R.tab, R.once, R.key, R.free, R.small⟩ (isK hk) (show Y.A.in1.units + 8 < cLine by rw [Around.in1_units]; omega) more fun c h' L' es' ep' t' sb R' l1 l2 => ?_
  show wpAny _ _ (ret Value.none) _ _ _
  refine wpAny_pure ⟨_, rfl, upd H D (SetNO Y.w D L'), ?_, q L' l1 l2⟩
  obtain ⟨o', ho', _⟩ := R'.obj
  exact I.write (e := D) (t' := s.toks + k.draws) (by rw [hD]; trivial) (.inl rfl) (fun b u hb hu => (sb.2 b hb).trans hu) ⟨o', ho'⟩ (setNO_ok R'.set0)
/-- len of such a set -/
def rLenN (w : World) : List V → Hp → VK → Prop := fun xs H Q => ∃ (a : Addr) (L : Mems), xs = [.ref a] ∧ H a = some (SetNO w a L) ∧ Q (.int L.length) H
theorem call_lenN {X : Cx} : CallR X (.builtin "len") (rLenN X.w) := by
  intro pins s σ H xs us Q I r h
  obtain ⟨a, L, rfl, ha, q⟩ := h
  obtain ⟨u, rfl, ru⟩ := r.one
  cases (show u = Value.ref a from ru)
  obtain ⟨es, ep, t, ⟨o, ho, hex, hd⟩, hr, hT, _, hf, hs⟩ := (show Set0 X.w s.heap a L from (I.hok a _ ha).1)
  have hl : es.size = L.length := by rw [← Array.length_toList, hr, row_len]
  have sz := hT.sz
  rw [hash_len] at sz
  refine call_len_set ho hex hd (fits_of (by omega) hT.dm (by omega)) (by omega) ⟨.int L.length, H, I.tok _, ⟨s.toks + 1, by rw [hl]⟩, q⟩
end Lv

/-! set comprehensions walked: the members' keys -/
namespace Lv
open PySem PySem.Spec PyProof.Rows L2
/-- the body of a set comprehension's reading, behind what it walks -/
def ScB (new : Addr → HO) (Add : V → Hp → Addr → (Hp → Prop) → Prop) (J : It) (g : TG) (tt : TT) (te : TE) (vs : List Nat) (σ : L2.St) (Q : VK) (H1 : Hp) : Prop := ∀ D, H1 D = none → ∃ W : Nat → Nat → Hp → Prop, (∃ m, W 0 m (upd H1 D (new D))) ∧
  ∀ i m H, W i m H → (J.stop i H ∧ Q (.ref D) H) ∨ (J.go i H ∧ ∃ N : Hp → Prop, (∀ H', N H' → ∃ m', m' < m ∧ W (i + 1) m' H') ∧ ∀ x H', J.yld i H x H' → g x (wipe σ vs) H' fun σ2 H2 => wipe σ2 vs = wipe σ vs ∧ tt σ2 H2 fun b H3 => if b = true then te σ2 H3 fun y H4 => Add y H4 D N else N H3)
theorem tSc_eq {new : Addr → HO} {Add : V → Hp → Addr → (Hp → Prop) → Prop} {wi : TI} {g : TG} {tt : TT} {te : TE} {vs : List Nat} {σ : L2.St} {H : Hp} {Q : VK} : tScG new Add wi g tt te vs σ H Q = wi σ H fun J H1 => ScB new Add J g tt te vs σ Q H1 := rfl
section
variable {new : Addr → HO} {Add : V → Hp → Addr → (Hp → Prop) → Prop} {J : It} {n : Nat} {G : Hp → Prop} {Y : Nat → Hp → V → Hp → Prop} {g : TG} {tt : TT} {te : TE} {vs : List Nat} {σ : L2.St} {H1 : Hp} {Q : VK}
theorem sc_it (w : Walk J n G Y) (Pv : Addr → Nat → Hp → Prop) (h0 : ∀ D, H1 D = none → Pv D 0 (upd H1 D (new D))) (hG : ∀ D i H, i ≤ n → Pv D i H → G H)
    (hs : ∀ D i x H H', H1 D = none → i < n → Pv D i H → Y i H x H' → g x (wipe σ vs) H' fun σ2 H2 => wipe σ2 vs = wipe σ vs ∧ tt σ2 H2 fun b H3 => if b = true then te σ2 H3 fun y H4 => Add y H4 D (Pv D (i + 1)) else Pv D (i + 1) H3)
    (hd : ∀ D H, H1 D = none → Pv D n H → Q (.ref D) H) : ScB new Add J g tt te vs σ Q H1 := by
  intro D hD
  refine ⟨fun i m H => m = n - i ∧ i ≤ n ∧ Pv D i H, ⟨n, rfl, Nat.zero_le _, h0 D hD⟩, fun i m H h => ?_⟩
  obtain ⟨rfl, hi, p⟩ := h
  by_cases e : i = n
  · subst e
    exact .inl ⟨w.stops H (hG D _ H hi p), hd D H hD p⟩
  · have lt : i < n := by omega
    exact .inr ⟨w.goes i H lt (hG D i H hi p), Pv D (i + 1), fun H' p' => ⟨n - (i + 1), by omega, rfl, by omega, p'⟩, fun x H' y => hs D i x H H' hD lt p (w.yields i H x H' lt (hG D i H hi p) y)⟩
/-- the members of a set of nested tuples: their keys are those of the elements -/
structure Keys (kf : Nat → NestedKey) (i : Nat) (L : Mems) : Prop where
  sub : ∀ p ∈ L, ∃ j, j < i ∧ kf j = p.1
  all : ∀ j, j < i → kf j ∈ L.map (·.1)
  once : (L.map (·.1)).Nodup
theorem Keys.zero {kf : Nat → NestedKey} : Keys kf 0 [] := ⟨(fun p h => nomatch h), (fun j h => absurd h (Nat.not_lt_zero j)), List.nodup_nil⟩
theorem Keys.next {kf : Nat → NestedKey} {i : Nat} {L L' : Mems} {b : Addr} (k : Keys kf i L) (h1 : kf i ∈ L.map (·.1) → L' = L) (h2 : kf i ∉ L.map (·.1) → L'.Perm ((kf i, b) :: L)) : Keys kf (i + 1) L' := by
  by_cases h : kf i ∈ L.map (·.1)
  · rw [h1 h]
    refine ⟨fun p hp => let ⟨j, lt, e⟩ := k.sub p hp; ⟨j, by omega, e⟩, fun j hj => ?_, k.once⟩
    by_cases e : j = i
    · rw [e]
      exact h
    · exact k.all j (by omega)
  · have pm := h2 h
    have pk := pm.map (·.1)
    refine ⟨fun p hp => ?_, fun j hj => ?_, pk.nodup_iff.mpr (List.nodup_cons.mpr ⟨h, k.once⟩)⟩
    · rcases List.mem_cons.mp (pm.mem_iff.mp hp) with rfl | hp
      · exact ⟨i, by omega, rfl⟩
      · obtain ⟨j, lt, e⟩ := k.sub p hp
        exact ⟨j, by omega, e⟩
    · refine pk.mem_iff.mpr ?_
      by_cases e : j = i
      · rw [e]
        exact .head _
      · exact .tail _ (k.all j (by omega))
theorem Keys.len {kf : Nat → NestedKey} {i : Nat} {L : Mems} (k : Keys kf i L) : L.length ≤ i := by
  have h : ∀ (l : List NestedKey) (m : List Nat), l.Nodup → (∀ x ∈ l, ∃ j ∈ m, kf j = x) → l.length ≤ m.length := by
    intro l
    induction l with
    | nil => intro m _ _; exact Nat.zero_le _
    | cons x l ih =>
      intro m nd h
      obtain ⟨nx, nl⟩ := List.nodup_cons.mp nd
      obtain ⟨j, hj, ej⟩ := h x (.head _)
      have := ih (m.erase j) nl fun y hy => by
        obtain ⟨j', hj', e'⟩ := h y (.tail _ hy)
        refine ⟨j', (List.mem_erase_of_ne fun e => ?_).mpr hj', e'⟩
        rw [e, ej] at e'
        rw [e'] at nx
        exact nx hy
      rw [List.length_erase_of_mem hj] at this
      have pos := List.length_pos_of_mem hj
      rw [List.length_cons]
      omega
  have := h (L.map (·.1)) (List.range i) k.once fun x hx => by
    obtain ⟨p, hp, rfl⟩ := List.mem_map.mp hx
    obtain ⟨j, lt, e⟩ := k.sub p hp
    exact ⟨j, List.mem_range.mpr lt, e⟩
  rw [List.length_map, List.length_range] at this
  exact this
theorem sqt_ext {K : PySem.W.Frag} {H : Hp} {D a : Addr} {φ : Heap → Prop} {o : HO} {xs : List V} (hD : H D = some (.ext φ)) (h : SqT K H a xs) : SqT K (upd H D o) a xs := by
  rcases h with (h | ⟨u, h⟩) | h
  · refine .inl (.inl ?_)
    rw [upd_ne fun e => by rw [e, hD] at h; cases h]
    exact h
  · refine .inl (.inr ⟨u, ?_⟩)
    rw [upd_ne fun e => by rw [e, hD] at h; cases h]
    exact h
  · exact .inr h
theorem sc_nest {K : PySem.W.Frag} {wd : World} (w : Walk J n G Y) (kf : Nat → NestedKey) (hn : n < 63) (hG : ∀ H, Same H1 H → G H)
    (hs : ∀ i x H H', i < n → Same H1 H → Y i H x H' → ∀ R : VK, (∀ b H4, Same H H4 → KeyAt K H4 (kf i) b → R (.ref b) H4) → g x (wipe σ vs) H' fun σ2 H2 => wipe σ2 vs = wipe σ vs ∧ tt σ2 H2 fun b H3 => b = true ∧ te σ2 H3 R)
    (mono : ∀ (x : V) (σ' : L2.St) (H' : Hp) (A B : L2.St → Hp → Prop), (∀ s h, A s h → B s h) → g x σ' H' A → g x σ' H' B)
    (monoT : ∀ (σ' : L2.St) (H' : Hp) (A B : Bool → Hp → Prop), (∀ b h, A b h → B b h) → tt σ' H' A → tt σ' H' B)
    (hd : ∀ H D L, Same H1 H → H1 D = none → H D = some (SetNO wd D L) → Keys kf n L → Q (.ref D) H) : ScB (fun a => SetNO wd a []) (AddN K wd) J g tt te vs σ Q H1 := by
  have sq : ∀ {H H' : Hp} {a : Addr} {xs : List V}, Same H H' → SqT K H a xs → SqT K H' a xs := fun s h => Evl.ex_t s h
  refine sc_it w (fun D i H => Same H1 H ∧ ∃ L : Mems, H D = some (SetNO wd D L) ∧ Keys kf i L ∧ ∀ p ∈ L, KeyAt K H p.1 p.2) (fun D hD => ⟨same_new hD, [], upd_same, .zero, (fun p h => nomatch h)⟩) (fun D i H _ h => hG H h.1) ?_ (fun D H hD h => let ⟨s, L, f, k, _⟩ := h; hd H D L s hD f k)
  rintro D i x H H' hD hi ⟨hS, L, hL, hK, hA⟩ hy
  have := hs i x H H' hi hS hy (fun y H4 => AddN K wd y H4 D fun H => Same H1 H ∧ ∃ L : Mems, H D = some (SetNO wd D L) ∧ Keys kf (i + 1) L ∧ ∀ p ∈ L, KeyAt K H p.1 p.2) (fun b H4 s4 kb => ?_)
  · refine mono _ _ _ _ _ ?_ this
    rintro s h ⟨e, h2⟩
    refine ⟨e, monoT _ _ _ _ ?_ h2⟩
    rintro b h3 ⟨rfl, h4⟩
    rw [if_pos rfl]
    exact h4
  · have hD4 := s4 _ _ hL
    have up : ∀ {L' : Mems} {p : NestedKey × Addr}, KeyAt K H4 p.1 p.2 → KeyAt K (upd H4 D (SetNO wd D L')) p.1 p.2 := fun h => h.mono fun a xs t => sqt_ext hD4 t
    have old : ∀ p ∈ L, KeyAt K H4 p.1 p.2 := fun p hp => (hA p hp).mono fun a xs t => sq s4 t
    refine ⟨b, kf i, L, rfl, kb, hD4, old, by have := hK.len; omega, fun L' h1 h2 => ⟨same_mut (hS.trans s4) hD, L', upd_same, hK.next h1 h2, fun p hp => up ?_⟩⟩
    by_cases h : kf i ∈ L.map (·.1)
    · rw [h1 h] at hp
      exact old p hp
    · rcases List.mem_cons.mp ((h2 h).mem_iff.mp hp) with rfl | hp
      · exact kb
      · exact old p hp
/-- how many members: as many as elements just if no key comes twice -/
theorem Keys.count {kf : Nat → NestedKey} {n : Nat} {L : Mems} (k : Keys kf n L) : (L.length = n) ↔ ((List.range n).map kf).Nodup := by
  have same : ∀ x, x ∈ L.map (·.1) ↔ x ∈ (List.range n).map kf := fun x => by
    constructor
    · intro hx
      obtain ⟨p, hp, rfl⟩ := List.mem_map.mp hx
      obtain ⟨j, lt, e⟩ := k.sub p hp
      exact List.mem_map.mpr ⟨j, List.mem_range.mpr lt, e⟩
    · intro hx
      obtain ⟨j, hj, rfl⟩ := List.mem_map.mp hx
      exact k.all j (List.mem_range.mp hj)
  have ge : ∀ {l m : List NestedKey}, l.Nodup → (∀ x ∈ l, x ∈ m) → l.length ≤ m.length := by
    intro l
    induction l with
    | nil => intro m _ _; exact Nat.zero_le _
    | cons x l ih =>
      intro m nd h
      obtain ⟨nx, nl⟩ := List.nodup_cons.mp nd
      have hx := h x (.head _)
      have := ih (m := m.erase x) nl fun y hy => (List.mem_erase_of_ne (show y ≠ x from fun e => nx (e ▸ hy))).mpr (h y (.tail _ hy))
      rw [List.length_erase_of_mem hx] at this
      have pos := List.length_pos_of_mem hx
      rw [List.length_cons]
      omega
  have lm : ((List.range n).map kf).length = n := by simp
  constructor
  · intro e
    have small : ∀ (m : List NestedKey), (∀ x ∈ L.map (·.1), x ∈ m) → m.length ≤ L.length → m.Nodup := by
      have key : ∀ (l m : List NestedKey), l.Nodup → (∀ x ∈ l, x ∈ m) → m.length ≤ l.length → m.Nodup := by
        intro l
        induction l with
        | nil =>
          intro m _ _ h
          rw [List.length_eq_zero_iff.mp (Nat.le_zero.mp h)]
          exact List.nodup_nil
        | cons x l ih =>
          intro m nd h hl
          obtain ⟨nx, nl⟩ := List.nodup_cons.mp nd
          have hx := h x (.head _)
          have r := ih (m.erase x) nl (fun y hy => (List.mem_erase_of_ne (show y ≠ x from fun e => nx (e ▸ hy))).mpr (h y (.tail _ hy))) (by rw [List.length_erase_of_mem hx]; rw [List.length_cons] at hl; omega)
          have pm := List.perm_cons_erase hx
          refine pm.nodup_iff.mpr (List.nodup_cons.mpr ⟨fun hm => ?_, r⟩)
          have := ge (l := x :: l) (m := m.erase x) nd fun y hy => by
            rcases List.mem_cons.mp hy with rfl | hy
            · exact hm
            · exact (List.mem_erase_of_ne (show y ≠ x from fun e => nx (e ▸ hy))).mpr (h y (.tail _ hy))
          rw [List.length_erase_of_mem hx] at this
          have pos := List.length_pos_of_mem hx
          omega
      exact fun m h hl => key (L.map (·.1)) m k.once h (by rw [List.length_map]; exact hl)
    exact small _ (fun x hx => (same x).mp hx) (by rw [lm, e]; exact Nat.le_refl _)
  · intro nd
    have h1 := ge k.once fun x hx => (same x).mp hx
    have h2 := ge nd fun x hx => (same x).mpr hx
    rw [List.length_map] at h1 h2
    rw [List.length_map, List.length_range] at h1 h2
    omega
end
end Lv

/-! sorted of tuples and lists of nested data -/
namespace Lv
open PySem PySem.Spec PyProof.Rows L2 PySem.W PySem.Calls
section
variable {P : Program} {w : World} {A : Around} {E : Value → Shared → Prop} {s : Shared}
/-- the items of a tuple, collected -/
theorem collect_tp {l : Addr} {vs : List Value} {Q : List Value → Shared → Prop} (hl : s.heap.IsTuple l vs.toArray) (hz : vs.length ≤ sizeLine)
    (q : Q vs { s with heap := (s.heap.push (seqObj "list" #[] 0)).update s.heap.objs.size (Obj.mapSeq (· ++ vs.toArray)) }) : wpAny (model P w) A (collect (.ref l)) Q E s := by
  obtain ⟨o, hg, hc, n, hd⟩ := hl
  unfold collect
  refine wpAny_bind (wpAny_runValue (codeAny_builtin entry_proto_collect' ?_))
  show wpAny _ _ (do again (.builtin "list.__iadd__" ⟨[← newList [], .ref l], []⟩)) _ _ s
  refine wpAny_bind (wpAny_newList (wpAny_pure ⟨Code.quiet_builtin _ (by decide +kernel), codeAny_builtin entry_list_iadd' ?_⟩) (Nat.zero_le _))
  show wpAny _ _ (Builtin.List.listExtendWith (.ref s.heap.objs.size) (.ref l) (.ref s.heap.objs.size)) _ _ { s with heap := s.heap.push (seqObj "list" #[] 0) }
  unfold Builtin.List.listExtendWith
  have hg1 : (s.heap.push (seqObj "list" #[] 0)).get? l = some o := Heap.get?_push_of_some _ hg
  refine wpAny_bind (wpAny_typeOf (T := "tuple") ⟨o, hg1, hc⟩ ?_)
  have yes : (Value.type "tuple" == Value.type "tuple") = true := by rfl
  rw [if_pos (by rw [yes]; simp)]
  refine wpAny_bind (listItems_at hg1 hd (wpAny_bind (listItems_at (xs := #[]) (n := 0) (Heap.get?_push_size _ rfl) rfl ?_)))
  rw [if_neg (by simp)]
  refine wpAny_bind (listUpdate_at (xs := #[]) (n := 0) (Heap.get?_push_size _ rfl) rfl (wpAny_pure ?_) (Nat.zero_le _) (by show (#[] ++ vs.toArray).size ≤ sizeLine + 1; simp; omega))
  show wpAny (model P w) A (do
      let o ← load s.heap.objs.size
      match o.data with
      | .seq xs _ => pure xs.toList
      | _ => unsupported "internal:collect") Q E { s with heap := (s.heap.push (seqObj "list" #[] 0)).update s.heap.objs.size (Obj.mapSeq (· ++ vs.toArray)) }
  refine wpAny_bind (wpAny_load (get?_update_seq (Heap.get?_push_size _ rfl) _) ?_)
  show wpAny _ _ (pure ((#[] : Array Value) ++ vs.toArray).toList) Q E _
  rw [show ((#[] : Array Value) ++ vs.toArray).toList = vs by simp]
  exact wpAny_pure q
/-- sorted(tuple, ..) is list.sort(..) of a new list of its items -/
theorem sortT_of {l : Addr} {vs : List Value} {kw : List (Str × Value)} {Q : Value → Shared → Prop} (hl : s.heap.IsTuple l vs.toArray) (hz : vs.length ≤ sizeLine) (a1 : argsOk "sorted" ⟨[.ref l], kw⟩) (a2 : ∀ x, argsOk "list.sort" ⟨[.ref x], kw⟩)
    (body : ∀ E1 : Value → Shared → Prop, wpAny (model P w) A.in1.in1 (Builtin.«list.sort» ⟨[.ref (s.heap.objs.size + 1)], kw⟩) (fun f s1 => f = .done (.ret .none) ∧ Q (.ref (s.heap.objs.size + 1)) s1) E1 { s with heap := copyHeap s.heap vs }) :
    wpAny (model P w) A (call (.builtin "sorted") [.ref l] kw) Q E s := by
  refine call_function_entry_kw kind_sorted plain_sorted entry_sorted a1 ?_
  unfold Builtin.«sorted»
  refine wpAny_bind (m := checkCount "sorted" 1 1 _) (wpAny_pure (wpAny_bind (collect_tp hl hz (wpAny_bind (wpAny_newList ?_ hz)))))
  have at_ : ((s.heap.push (seqObj "list" #[] 0)).update s.heap.objs.size (Obj.mapSeq (· ++ vs.toArray))).objs.size = s.heap.objs.size + 1 := by rw [Heap.size_update, size_push']
  show wpAny _ _ _ _ _ { s with heap := copyHeap s.heap vs }
  rw [at_]
  refine wpAny_bind (wpAny_holding (wpAny_call_entry_kw slot_list_sort ⟨_, copyHeap_at s.heap vs, rfl⟩ entry_list_sort ?_ (a2 _)))
  refine wpAny_mono (body _) (fun f s1 h => ?_) fun _ _ e => e
  obtain ⟨rfl, h⟩ := h
  exact ⟨_, rfl, wpAny_pure ⟨_, rfl, h⟩⟩
end
/-- values and what they read as, in the order of the data -/
def sortP (ps : List (V × PyData)) : List (V × PyData) := ps.mergeSort (dataLe false (·.2))
/-- sorted(xs), xs a tuple or a list of alike data -/
def rSortD (K : PySem.W.Frag) : List V → Hp → VK → Prop := fun xs H Q => ∃ (a : Addr) (ps : List (V × PyData)), xs = [.ref a] ∧ (SqL K H a (ps.map (·.1)) ∨ SqT K H a (ps.map (·.1))) ∧ (∀ p ∈ ps, Dp K H p.1 p.2 ∧ p.2.depth ≤ 8) ∧ AllAlike (ps.map (·.2)) ∧ Sortable (ps.map (·.2)) ∧
  ∀ p, H p = none → Q (.ref p) (upd H p (.lst ((sortP ps).map (·.1))))
theorem vals_each : ∀ {ps : List (V × PyData)} {us : List Value}, Vals (ps.map (·.1)) us → EachIs (fun u p => RelV p.1 u) us ps
  | [], _, .nil => .nil
  | _ :: _, _, .cons r t => .cons r (vals_each t)
theorem each_vals : ∀ {ps : List (V × PyData)} {us : List Value}, EachIs (fun u p => RelV p.1 u) us ps → Vals (ps.map (·.1)) us
  | _, _, .nil => .nil
  | _, _, .cons r t => .cons r (each_vals t)
theorem cr_sortD {X : Cx} (hu : X.A.units + 16 < cLine) : CallR X (.builtin "sorted") (rSortD X.K) := by
  intro pins s σ H xs us Q I r h
  obtain ⟨a, ps, rfl, hs, hd, al, so, q⟩ := h
  obtain ⟨u, rfl, ru⟩ := r.one
  cases (show u = Value.ref a from ru)
  have main : ∀ (vs : List Value), Vals (ps.map (·.1)) vs → ps.length ≤ sizeLine → (s.heap.IsList a vs.toArray ∨ s.heap.IsTuple a vs.toArray) → wpAny (model X.prog X.w) X.A (call (.builtin "sorted") [.ref a]) (EP X pins σ Q) X.xe s := by
    intro vs rv hz hl
    have e := vals_each rv
    have er : EachIs (fun v (b : V × PyData) => ∃ as, Reads s.heap v b.2 as) vs ps := by
      have : EachIs (fun v (b : V × PyData) => RelV b.1 v ∧ b ∈ ps) vs ps := each_mem e
      exact this.mono fun v b hb => Dp.reads I _ _ _ (hd b hb.2).1 hb.1
    have bound : ∀ b ∈ ps, X.A.units + 2 + b.2.depth < cLine := fun b hb => by have := (hd b hb).2; omega
    have fin : ∀ out : List Value, out.length = ps.length → EachIs (fun u (p : V × PyData) => RelV p.1 u) out (ps.mergeSort (dataLe false (·.2))) → EP X pins σ Q (.ref (s.heap.objs.size + 1)) { s with heap := sortedAll s.heap vs (List.toArray out) } := by
      intro out ho eo
      have vo : Vals ((sortP ps).map (·.1)) out := each_vals eo
      have free : H (s.heap.objs.size + 1) = none := I.hok.fresh (Nat.le_succ _)
      obtain ⟨c, hc⟩ := sortedAll_at s.heap vs (List.toArray out)
      refine ⟨.ref (s.heap.objs.size + 1), upd H (s.heap.objs.size + 1) (.lst ((sortP ps).map (·.1))), I.laid (t' := s.toks) (fun b o e => sortedAll_old e) (Nat.le_succ _) ⟨?_, out, c, vo, hc⟩, rfl, q _ free⟩
      rw [vo.length, ho]
      exact hz
    rcases hl with hl | hl
    · exact sorted_data (enc := fun b : V × PyData => b.2) hl e er al so hz bound fin
    · have er1 : EachIs (fun v (b : V × PyData) => ∃ as, Reads (sortingHeap (copyHeap s.heap vs) (s.heap.objs.size + 1) vs) v b.2 as) vs ps := er.mono fun _ _ h => let ⟨as, r⟩ := h; ⟨as, Reads.keeps (fun _ _ => sorting_copy_old) r⟩
      refine sortT_of hl (by rw [e.length]; exact hz) (args_sorted1 _) (fun _ => args_list_sort _) fun _ => ?_
      refine list_sort_vals (s := { s with heap := copyHeap s.heap vs }) (copyHeap_at s.heap vs) (SortsAt.data (s := { s with heap := sortingHeap (copyHeap s.heap vs) (s.heap.objs.size + 1) vs }) (each_map (R := fun v d => ∃ as, Reads (sortingHeap (copyHeap s.heap vs) (s.heap.objs.size + 1) vs) v d as) (fun b : V × PyData => b.2) er1) al so (bound_map bound)) (by rw [e.length]; exact hz) ⟨rfl, ?_⟩
      exact fin _ (by rw [sortVals_length false rfl]; exact e.length) (sortVals_data false e er1 al)
  rcases hs with hs | hs
  · obtain ⟨its, rv, pl, hz⟩ := I.list hs
    exact main its rv (by rw [List.length_map] at hz; exact hz) (.inl pl.isList)
  · obtain ⟨its, rv, it, hz⟩ := I.tuple hs
    exact main its rv (by rw [List.length_map] at hz; exact hz) (.inr it)
end Lv

/-! lambdas of one parameter as keys of sorted: their calls in the model itself -/
namespace Lv
open PySem PySem.Spec PyProof.Rows L2 PySem.W PySem.Calls
section
variable {P : Program} {w : World} {A : Around} {E : Value → Shared → Prop} {s : Shared} {env : Env} {Q : Value → Shared → Prop}
theorem wp_local {x : Str} {pos : Pos} {m : Str → Option Value} {v : Value} (hk : env.scope.kind = .function) (hl : env.kindOf x = some .local) (hn : s.heap.Ns env.locals m) (hm : m x = some v) (hd : (x == ("__debug__" : Str)) = false) (q : Q v s) : wpAny (model P w) A (eval (.Name x pos) env) Q E s :=
  wpAny_Name (wpAny_loadName_local hk hl hn hm q) hd
/-- e[:2], e a tuple of more than two items -/
theorem wp_cut2 {e : Expr} {j : Nat} {cp p2 pos : Pos} (he : wpAny (model P w) A (eval e env) (fun v s1 => ∃ (t : Addr) (items : Array Value), v = .ref t ∧ IsTup s1.heap t items ∧ 2 < items.size ∧ items.size ≤ sizeLine ∧
      ∀ (u : Addr) (h' : Heap) (tk : Nat), (∀ b o, s1.heap.get? b = some o → h'.get? b = some o) → IsTup h' u (items.toList.take 2).toArray → Q (.ref u) { s1 with heap := h', toks := tk }) E s) :
    wpAny (model P w) A (eval (.Subscript e (.Slice none (some (.Constant (.int 2) j cp)) none p2) pos) env) Q E s := by
  refine PyProof.Rows.Subscript_ (wpAny_mono he (fun v s1 h => ?_) fun _ _ x => x)
  obtain ⟨t, items, rfl, ht, h2, hz, q⟩ := h
  refine wpAny_Slice (evalPart_none_step (evalPart_some_step (wpAny_Constant_int (evalPart_none_step ?_))))
  have kp : ∀ b o, s1.heap.get? b = some o → (s1.heap.push { cls := .type "slice", data := .fields #[.none, .int 2 s1.toks, .none] }).get? b = some o := fun b o z => Heap.get?_push_of_some _ z
  have ht1 : IsTup (s1.heap.push { cls := .type "slice", data := .fields #[.none, .int 2 s1.toks, .none] }) t items := by
    obtain ⟨o, ho, r⟩ := ht
    exact ⟨o, kp _ _ ho, r⟩
  show wpAny (model P w) A (subscriptTail e (.Slice none (some (.Constant (.int 2) j cp)) none p2) (.ref t) (.ref s1.heap.objs.size)) Q E { s1 with heap := s1.heap.push { cls := .type "slice", data := .fields #[.none, .int 2 s1.toks, .none] }, toks := s1.toks + 1 }
  have e1 : HT.sIx items.size 0 none = 0 := rfl
  have e2 : HT.sIx items.size items.size (some 2) = 2 := by
    have : HT.sIx items.size items.size (some ((2 : Nat) : Int)) = min 2 items.size := HT.sIx_nat ..
    exact this.trans (Nat.min_eq_left (by omega))
  refine tail_any (ops := [.ref s1.heap.objs.size, .ref t]) ht1.typeIs PyProof.Rows.slot_tuple_getitem.lookup (HT.getItem_tuple_cut ht1 (Heap.IsSliceOf.new ..) (lo := none) (hi := some 2) ?_ ?_ (by rw [e1, e2]; omega) ?_ hz) (by with_unfolding_all rfl)
  · constructor
  · constructor
  · rw [e1, e2]
    refine q _ _ _ (fun b o z => Heap.get?_push_of_some _ (kp b o z)) ?_
    exact ⟨_, Heap.get?_push_size _ rfl, rfl, 0, rfl⟩
/-- x.f, x an instance -/
theorem wp_attr {K : PySem.W.Frag} {H : Hp} {e : Expr} {f : Str} {pos : Pos} {a C dx : Addr} {fs : List (Str × V)} {v : V} (hb : attributeBase e f env (eval e env) = eval e env) (c : Cls K C) (n : NoAttr K C f) (hf : fs.lookup f = some v)
    (he : wpAny (model P w) A (eval e env) (fun u s1 => u = .ref a ∧ K.In s1.heap ∧ HOk P w H s1.heap ∧ H a = some (.ins C dx fs) ∧ ∀ u', RelV v u' → ∀ tk, Q u' { s1 with toks := tk }) E s) : wpAny (model P w) A (eval (.Attribute e f pos) env) Q E s := by
  refine attr_of hb (wpAny_mono he (fun u s1 h => ?_) fun _ _ x => x)
  obtain ⟨rfl, kin, hok, ha, q⟩ := h
  obtain ⟨mA, O, r, _, _, _⟩ := ins_get hok ha
  obtain ⟨u, hu, ru⟩ := RelO.some_of (v := v) (o := mA f) (by rw [← hf]; exact r f)
  exact get_map kin O (c.get f) c.hd n hu (handed_of ru) (q u ru _)
/-- the lambda at f, called with one value -/
theorem lam1_call {x : Str} {body : Expr} {scope : Scope} {params : Arguments} {qn : Str} {pm ctv v : Value} {f c' : Addr} {k : PyData} (dp : A.depth < recursionLimit) (of : s.heap.get? f = some (kla_obj "<lambda>" qn params body scope [] pm c' ctv)) (cr : s.heap.CodeRec (.ref c') qn)
    (co : scope.isCoroutine = false) (ge : scope.isGenerator = false) (kd : scope.kind = .function) (nm : scope.names = [(x, .local)]) (nl : s.heap.NoLimit) (hbind : bindArgs (kla_fn "<lambda>" qn params body scope [] pm (.ref c') ctv) ⟨[v], []⟩ = pure [(x, v)])
    (hb : ∀ (h₁ : Heap) (tk : Nat), (∀ b o, s.heap.get? b = some o → h₁.get? b = some o) → h₁.Ns s.heap.objs.size (fun y => [(x, v)].lookup y) → wpAny (model P w) (A.deeper (envX qn scope s.heap.objs.size f (.ref c') [])) (eval body (envX qn scope s.heap.objs.size f (.ref c') [])) (KeyPure k s) (fun _ _ => False) { s with heap := h₁, toks := tk }) :
    wpAny (model P w) A (call (.ref f) [v]) (KeyPure k s) (fun _ _ => False) s := by
  refine wpAny_call (kla_callFunE dp of rfl co ge rfl cr ?_)
  rw [hbind]
  refine wpAny_pure (wpAny_newFunctionEnv (fun y hy => ?_) (fun y hy => ?_) (fun h₁ hns hsb => ⟨nl.fresh _ hsb, ?_⟩) kd)
  · rw [show (kla_fn "<lambda>" qn params body scope [] pm (.ref c') ctv).scope.names = [(x, NameKind.local)] from nm] at hy
    rw [List.mem_singleton.mp hy]
    exact fun z => nomatch z
  · rw [List.mem_singleton.mp hy]
    show scope.names.lookup x = some .local
    rw [nm]
    simp [List.lookup]
  · have kp : ∀ b o, s.heap.get? b = some o → h₁.get? b = some o := fun b o e => hsb.extBut b o (Nat.ne_of_lt (Heap.lt_size e)) (Heap.get?_push_of_some _ e)
    refine kla_codeExpr (wpAny_mono (hb h₁ _ kp hns) (fun u s2 h => h) fun _ _ z => z.elim)
end
end Lv

/-! sorted(xs, key=lambda x: ..) -/
namespace Lv
open PySem PySem.Spec PyProof.Rows L2 PySem.W PySem.Calls
/-- the lambda's body, its name x bound to a value with the key d, gives d -/
def KeyBody (X : Cx) (x : Str) (body : Expr) (KeyOf : Hp → V → PyData → Prop) : Prop := ∀ (pins : List (Addr × Obj)) (σ : L2.St) (H : Hp) (s0 s : Shared) (v : V) (u : Value) (d : PyData) (A : Around) (h : Heap) (tk : Nat) (env : Env) (m : Str → Option Value), L2.Inv X pins σ H s0 → KeyOf H v d → RelV v u →
  (∀ b o, s0.heap.get? b = some o → h.get? b = some o) → (∀ b o, s.heap.get? b = some o → h.get? b = some o) → env.scope.kind = .function → env.kindOf x = some .local → h.Ns env.locals m → m x = some u → wpAny (model X.prog X.w) A (eval body env) (KeyPure d s) (fun _ _ => False) { s with heap := h, toks := tk }
/-- .. sorted by the keys -/
def tSortK (K : PySem.W.Frag) (T : List (Addr × Str)) (KeyOf : Hp → V → PyData → Prop) (te : TE) : TE := fun σ H Q => te σ H fun v H1 => LamX.Tabs T H1 ∧ ∀ H2, LamX.ExtN H1 H2 → LamX.Tabs T H2 → ∃ (a : Addr) (ps : List (V × PyData)), v = .ref a ∧ (SqL K H2 a (ps.map (·.1)) ∨ SqT K H2 a (ps.map (·.1))) ∧
  (∀ p ∈ ps, KeyOf H2 p.1 p.2 ∧ p.2.depth ≤ 8) ∧ AllAlike (ps.map (·.2)) ∧ Sortable (ps.map (·.2)) ∧ ∀ p, H2 p = none → Q (.ref p) (upd H2 p (.lst ((sortP ps).map (·.1))))
theorem pe_sortKey {X : Cx} {T : List (Addr × Str)} {c P : Addr} {e : Expr} {te : TE} {params : Arguments} {body : Expr} {scope : Scope} {lpos kpos p pos : Pos} {x : Str} {KeyOf : Hp → V → PyData → Prop} {k : Nat} (he : PE X e te) (hg : Gl X "sorted") (hm : X.mg "sorted" = none) (TB : LamX.TabB X.base X.mg c P) (hcode : X.env.code = .ref c)
    (hmT : (P, X.env.qual ++ "<lambda>") ∈ T) (hu : ∀ p ∈ T, p.1 = P → p.2 = X.env.qual ++ "<lambda>") (hr : Room (k + 3) X.A) (hun : X.A.units + 16 < cLine) (hdef : defaultsOf params X.env = ([], [])) (nm : scope.names = [(x, .local)]) (co : scope.isCoroutine = false) (ge : scope.isGenerator = false) (kd : scope.kind = .function)
    (hbind : ∀ (q : Str) (pm cv ctv v : Value), bindArgs (kla_fn "<lambda>" q params body scope [] pm cv ctv) ⟨[v], []⟩ = pure [(x, v)]) (kb : KeyBody X x body KeyOf)
    (hs : starEach [e] X.env = (false, eval e X.env) :: starEach [] X.env := by rfl) (h2 : (backTo pos (starEach [e] X.env)).any (·.1) = false := by rfl) :
    PE X (.Call (.Name "sorted" p) [e] [⟨some "key", .Lambda params body scope lpos, kpos⟩] pos) (tSortK X.K T KeyOf te) := by
  refine ⟨fun pins s σ H Q I h => ?_⟩
  refine wpAny_Call_Name_kw (ld_blt I hg hm rfl ?_ (by decide) (by decide))
  refine PyProof.Rows.callWith_kw ?_ (by rw [hs]; rfl) h2 (by rfl) (by rfl)
  have hA := (pa_cons (hs := hs) he pa_nil).run pos pins s σ H (fun vs H1 => match vs with
    | [v] => LamX.Tabs T H1 ∧ ∀ H2, LamX.ExtN H1 H2 → LamX.Tabs T H2 → ∃ (a : Addr) (ps : List (V × PyData)), v = .ref a ∧ (SqL X.K H2 a (ps.map (·.1)) ∨ SqT X.K H2 a (ps.map (·.1))) ∧
      (∀ p ∈ ps, KeyOf H2 p.1 p.2 ∧ p.2.depth ≤ 8) ∧ AllAlike (ps.map (·.2)) ∧ Sortable (ps.map (·.2)) ∧ ∀ p, H2 p = none → Q (.ref p) (upd H2 p (.lst ((sortP ps).map (·.1))))
    | _ => False) I ?_
  · refine thn hA fun us s1 h => ?_
    obtain ⟨vs, H1, I1, rv, h⟩ := h
    obtain ⟨v, rfl⟩ : ∃ v, vs = [v] := by
      match vs, h with
      | [v], _ => exact ⟨v, rfl⟩
      | [], z => exact z.elim
      | _ :: _ :: _, z => exact z.elim
    obtain ⟨hT, todo⟩ := h
    obtain ⟨u, rfl, ru⟩ := rv.one
    show wpAny _ _ (evalAll ((do let v ← eval (.Lambda params body scope lpos) X.env; standAt pos; pure v) :: [])) _ _ s1
    refine wpAny_evalAll_cons (wpAny_bind (LamX.lam_make2 I1 TB hcode hmT hu hT hdef (fun y hy hf => by rw [nm, List.mem_singleton] at hy; rw [hy] at hf; cases hf) fun f c' pm ctv H2 s2 I2 eN T2 hf hfn hfr hco => wpAny_bind (wpAny_standAt (wpAny_pure (wpAny_evalAll_nil ?_)))))
    have hclo : cloFrom X.env.cells scope.names [] = [] := by rw [nm]; rfl
    rw [hclo] at hf
    show wpAny (model X.prog X.w) X.A (call (.builtin "sorted") [u] [(Str.ofString "key", .ref f)]) (EP X pins σ Q) X.xe s2
    obtain ⟨a, ps, rfl, hsq, hkey, al, so, q⟩ := todo H2 eN T2
    cases (show u = Value.ref a from ru)
    obtain ⟨⟨oc, cvs, t, hoc, hdc, hvc⟩, _, _⟩ := I2.hok c' _ hco
    have main : ∀ (vs : List Value), Vals (ps.map (·.1)) vs → ps.length ≤ sizeLine → (s2.heap.IsList a vs.toArray ∨ s2.heap.IsTuple a vs.toArray) → wpAny (model X.prog X.w) X.A (call (.builtin "sorted") [.ref a] [(Str.ofString "key", .ref f)]) (EP X pins σ Q) X.xe s2 := by
      intro vs rv hz hl
      have e := vals_each rv
      have bound : ∀ b ∈ ps, X.A.units + 2 + b.2.depth < cLine := fun b hb => by have := (hkey b hb).2; omega
      have turn : ∀ (v : Value) (x : V × PyData), RelV x.1 v → x ∈ ps → ∀ (h : Heap) (tk : Nat), (∀ b o, s2.heap.get? b = some o → h.get? b = some o) →
          wpAny (model X.prog X.w) X.A.in1.in1 (call (.ref f) [v]) (KeyPure x.2 { s2 with heap := h, toks := tk }) (fun _ _ => False) { s2 with heap := h, toks := tk } := by
        intro v x rx hx h tk kp
        have I3 : L2.Inv X pins σ H2 { s2 with heap := h, toks := tk } := I2.kept kp
        refine lam1_call (qn := X.env.qual ++ "<lambda>") (s := { s2 with heap := h, toks := tk }) ?_ (kp _ _ hf) ⟨c', oc, cvs, t, rfl, kp _ _ hoc, hdc, hvc⟩ co ge kd nm I3.nolimit (hbind _ _ _ _ _) fun h₁ tk1 kp1 hns => ?_
        · exact hr.depth
        · refine kb pins σ H2 s2 _ x.1 v x.2 _ h₁ tk1 _ (fun y => [(_, v)].lookup y) I2 (hkey x hx).1 rx (fun b o z => kp1 b o (kp b o z)) kp1 kd ?_ hns ?_
          · show scope.names.lookup _ = _
            rw [nm]
            simp [List.lookup]
          · simp [List.lookup]
      have fin : ∀ (out : List Value) (c : Nat) (h' : Heap) (tk : Nat), (∀ b o, s2.heap.get? b = some o → h'.get? b = some o) → h'.get? (s2.heap.objs.size + 1) = some (seqObj "list" (List.toArray out) c) → out.length = ps.length → EachIs (fun u (p : V × PyData) => RelV p.1 u) out (ps.mergeSort (dataLe false (·.2))) →
          EP X pins σ Q (.ref (s2.heap.objs.size + 1)) { s2 with heap := h', toks := tk } := by
        intro out c h' tk kp hD ho eo
        have vo : Vals ((sortP ps).map (·.1)) out := each_vals eo
        have free : H2 (s2.heap.objs.size + 1) = none := I2.hok.fresh (Nat.le_succ _)
        refine ⟨.ref (s2.heap.objs.size + 1), upd H2 (s2.heap.objs.size + 1) (.lst ((sortP ps).map (·.1))), I2.laid kp (Nat.le_succ _) ⟨?_, out, c, vo, hD⟩, rfl, q _ free⟩
        rw [vo.length, ho]
        exact hz
      rcases hl with hl | hl
      · exact sorted_key_data (b := false) (fun b : V × PyData => b.2) hl e al so hz bound (ksk_s1 _ _) (fun _ => ksk_l1 _ _) (fun _ => ksk_t1 _ _) turn fun out c h' tk kp _ hD ho eo => fin out c h' tk kp hD ho eo
      · refine sortT_of hl (by rw [e.length]; exact hz) (ksk_s1 _ _) (fun _ => ksk_l1 _ _) fun E1 => ?_
        rw [ksk_t1]
        have up : ∀ {g : Heap}, KeepsBut (s2.heap.objs.size + 1) (copyHeap s2.heap vs) g → ∀ b o, s2.heap.get? b = some o → g.get? b = some o := fun {g} kp b o q =>
          kp b o (Nat.ne_of_lt (Nat.lt_succ_of_lt (Heap.lt_size q))) (copyHeap_old q)
        refine keyH_tree (kz := ps.map (·.2)) (s := { s2 with heap := copyHeap s2.heap vs }) (copyHeap_at s2.heap vs) (by rw [List.length_map]; exact e.length.symm) (by rw [e.length]; exact hz) al so (bound_map (A := X.A.in1.in1) bound)
          (keyH_turns (k := fun b : V × PyData => b.2) (s := { s2 with heap := copyHeap s2.heap vs }) e fun v x hR hx h tk kp => turn v x hR hx h tk (up kp)) fun h' tk out c kp hD ko => ⟨rfl, ?_⟩
        exact fin out c h' tk (up kp) hD ((ko.length (by rw [List.length_map]; exact e.length.symm)).trans e.length) (keyedOut_each (fun b : V × PyData => b.2) ko e)
    rcases hsq with hs | hs
    · obtain ⟨its, rv, pl, hz⟩ := I2.list hs
      exact main its rv (by rw [List.length_map] at hz; exact hz) (.inl pl.isList)
    · obtain ⟨its, rv, it, hz⟩ := I2.tuple hs
      exact main its rv (by rw [List.length_map] at hz; exact hz) (.inr it)
  · exact h
end Lv

/-! dicts whose keys are nested tuples, as tracked things: new, d[k] = v, d[k], walked by their keys -/
namespace Lv
open PySem PySem.Spec PyProof.Rows L2
/-- entries: the key, where its own tuple stands, the value -/
abbrev Ents := List (NestedKey × Addr × V)
abbrev RelE (p : NestedKey × Addr × V) (q : NestedKey × Addr × Value) : Prop := p.1 = q.1 ∧ p.2.1 = q.2.1 ∧ RelV p.2.2 q.2.2
def atE (L : Ents) (k : NestedKey) : Option (Addr × V) := (L.find? fun x => decide (x.1 = k)).map (·.2)
def putE (L : Ents) (k : NestedKey) (b : Addr) (v : V) : Ents := if (atE L k).isSome then L.map (fun x => if x.1 = k then (x.1, x.2.1, v) else x) else L ++ [(k, b, v)]
theorem atE_rel (k : NestedKey) : ∀ {L : Ents} {xs : List (NestedKey × Addr × Value)}, Paired RelE L xs → RelO ((atE L k).map (·.2)) ((atKey xs k).map (·.2)) ∧ (atE L k).isSome = (atKey xs k).isSome
  | _, _, .nil => ⟨trivial, rfl⟩
  | p :: L, q :: xs, .cons r t => by
    have ih := atE_rel k t
    by_cases e : p.1 = k
    · have e2 : q.1 = k := r.1 ▸ e
      have a1 : atE (p :: L) k = some p.2 := by unfold atE; rw [List.find?_cons_of_pos (by simpa using e)]; rfl
      have a2 : atKey (q :: xs) k = some q.2 := by unfold atKey; rw [List.find?_cons_of_pos (by simpa using e2)]; rfl
      rw [a1, a2]
      exact ⟨r.2.2, rfl⟩
    · have e2 : ¬ q.1 = k := fun z => e (r.1.trans z)
      have a1 : atE (p :: L) k = atE L k := by unfold atE; rw [List.find?_cons_of_neg (by simpa using e)]
      have a2 : atKey (q :: xs) k = atKey xs k := by unfold atKey; rw [List.find?_cons_of_neg (by simpa using e2)]
      rw [a1, a2]
      exact ih
theorem pair_map {α β : Type} {G : α → β → Prop} {f : α → α} {g : β → β} (h : ∀ a b, G a b → G (f a) (g b)) : ∀ {l : List α} {m : List β}, Paired G l m → Paired G (l.map f) (m.map g)
  | _, _, .nil => .nil
  | _, _, .cons r t => .cons (h _ _ r) (pair_map h t)
theorem pair_snoc {α β : Type} {G : α → β → Prop} {a : α} {b : β} (r : G a b) : ∀ {l : List α} {m : List β}, Paired G l m → Paired G (l ++ [a]) (m ++ [b])
  | _, _, .nil => .cons r .nil
  | _, _, .cons r' t => .cons r' (pair_snoc r t)
theorem putE_rel {L : Ents} {xs : List (NestedKey × Addr × Value)} (r : Paired RelE L xs) (k : NestedKey) (b : Addr) {v : V} {u : Value} (rv : RelV v u) : Paired RelE (putE L k b v) (storedH xs k b u) := by
  unfold putE storedH
  rw [(atE_rel k r).2]
  split
  · refine pair_map (fun x y h => ?_) r
    unfold putAt
    by_cases e : x.1 = k
    · rw [if_pos e, if_pos (h.1 ▸ e)]
      exact ⟨h.1, h.2.1, rv⟩
    · rw [if_neg e, if_neg fun z => e (h.1.trans z)]
      exact h
  · exact pair_snoc ⟨rfl, rfl, rv⟩ r
theorem putE_len (L : Ents) (k : NestedKey) (b : Addr) (v : V) : (putE L k b v).length ≤ L.length + 1 := by
  unfold putE
  split
  · rw [List.length_map]
    omega
  · simp
theorem atE_none {L : Ents} {k : NestedKey} (h : (atE L k).isSome = false) : k ∉ L.map (·.1) := by
  intro hm
  obtain ⟨x, hx, rfl⟩ := List.mem_map.mp hm
  unfold atE at h
  rw [Option.isSome_map, Bool.eq_false_iff] at h
  refine h ?_
  rw [List.find?_isSome]
  exact ⟨x, hx, by simp⟩
theorem putE_nd {L : Ents} {k : NestedKey} {b : Addr} {v : V} (h : (L.map (·.1)).Nodup) : ((putE L k b v).map (·.1)).Nodup := by
  unfold putE
  split
  · rw [List.map_map]
    have e : ((fun x : NestedKey × Addr × V => x.1) ∘ fun x => if x.1 = k then (x.1, x.2.1, v) else x) = (fun x => x.1) := by
      funext x
      simp only [Function.comp_apply]
      split <;> rfl
    rw [e]
    exact h
  · rename_i z
    rw [List.map_append]
    refine List.nodup_append.mpr ⟨h, List.nodup_cons.mpr ⟨(fun q => nomatch q), List.nodup_nil⟩, fun x hx y hy e => ?_⟩
    have := atE_none (by simpa using z) (L := L) (k := k)
    rw [List.mem_singleton.mp (show y ∈ [k] from hy)] at e
    exact this (e ▸ hx)
theorem putE_mem {L : Ents} {k : NestedKey} {b : Addr} {v : V} {p : NestedKey × Addr × V} (h : p ∈ putE L k b v) : p ∈ L ∨ (p.1 = k ∧ p.2.2 = v ∧ (p.2.1 = b ∨ ∃ u, (k, p.2.1, u) ∈ L)) := by
  unfold putE at h
  split at h
  · obtain ⟨x, hx, e⟩ := List.mem_map.mp h
    by_cases z : x.1 = k
    · rw [if_pos z] at e
      subst e
      refine .inr ⟨z, rfl, .inr ⟨x.2.2, ?_⟩⟩
      rw [← z]
      exact hx
    · rw [if_neg z] at e
      subst e
      exact .inl hx
  · rcases List.mem_append.mp h with h | h
    · exact .inl h
    · cases List.mem_singleton.mp h
      exact .inr ⟨rfl, rfl, .inl rfl⟩
/-- the dict at a, the keys' tuples aside -/
def Dic0 (P : Program) (w : World) (h : Heap) (a : Addr) (L : Ents) : Prop := L.length ≤ sizeLine ∧ (a == sysModules) = false ∧ ∃ xs : List (NestedKey × Addr × Value), Paired RelE L xs ∧
  ∃ o es ep, h.get? a = some o ∧ o.ExactDict ∧ o.data = .dict es ep ∧ es.toList = xs.map (entryOfKey (nestedKind P w)) ∧ (xs.map (·.1)).Nodup
def DicNO (P : Program) (w : World) (a : Addr) (L : Ents) : HO := .ext fun h => Dic0 P w h a L
theorem dicNO_ok {P : Program} {w : World} {H : Hp} {h : Heap} {a : Addr} {L : Ents} (R : Dic0 P w h a L) : ObjOk P w H h a (DicNO P w a L) := by
  obtain ⟨z, sy, xs, r, o, es, ep, ho, q⟩ := id R
  refine ⟨R, ⟨o, ho⟩, fun h1 h2 p k => ?_⟩
  obtain ⟨z', sy', xs', r', o', es', ep', ho', q'⟩ := (show Dic0 P w h1 a L from p)
  exact ⟨z', sy', xs', r', o', es', ep', k o' ho', q'⟩
theorem dic_rd {P : Program} {w : World} {H : Hp} {h : Heap} {a : Addr} {L : Ents} (ok : HOk P w H h) (e : Rd H a (DicNO P w a L)) : Dic0 P w h a L := (rd_of ok e).1
theorem Dic0.full {P : Program} {w : World} {h : Heap} {a : Addr} {L : Ents} (R : Dic0 P w h a L) (k : ∀ p ∈ L, (nestedKind P w).is h p.1 p.2.1) : ∃ xs, Paired RelE L xs ∧ h.DictOfH (nestedKind P w) a xs := by
  obtain ⟨z, sy, xs, r, o, es, ep, ho, hx, hd, he, hn⟩ := R
  refine ⟨xs, r, o, es, ep, ho, hx, hd, he, fun x hx => ?_, hn⟩
  have go : ∀ {L : Ents} {xs : List (NestedKey × Addr × Value)}, Paired RelE L xs → (∀ p ∈ L, (nestedKind P w).is h p.1 p.2.1) → ∀ x ∈ xs, (nestedKind P w).is h x.1 x.2.1 := by
    intro L xs r
    induction r with
    | nil => intro _ x hx; cases hx
    | cons r t ih =>
      intro k x hx
      rcases List.mem_cons.mp hx with rfl | hx
      · have := k _ (.head _)
        rw [r.1, r.2.1] at this
        exact this
      · exact ih (fun p hp => k p (.tail _ hp)) x hx
  exact go r k x hx
/-- {}, to be such a dict -/
def tDNewN (P : Program) (w : World) : TE := fun _ H Q => ∀ p, H p = none → Q (.ref p) (upd H p (DicNO P w p []))
theorem pe_dnewN {X : Cx} {pos : Pos} : PE X (.Dict [] [] pos) (tDNewN X.prog X.w) := by
  constructor
  intro pins s σ H Q I h
  have big := Ne.symm (Nat.ne_of_lt I.big)
  have R : Dic0 X.prog X.w (s.heap.push { cls := .type "dict", data := .dict #[] }) s.heap.objs.size [] := by
    refine ⟨Nat.zero_le _, beq_eq_false_iff_ne.mpr big, [], .nil, _, #[], 0, Heap.get?_push_size _ rfl, ⟨rfl, rfl, rfl⟩, rfl, rfl, List.nodup_nil⟩
  exact wpAny_Dict_empty ⟨.ref s.heap.objs.size, _, I.laid (a := s.heap.objs.size) (o := DicNO X.prog X.w s.heap.objs.size []) (t' := s.toks) (fun _ _ e => Heap.get?_push_of_some _ e) (Nat.le_refl _) (dicNO_ok R), rfl, h _ (I.hok.fresh (Nat.le_refl _))⟩
/-- d[y] -/
def tDGetN (P : Program) (w : World) (K : PySem.W.Frag) (td ty : TE) : TE := fun σ H Q => td σ H fun x H1 => ty σ H1 fun y H2 => ∃ (a : Addr) (L : Ents) (k : NestedKey) (b c : Addr) (v : V), x = .ref a ∧ y = .ref b ∧ Rd H2 a (DicNO P w a L) ∧ (∀ p ∈ L, KeyAt K H2 p.1 p.2.1) ∧ KeyAt K H2 k b ∧ atE L k = some (c, v) ∧ Q v H2
/-- d[y] = v -/
def sDPutN (P : Program) (w : World) (K : PySem.W.Frag) (td ty tv : TE) : TS := fun D σ H => tv σ H fun v H1 => td σ H1 fun x H2 => ty σ H2 fun y H3 => ∃ (a : Addr) (L : Ents) (k : NestedKey) (b : Addr), x = .ref a ∧ y = .ref b ∧ H3 a = some (DicNO P w a L) ∧ (∀ p ∈ L, KeyAt K H3 p.1 p.2.1) ∧ KeyAt K H3 k b ∧ L.length < sizeLine ∧
  D.nx σ (upd H3 a (DicNO P w a (putE L k b v)))
section
variable {X : Cx} {pos pos' : Pos} {ob ix val : Expr} {td ty tv : TE}
theorem keyIs {pins : List (Addr × Obj)} {σ : L2.St} {H : Hp} {s : Shared} (I : L2.Inv X pins σ H s) {k : NestedKey} {b : Addr} (h : KeyAt X.K H k b) : (nestedKind X.prog X.w).is s.heap k b := ⟨nk_is I h.1 rfl, h.2⟩
theorem ps_dputN (hu : X.A.units + 16 < cLine) (h1 : PE X ob td) (h2 : PE X ix ty) (h3 : PE X val tv) (hs : swapsWith val (some (.Subscript ob ix pos')) pos.line X.env = pure false) :
    PS X (.Assign [.Subscript ob ix pos'] val pos) (sDPutN X.prog X.w X.K td ty tv) := by
  constructor
  intro pins s σ H D I h
  refine wpAny_Assign_Subscript (thn (h3.run pins s σ H _ I h) fun r s1 z1 => ?_) hs
  obtain ⟨v, H1, I1, rv, q1⟩ := z1
  refine thn (h1.run pins s1 σ H1 _ I1 q1) fun u s2 z2 => ?_
  obtain ⟨x, H2, I2, rx, q2⟩ := z2
  refine thn (h2.run pins s2 σ H2 _ I2 q2) fun iv s3 z3 => ?_
  obtain ⟨y, H3, I3, ry, a, L, k, b, rfl, rfl, hd, hk, kb, hl, q3⟩ := z3
  cases rx
  cases ry
  have R0 := dic_rd I3.hok (.inl hd)
  obtain ⟨xs, rr, dd⟩ := R0.full fun p hp => keyIs I3 (hk p hp)
  have lx : L.length = xs.length := Paired.length rr
  refine wpAny_setItem_heap (hsz := by omega) (show X.A.in1.units + 8 < cLine by rw [Around.in1_units]; omega) (keyIs I3 kb) dd fun h' dd' sb => ?_
  obtain ⟨o', es', ep', ho', hx', hd', he', _, hn'⟩ := dd'
  have R1 : Dic0 X.prog X.w h' a (putE L k b v) := ⟨by have := putE_len L k b v; omega, R0.2.1, _, putE_rel rr k b rv, o', es', ep', ho', hx', hd', he', hn'⟩
  exact ⟨σ, _, I3.write (x := a) (e := a) (by rw [hd]; trivial) (.inl rfl) (fun c q hc z => (sb.2 c hc).trans z) ⟨o', ho'⟩ (dicNO_ok R1), q3⟩
end
section
variable {X : Cx} {pins : List (Addr × Obj)} {σ : L2.St} {H : Hp} {s : Shared} {d : Addr} {o : Obj} {L : Ents}
end
/-- the keys' tuples of the locked dict -/
def ItN (P : Program) (w : World) (d : Addr) (o : Obj) (L : Ents) : It where
  go i H := H d = some (.frz o (DicNO P w d L)) ∧ i < L.length
  yld i H x H' := H' = H ∧ ∃ k b v, L[i]? = some (k, b, v) ∧ x = .ref b
  stop i H := H d = some (.frz o (DicNO P w d L)) ∧ L.length ≤ i
/-- for k in d, d locked -/
def iKeysN (P : Program) (w : World) (td : TE) : TI := fun σ H R => td σ H fun x H1 => ∃ (d : Addr) (o : Obj) (L : Ents), x = .ref d ∧ H1 d = some (.frz o (DicNO P w d L)) ∧ R (ItN P w d o L) H1
end Lv

/-! odd values among texts; a raising def with a lambda -/
namespace Lv
open PySem PySem.Spec PyProof.Rows L2 PySem.SeqAt
section
variable {A : Around} {s : Shared}
theorem str_eq_dict (b : Str) (u : Tok) (l : Addr) (c : Value) (es : Array DictEntry) (ep : Nat) (dd : Option Addr) (sl : Array (Option Value)) :
    Meets (Builtin.«str.__eq__» ⟨[.str b u, .ref l], []⟩) (fun _ R s => s.heap.get? l = some { cls := c, dict := dd, data := .dict es ep, slots := sl } ∧ R (.ok (.ret .notImplemented)) s) := by
  refine .of_wp fun prog w A R s h => ?_
  obtain ⟨hp, g, d, tk, os⟩ := s
  obtain ⟨hl, h⟩ := h
  wp_walk using wpAny_loadPart' hl, wpAny_load hl
  exact ⟨_, rfl, h⟩
theorem dict_eq_str (l : Addr) (es : Array DictEntry) (ep : Nat) (dd : Option Addr) (sl : Array (Option Value)) (b : Str) (u : Tok) :
    Meets (Builtin.«dict.__eq__» ⟨[.ref l, .str b u], []⟩) (fun _ R s => s.heap.get? l = some { cls := .type "dict", dict := dd, data := .dict es ep, slots := sl } ∧ R (.ok (.ret .notImplemented)) s) := by
  refine .of_wp fun prog w A R s h => ?_
  obtain ⟨hp, g, d, tk, os⟩ := s
  obtain ⟨hl, h⟩ := h
  have f1 := F.sub_str_dict
  wp_walk using wpAny_loadPart' hl
  exact ⟨_, rfl, h⟩
theorem eqAt_str_dict {l : Addr} {es : Array DictEntry} {ep : Nat} {dd : Option Addr} {sl : Array (Option Value)} (b : Str) (u : Tok) (ho : s.heap.get? l = some { cls := .type "dict", dict := dd, data := .dict es ep, slots := sl }) (hu : A.units < cLine) : EqAt A s (.str b u) (.ref l) false := by
  intro prog w E Q h
  unfold eqBool
  refine wpAny_holding (wpAny_ite_split (fun e => absurd (eq_of_beq e) nofun) fun _ => wpAny_bind ?_)
  refine rc_eq_decline_or (k := false) (typeIs_str s b u) ⟨_, ho, rfl⟩ (by decide) F.sub_dict_str F.slot_str_eq F.slot_dict_eq_refl (fun _ q => ?_) (fun _ q => ?_) (fun _ q => ?_) (.inr hu) (wpAny_truthy_bool h)
  · exact call_meets F.slot_str_eq (typeIs_str s b u) F.entry_str_eq (F.args_str_eq_2 _ _) (str_eq_dict b u l _ es ep dd sl) ⟨ho, q⟩
  · exact call_meets F.slot_dict_eq_refl ⟨_, ho, rfl⟩ F.entry_dict_eq (F.args_dict_eq_2 _ _) (dict_eq_str l es ep dd sl b u) ⟨ho, q⟩
  · exact wpAny_of_eq (rfl : isSame (.str b u) (.ref l) = pure false) q
end
def inW (x : V) (ws : List Str) : Bool := match x with
  | .str z => decide (z ∈ ws)
  | _ => false
/-- x in t, t a tuple of texts, x of any kind -/
def rInW (K : PySem.W.Frag) : V → V → Hp → VK → Prop := fun x y H Q => ∃ (p : Addr) (ws : List Str) (t : String), y = .ref p ∧ SqT K H p (ws.map V.str) ∧ Kn H x t ∧ Q (.bl (inW x ws)) H
theorem txt_at : ∀ {ws : List Str} {us : List Value}, Vals (ws.map V.str) us → ∀ y ∈ us, ∃ z t, y = Value.str z t
  | [], _, .nil, y, hy => nomatch hy
  | w :: ws, _, .cons r q, y, hy => by
    rcases List.mem_cons.mp hy with rfl | hy
    · obtain ⟨t, rfl⟩ := r
      exact ⟨w, t, rfl⟩
    · exact txt_at q y hy
theorem any_txt {z : Str} : ∀ {ws : List Str} {us : List Value}, Vals (ws.map V.str) us → (us.any fun y => match y with | .str b _ => b == z | _ => false) = decide (z ∈ ws)
  | [], _, .nil => by simp
  | w :: ws, _, .cons r q => by
    obtain ⟨t, rfl⟩ := r
    rw [List.any_cons, any_txt q]
    show ((w == z) || decide (z ∈ ws)) = _
    by_cases e : z = w
    · simp [e]
    · have : (w == z) = false := by simp; exact fun h => e h.symm
      rw [this, Bool.false_or, decide_eq_decide]
      simp [e]
theorem op_inW {X : Cx} (hu : X.A.units + 16 < cLine) : OpR X (compareOp .In) (rInW X.K) := by
  intro pins s σ H x y v u Q I rx ry h
  obtain ⟨p, ws, t, rfl, hq, k, q⟩ := h
  cases ry
  obtain ⟨its, r, pl, hz⟩ := I.tuple hq
  have room : X.A.in1.units < cLine := by rw [Around.in1_units]; omega
  have no : inW x ws = false → (∀ (b : Str) (tk : Tok), EqAt X.A.in1 s (.str b tk) v false) → wpAny (model X.prog X.w) X.A (compareOp .In v (.ref p)) (EP X pins σ Q) X.xe s := by
    intro e all
    refine in_tupleAt (fun _ => false) pl (fun y hy => ?_) ⟨.bl _, H, I, rfl, ?_⟩
    · obtain ⟨b, tk, rfl⟩ := txt_at r y (by simpa using hy)
      exact all b tk
    · rw [e] at q
      have : its.toArray.any (fun _ => false) = false := by simp
      rw [this]
      exact q
  cases k with
  | non =>
    cases rx
    exact no rfl fun b tk => EqAt.str_none b tk
  | bl c =>
    cases rx
    exact no rfl fun b tk => EqAt.str_bool b tk c
  | int i =>
    obtain ⟨ti, rfl⟩ := rx
    exact no rfl fun b tk => EqAt.str_int b tk i ti
  | str z =>
    obtain ⟨tz, rfl⟩ := rx
    refine in_tupleAt (fun y => match y with | .str b _ => b == z | _ => false) pl (fun y hy => ?_) ⟨.bl _, H, I, rfl, ?_⟩
    · obtain ⟨b, tk, rfl⟩ := txt_at r y (by simpa using hy)
      exact EqAt.str_str b tk z tz
    · rw [← Array.any_toList, any_txt r]
      exact q
  | lst h =>
    cases rx
    obtain ⟨_, _, pl2, _⟩ := I.list (sql_of h)
    exact no rfl fun b tk => EqAt.str_list b tk pl2.isList room
  | tup h =>
    cases rx
    obtain ⟨_, _, pl2, _⟩ := I.tuple (sqt_of h)
    exact no rfl fun b tk => EqAt.str_tuple b tk pl2 room
  | dK h =>
    cases rx
    obtain ⟨_, _, vs, _, o, es, ep, ho, hx, hd, _⟩ := dk_of I.hok h
    obtain ⟨cls, dd, data, sl⟩ := o
    obtain ⟨e1, e2⟩ := hx
    simp only at e1 hd
    subst e1 hd
    exact no rfl fun b tk => eqAt_str_dict b tk ho room
section
variable {P : Program} {w : World} {K : PySem.W.Frag} {mg : Str → Option Value} {base : Heap}
/-- okX, the code object's address told -/
theorem okXL {x qual : Str} {st : Stmt} {f c : Addr} {fd : FuncData} {N ps : List Str} {k : Nat} {sp : Sp} (F : Fun K x qual st f fd) (hc : fd.code = .ref c) (S : FnScope N ps (defScope st)) (len : ∀ vs H Q E, sp vs H Q E → vs.length = ps.length)
    (hbody : ∀ (A : Around) (outer : List Env) (s : Shared) (H : Hp) (vs : List V) (Q : VK) (E : XK), Room k (A.deeper (envOfC qual (defScope st) s.heap.objs.size f (.ref c))) → sp vs H Q E →
      ∃ t, PSs (cxOf (L2.CX P w) P w K mg base N qual (defScope st) f (.ref c) A outer s H E) (defBody st) t ∧ t { nx := fun _ H' => Q .non H', rt := Q } (L2.start N vs) H) : FnOk P w K mg base (L2.CX P w) (k + 1) f fd ps sp := by
  obtain ⟨oc, od, kV, doc, pm, an, cdv, ct, osl, rfl, lk, hcd⟩ := F.ex
  cases (show cdv = .ref c from hc)
  exact fn_of lk hcd S len fun A outer s H vs Q E hr hsp => hbody A outer s H vs Q E hr hsp
end
end Lv

/-! methods that may raise wherever they are called; lambdas whose bodies may show what they raise -/
namespace Lv
open PySem PySem.Spec PyProof.Rows L2
section
variable {X : Cx} {CX : CXT} {k : Nat} {f C : Addr} {fd : FuncData} {ps : List Str} {sp : Sp} {dvs : List V} {ds : List Value} {E : XK} {m : Str} {apos pos : Pos} {o e : Expr} {es : List Expr} {t : TA} {ta : TE}
end
section
variable {X : Cx} {pins : List (Addr × Obj)} {σ : L2.St} {H HZ : Hp} {s s1 : Shared}
end
end Lv

/-! odd values not in lists of texts -/
namespace Lv
open PySem PySem.Spec PyProof.Rows L2 PySem.SeqAt
/-- x not in l, l a list of texts, x of any kind -/
def rNotInW (K : PySem.W.Frag) : V → V → Hp → VK → Prop := fun x y H Q => ∃ (p : Addr) (ws : List Str) (t : String), y = .ref p ∧ SqL K H p (ws.map V.str) ∧ Kn H x t ∧ Q (.bl (!inW x ws)) H
end Lv

/-! tuple * number, the tuple may be empty -/
namespace Lv
open PySem PySem.Spec PyProof.Rows L2
/-- xs * k, xs empty or not -/
def rRepE (K : PySem.W.Frag) : R2 := fun x y H Q => rRepT K x y H Q ∨ ∃ l k, x = .ref l ∧ y = .int k ∧ SqT K H l [] ∧ 2 ≤ k ∧ k ≤ 1000 ∧ Q (.ref l) H
end Lv

/-! laws whose classes' methods make lambdas: their tables are told of by the head's own word -/
namespace Lv
open PySem PySem.Spec PyProof.Rows L2 LamX
theorem walkGY {l : PySem.W.OpenLaw} {n k : Nat} {q : Program} {loose : List Str}
    {XP : (Str → Option Value) → Heap → Prop} {YP : World → Heap → Prop} {d : DefRec}
    {K : Params → PySem.W.Frag} {sp : PySem.W.Frag → List (Addr × Addr) → Sp} {x : Str}
    (hn : l.most = some n) (hn2 : n ≤ sizeLine) (hdf : d.params.defaults = []) (hr : Room k callerA)
    (hY : ∀ (w : World) (h : Heap), YP w h → (K w.params).In h)
    (F : ∀ (w : World) (mg : Str → Option Value) (fa : Addr) (h : Heap), (K w.params).In h → YP w h →
      h.Ns mainGlobals mg → mg d.name = some (.ref fa) → (∀ y, ((recsOf q).any fun e => e.name == y) = true → TabOf mg h y) →
      ∃ (fd : FuncData) (cs : List (Addr × Addr)), (∀ p ∈ cs, h.get? p.2 = some { cls := .none, data := .fields #[] }) ∧
        (∀ p ∈ cs, (K w.params).lookup p.2 = none) ∧ (∀ p ∈ cs, PySem.W.CodeHd h p.1 p.2) ∧
        (∀ (s : Shared) (u : Value), BindsTo s fd ⟨[u], []⟩ [(x, u)]) ∧
        ∀ base : Heap, (K w.params).In base → base.Ns mainGlobals mg → (∀ p ∈ cs, TabB base mg p.1 p.2) →
          FnG l.prog w (K w.params) mg base CX0 k fa fd [x] (sp (K w.params) cs))
    (hsp : ∀ (K : PySem.W.Frag) (cs : List (Addr × Addr)) (H : Hp) (a : Addr) (ns : List Int), ns.length ≤ n →
      (∀ p ∈ cs, H p.2 = some (.tbl #[])) → SqL K H a (ns.map V.int) → sp K cs [.ref a] H (fun v _ => v = .bl true) E0) :
    PySem.W.WalkO q loose XP YP l.row.toRowW d [] (fun f vs => PySem.call f vs) := by
  refine Att.attach_call hn hdf ?_
  intro w s₀ s₁ mg mb fa o pm cd doc a vs ns G Y ho hd hcd hmg hobj hints hlen hg
  have tab : ∀ y, ((recsOf q).any fun e => e.name == y) = true → TabOf mg s₁.heap y := by
    intro y hy
    obtain ⟨dL, hm, hn1⟩ := List.any_eq_true.mp hy
    obtain ⟨f, o', fd', c, P, h1, h2, h3, h4, h5, h6⟩ := G.T.tab dL hm
    rw [beq_iff_eq.mp hn1] at h1
    exact ⟨f, o', fd', c, P, h1, h2, h3, h4, PySem.W.CodeHd.of h5 h6, h6.2⟩
  obtain ⟨fd, cs, t1, t2, t3, hb, hF⟩ := F w mg fa _ (hY w _ Y) Y G.T.g hmg tab
  exact lawGT (hY w _ Y) G.T.g G.T.b G.T.builtins G.T.nolimit hg t1 t2 t3 G.T.bmain hobj hints (Nat.le_trans hlen hn2) hr hF hb
    (fun H hH hS => hsp _ cs H a ns hlen hH hS)
end Lv

/-! enumerate(tuple) -/
namespace Lv
open PySem PySem.Spec PyProof.Rows L2
/-- the two objects that enumerate of the tuple at t makes -/
abbrev enH (h : Heap) (t : Addr) : Heap := h.push { cls := .type "tuple_iterator", data := .fields #[.ref t, .int 0 0] }
abbrev enO (k : Addr) : Obj := { cls := .type "enumerate", data := .fields #[.none, .bool false, .ref k, rawInt 0, .none, .none] }
open PySem.Sem (wp) in
open PySem.AutoSeq1 (wpAny_loadPart') in
theorem enum_newT (t : Addr) (vs : Array Value) (k : Nat) (dd : Option Addr) (so : Array (Option Value)) :
    Meets (Builtin.«enumerate.__new__» ⟨[.type "enumerate", .ref t], []⟩) fun _ R st => st.heap.get? t = some { cls := .type "tuple", dict := dd, data := .seq vs k, slots := so } ∧
      R (.ok (.ret (.ref (enH st.heap t).objs.size))) { st with heap := (enH st.heap t).push (enO st.heap.objs.size) } :=
  .of_wp fun p w B R st hh => by
    obtain ⟨hp, gs, ds, tk, os⟩ := st
    obtain ⟨ht, hR⟩ := hh
    have sb := sub_enumerate
    have isT : Heap.IsTuple (Shared.heap ⟨hp, gs, ds, tk, os⟩) t vs := ⟨_, ht, rfl, k, rfl⟩
    wp_walk using wpAny_loadPart' ht
    refine wpAny_stack_any fun sk => wpAny_pure ?_
    split
    · rename_i cc _ _ _ _ _
      cases (cc == Value.type "enumerate") <;> (wp_walk using wpAny_loadPart' ht, wpAny_pyIter_tuple isT; exact ⟨_, rfl, hR⟩)
    · wp_walk using wpAny_loadPart' ht, wpAny_pyIter_tuple isT
      exact ⟨_, rfl, hR⟩
section
variable {prog : Program} {w : World} {A : Around} {E : Value → Shared → Prop} {s : Shared}
theorem call_enumT {t : Addr} {vs : Array Value} {Q : Value → Shared → Prop} (hT : s.heap.IsTuple t vs)
    (q : ∀ h2, IsEnum h2 (s.heap.objs.size + 1) s.heap.objs.size 0 .none → h2.IsTupleIter s.heap.objs.size t 0 → (∀ b o, s.heap.get? b = some o → h2.get? b = some o) → Q (.ref (s.heap.objs.size + 1)) { s with heap := h2 }) :
    wpAny (model prog w) A (call (.type "enumerate") [.ref t]) Q E s := by
  obtain ⟨⟨cc, dd, dt, so⟩, ht, hc, k, hd⟩ := hT
  obtain rfl : cc = .type "tuple" := hc
  obtain rfl : dt = .seq vs k := hd
  have e1 : (enH s.heap t).objs.size = s.heap.objs.size + 1 := Heap.size_push ..
  have e2 : IsEnum ((enH s.heap t).push (enO s.heap.objs.size)) (s.heap.objs.size + 1) s.heap.objs.size 0 .none := by
    have z := Heap.get?_push_size (enH s.heap t) (o := enO s.heap.objs.size) rfl
    rw [e1] at z
    exact z
  refine callType_new F.called_enumerate (by decide) (F.typeCall_enumerate_1 _) (F.newCall_enumerate_1 _) (fun ob => F.args_object_init_2 ob _) F.entry_enumerate_new (enum_newT t vs k dd so) ⟨ht, ?_⟩
  show _ ∧ _
  rw [e1]
  exact ⟨⟨_, e2, rfl⟩, q _ e2 ⟨_, Heap.get?_push_of_some _ (Heap.get?_push_size _ rfl), rfl, rfl⟩ fun b o z => Heap.get?_push_of_some _ (Heap.get?_push_of_some _ z)⟩
end
/-- the tuple at t, each item in a new pair behind its place -/
def IteT (K : PySem.W.Frag) (t : Addr) : It where
  go i H := ∃ (xs : List V) (x : V), SqT K H t xs ∧ xs[i]? = some x
  yld i H v H' := ∃ N x, v = .ref N ∧ H N = none ∧ H' = upd H N (.tup [.int (i : Nat), x]) ∧ ∀ xs, SqT K H t xs → xs[i]? = some x
  stop i H := ∃ xs : List V, SqT K H t xs ∧ xs.length ≤ i
theorem turn_enumT {P : Program} {w : World} {K : PySem.W.Frag} {elts : List Expr} {kk : Nat} {tpos : Pos} {t e j : Addr} (n1 : e ≠ j) (n2 : t ≠ j) (n3 : e ≠ t) :
    Turn P w K (.Tuple elts kk tpos) (IteT K t) [e, j] e (fun i h => (∃ old, IsEnum h e j ((i : Nat) : Int) old) ∧ h.IsTupleIter j t i) where
  mem := by simp
  obj := fun i h st b hb => by
    obtain ⟨⟨old, he⟩, o, ho, hc, hd⟩ := st
    rcases (show b = e ∨ b = j by simpa using hb) with z | z <;> subst z
    · exact ⟨_, he, fun v q => nomatch q⟩
    · exact ⟨o, ho, fun v q => by rw [hd] at q; cases q⟩
  keep := fun i h h' st k => let ⟨⟨old, he⟩, hi⟩ := st; ⟨⟨old, k e (by simp) _ he⟩, hi.at fun o q => k j (by simp) o q⟩
  item := by
    intro X hP hw hK hc i pins s σ H E I hf st hg
    subst hP hw hK
    obtain ⟨⟨old, he⟩, hi⟩ := st
    obtain ⟨xs, x, hq, hx⟩ := hg
    obtain ⟨its, rv, p, hz⟩ := I.tuple hq
    obtain ⟨u, hu, ru⟩ := rv.get hx
    have le : e < s.heap.objs.size := Heap.lt_size he
    have lj : j < s.heap.objs.size := by
      obtain ⟨_, q, _⟩ := hi
      exact Heap.lt_size q
    have pT : s.heap.IsTuple t its.toArray := p
    have li : i < its.toArray.size := by
      have := (List.getElem?_eq_some_iff.mp hu).1
      rw [List.size_toArray]
      exact this
    have hA1 : X.A.in1.handled = none := I.ok.hd hc
    refine wpAny_pyNext_enum_itemD (Draws.tuple hA1 j t n2 its.toArray) he ⟨hi, pT⟩ li n1 (by simp [n1, n3]) fun y h1 tk hy ho st1 hN hs1 hk => ?_
    have ey : y = u := by
      have h2 : its.toArray[i]? = some y := hy
      rw [List.getElem?_toArray, hu] at h2
      exact (Option.some.inj h2).symm
    subst ey
    obtain ⟨hi1, _⟩ := st1
    refine ⟨_, rfl, wpAny_letOwnedTupleGo_enum (s := { s with heap := h1, toks := tk + 1 }) ho fun h2 he2 sb => ?_⟩
    have hN2 : h2.get? s.heap.objs.size = some { cls := .type "tuple", data := .seq #[.int i tk, y] } := (sb.2 _ (Nat.ne_of_gt le)).trans hN
    have I1 : Inv X pins σ (upd H s.heap.objs.size (.tup [.int (i : Nat), x])) { s with heap := h2, toks := tk + 1 } :=
      I.turnedNew (t' := tk + 1) (ch := [e, j]) (fun b o hb q => (sb.2 b fun z => hb (by simp [z])).trans (hk b o (fun z => hb (by simp [z])) (fun z => hb (by simp [z])) q)) hf (Nat.le_refl _)
        ⟨by show 2 ≤ sizeLine; decide, [.int i tk, y], .cons ⟨_, rfl⟩ (.cons ru .nil), _, hN2, rfl, _, rfl⟩
    refine ⟨.ref s.heap.objs.size, _, I1, rfl, ⟨_, x, rfl, I.hok.fresh (Nat.le_refl _), rfl, fun ys hy => by rw [I.tuple_inj hy hq]; exact hx⟩, ⟨⟨y, ?_⟩, hi1.at fun o q => (sb.2 j (Ne.symm n1)).trans q⟩, fun b hb => ?_⟩
    · have e1 : ((i + 1 : Nat) : Int) = (i : Int) + 1 := by omega
      rw [e1]
      exact he2
    · have lb : b < s.heap.objs.size := by
        rcases (show b = e ∨ b = j by simpa using hb) with z | z <;> (subst z; assumption)
      rw [upd_ne (Nat.ne_of_lt lb)]
      exact (hf b hb).1
  done := by
    intro X hP hw hK hc i pins s σ H E I hf st hg
    subst hP hw hK
    obtain ⟨⟨old, he⟩, hi⟩ := st
    obtain ⟨xs, hq, hx⟩ := hg
    obtain ⟨its, rv, p, hz⟩ := I.tuple hq
    have pT : s.heap.IsTuple t its.toArray := p
    have ll := rv.length
    have none_ : its.toArray[i]? = none := by
      rw [List.getElem?_toArray]
      exact List.getElem?_eq_none (by omega)
    have hA1 : X.A.in1.handled = none := I.ok.hd hc
    have D : Draws X.prog X.w X.A.in1 j [j, t] i (fun _ _ => True) fun k h => k = i ∧ h.IsTupleIter j t i ∧ h.IsTuple t its.toArray :=
      { live := fun k h st => let ⟨o, ho, _⟩ := st.2.1; ⟨o, ho⟩
        frame := fun k h h' st kp => ⟨st.1, st.2.1.at fun o z => kp j (by simp) o z, st.2.2.at fun o z => kp t (by simp) o z⟩
        item := fun k s Q E lt st _ => absurd st.1 (Nat.ne_of_lt lt)
        done := fun s Q E st hE => wpAny_nextOf_tuple_end hA1 st.2.1 st.2.2 none_ hE }
    obtain ⟨f0, f1, f2, f3, f4, f5⟩ := hf j (by simp)
    exact wpAny_pyNext_enum_endD D he ⟨rfl, hi, pT⟩ fun h' eb => ⟨rfl, I.turned (t' := s.toks) (fun b o hb q => eb b o hb q) f0 f1 f3 f4 f5⟩
  self := fun A i s Q E st h => let ⟨⟨_, he⟩, _⟩ := st; wpAny_pyIter_enum he h
/-- enumerate of a list or a tuple -/
def iEnumA (K : PySem.W.Frag) (ta : TA) : TI := fun σ H R => ta σ H fun vs H1 => ∃ a xs, vs = [.ref a] ∧ ((SqL K H1 a xs ∧ R (Ite K a) H1) ∨ (SqT K H1 a xs ∧ R (IteT K a) H1))
theorem pi_enumA {X : Cx} {e : Expr} {ta : TA} {p pos tpos : Pos} {elts : List Expr} {kk : Nat} (hg : Gl X "enumerate") (hm : X.mg "enumerate" = none) (ha : PA X [e] ta) (hs : starEach [e] X.env = [(false, eval e X.env)] := by rfl) :
    PI X (.Tuple elts kk tpos) (.Call (.Name "enumerate" p) [e] [] pos) (iEnumA X.K ta) := by
  refine ⟨fun pins s σ H R I h => ?_⟩
  refine Call_ (ld_blt I hg hm boot_enumerate (PyProof.Rows.callWith_type1 (thn (ha.run pos pins s σ H _ I h) fun us s1 h1 => ?_) hs rfl))
  obtain ⟨vs, H1, I1, r1, a, xs, rfl, q⟩ := h1
  obtain ⟨u, rfl, ru⟩ := r1.one
  cases ru
  have fr : ∀ b, b = s1.heap.objs.size + 1 ∨ b = s1.heap.objs.size → FpOk X pins H1 b := fun b z => by
    have le : s1.heap.objs.size ≤ b := by rcases z with z | z <;> omega
    exact I1.fpOk le (I1.hok.fresh le)
  rcases q with ⟨hq, q⟩ | ⟨hq, q⟩
  · obtain ⟨its, rv, pl, hz⟩ := I1.list hq
    refine call_enumerate_list pl.isList fun h' he hi hz2 hk => wpAny_pyIter_enum he ?_
    exact ⟨_, [s1.heap.objs.size + 1, s1.heap.objs.size], _, _, H1, rfl, I1.kept (t' := s1.toks) hk, turn_enum a _ _, ⟨⟨.none, he⟩, hi, Nat.succ_ne_self _⟩, fun b hb => fr b (by simpa using hb), q⟩
  · obtain ⟨its, rv, pt, hz⟩ := I1.tuple hq
    have pT : s1.heap.IsTuple a its.toArray := pt
    have la : a < s1.heap.objs.size := by
      obtain ⟨o, ho, _⟩ := id pT
      exact Heap.lt_size ho
    refine call_enumT pT fun h' he hi hk => wpAny_pyIter_enum he ?_
    exact ⟨_, [s1.heap.objs.size + 1, s1.heap.objs.size], _, _, H1, rfl, I1.kept (t' := s1.toks) hk, turn_enumT (Nat.succ_ne_self _) (Nat.ne_of_lt la) (Nat.ne_of_gt (Nat.lt_succ_of_lt la)), ⟨⟨.none, he⟩, hi⟩, fun b hb => fr b (by simpa using hb), q⟩
theorem walk_enumT {K : PySem.W.Frag} {t : Addr} {xs : List V} : Walk (IteT K t) xs.length (fun H => SqT K H t xs) (YPair (fun i => some (.int (i : Nat))) (fun i => xs[i]?)) := by
  refine ⟨fun i _ hi q => ⟨xs, xs[i], q, List.getElem?_eq_getElem hi⟩, fun _ q => ⟨xs, q, Nat.le_refl _⟩, fun i H v H' _ q y => ?_⟩
  obtain ⟨N, x, h1, h2, h3, h4⟩ := y
  exact ⟨N, .int (i : Nat), x, h1, h2, h3, rfl, h4 xs q⟩
end Lv

namespace Lv
open PySem PySem.Spec PyProof.Rows L2
section
variable {X : Cx} {C fI : Addr} {c q a b : Str}
/-- None or a small whole number -/
def LineV (x : V) : Prop := x = .non ∨ ∃ n : Nat, n ≤ 100000 ∧ x = .int n
/-- C(x), x None or a small whole number: the error keeps it -/
def tMkL (C : Addr) (ta : TA) : L2.St → Hp → XK → Prop := fun σ H Q => ta σ H fun vs H1 => ∃ x, vs = [x] ∧ LineV x ∧ ∀ d, H1 d = none → Q (.ref C) (some d) (upd H1 d (.xd [(("line" : Str), x)]))
end
end Lv

/-! a def with *v; a classmethod called without arguments -/
namespace Lv
open PySem PySem.Spec PyProof.Rows L2
section
variable {P : Program} {w : World} {K : PySem.W.Frag} {mg : Str → Option Value} {base : Heap}
end
section
variable {X : Cx} {pins : List (Addr × Obj)} {CX : CXT} {k : Nat} {C p g : Addr} {mc : Value} {sp : Sp} {E : XK} {o : Expr} {m : Str} {pos apos : Pos} {ta : TE} {pl : Sem Bool}
/-- e.m(), e the class at C, m a classmethod -/
def tCMeth0 (C : Addr) (sp : Sp) (E : XK) (ta : TE) : TE := fun σ H Q => ta σ H fun x H1 => x = .ref C ∧ sp [.ref C] H1 Q E
end
end Lv

/-! sets of texts that can be walked: add, set(list), sorted -/
namespace Lv
open PySem PySem.Spec PyProof.Rows L2 PySem.W PySem.Calls
def zOf : Value → Str
  | .str z _ => z
  | _ => Str.empty
def GoodZ (P : Program) (w : World) (e : Int × Value) : Prop := ∃ z tk, e.2 = Value.str z tk ∧ e.1 = (strKind P w).hash z
abbrev keyZ (e : Int × Value) : Str := zOf e.2
/-- the set of texts at a: ms its members, in no order -/
def SetZ (P : Program) (w : World) (h : Heap) (a : Addr) (ms : List Str) : Prop := ∃ o es ep t, h.get? a = some o ∧ o.ExactSet ∧ o.data = .set es ep t ∧ (∀ e ∈ es.toList, GoodZ P w e) ∧ (es.toList.map keyZ).Perm ms ∧ ms.Nodup ∧
  es.size < scanBound ∧ t.fits es.size = true ∧ Ris t.place.toList ∧ (w.params.followText "set-order" = true ∨ t.led = true)
section
variable {P : Program} {w : World} {h h' : Heap} {a : Addr} {ms : List Str}
theorem SetZ.at (R : SetZ P w h a ms) (k : ∀ o, h.get? a = some o → h'.get? a = some o) : SetZ P w h' a ms := by
  obtain ⟨o, es, ep, t, ho, r⟩ := R
  exact ⟨o, es, ep, t, k o ho, r⟩
theorem SetZ.len (R : SetZ P w h a ms) : ms.length < scanBound := by
  obtain ⟨o, es, ep, t, ho, h1, h2, h3, h4, h5, h6, _⟩ := R
  rw [← h4.length_eq, List.length_map, Array.length_toList]
  exact h6
end
section
variable {P : Program} {w : World} {A : Around} {E : Value → Shared → Prop} {s : Shared} {a : Addr} {ms : List Str}
/-- in the order of the signs -/
def leZ (x y : Str) : Bool := decide (x.cps.toList ≤ y.cps.toList)
def sortZ (ms : List Str) : List Str := ms.mergeSort leZ
theorem leZ_trans (x y z : Str) (h1 : leZ x y = true) (h2 : leZ y z = true) : leZ x z = true := by
  unfold leZ at *
  rw [decide_eq_true_eq] at *
  exact List.le_trans h1 h2
theorem leZ_total (x y : Str) : (leZ x y || leZ y x) = true := by
  unfold leZ
  rw [Bool.or_eq_true, decide_eq_true_eq, decide_eq_true_eq]
  exact List.le_total _ _
theorem leZ_anti {x y : Str} (h1 : leZ x y = true) (h2 : leZ y x = true) : x = y := by
  unfold leZ at *
  rw [decide_eq_true_eq] at *
  have e := List.le_antisymm h1 h2
  obtain ⟨⟨u⟩⟩ := x
  obtain ⟨⟨v⟩⟩ := y
  exact congrArg (fun l : List Nat => (⟨⟨l⟩⟩ : Str)) e
theorem sortZ_perm (ms : List Str) : (sortZ ms).Perm ms := List.mergeSort_perm _ _
theorem sortZ_le (ms : List Str) : (sortZ ms).Pairwise fun x y => leZ x y = true := List.pairwise_mergeSort leZ_trans leZ_total ms
end
end Lv

/-! set(list of texts), as tracked things -/
namespace Lv
open PySem PySem.Spec PyProof.Rows L2 PySem.W PySem.Calls
/-- the first i of the texts, each once -/
def onceZ (zs : List Str) : List Str := zs.foldl (fun ms z => if z ∈ ms then ms else z :: ms) []
section
variable {P : Program} {w : World} {A : Around} {E : Value → Shared → Prop} {s : Shared}
end
def SetZO (P : Program) (w : World) (a : Addr) (ms : List Str) : HO := .ext fun h => SetZ P w h a ms
/-- set.add of a text -/
def AddZ (P : Program) (w : World) : V → Hp → Addr → (Hp → Prop) → Prop := fun y H D N => ∃ (z : Str) (ms : List Str), y = .str z ∧ H D = some (SetZO P w D ms) ∧ ms.length + 1 < scanBound ∧ N (upd H D (SetZO P w D (if z ∈ ms then ms else z :: ms)))
section
variable {X : Cx}
/-- set(list of texts) -/
def rSetZ (K : PySem.W.Frag) (P : Program) (w : World) : List V → Hp → VK → Prop := fun xs H Q => ∃ (l : Addr) (zs : List Str), xs = [.ref l] ∧ SqL K H l (zs.map V.str) ∧ zs.length ≤ 1000 ∧ ∀ p, H p = none → Q (.ref p) (upd H p (SetZO P w p (onceZ zs)))
/-- sorted(set of texts) -/
def rSortZ (P : Program) (w : World) : List V → Hp → VK → Prop := fun xs H Q => ∃ (a : Addr) (ms : List Str), xs = [.ref a] ∧ H a = some (SetZO P w a ms) ∧ ∀ p, H p = none → Q (.ref p) (upd H p (.lst ((sortZ ms).map V.str)))
end
end Lv

/-! tuple * number, many times -/
namespace Lv
open PySem PySem.Spec PyProof.Rows L2
/-- a short tuple, up to 10000 times -/
def rRepL (K : PySem.W.Frag) : R2 := fun x y H Q => ∃ l n xs, x = .ref l ∧ y = .int (n : Nat) ∧ SqT K H l xs ∧ xs ≠ [] ∧ 2 ≤ n ∧ n ≤ 10000 ∧ xs.length ≤ 10 ∧ ∀ p, H p = none → Q (.ref p) (upd H p (.tup (List.replicate n xs).flatten))
end Lv

/-! None in a list of tuples and of instances with an own __eq__ -/
namespace Lv
open PySem PySem.Spec PyProof.Rows L2 PySem.SeqAt
open AutoSeq1 (wpAny_loadPart')
open MeetsSeq MeetsSeq2 MeetsSeq3 SeqRoads2
section
variable {prog : Program} {w : World}
/-- an item that is not equal to x, whatever state of J -/
def NotJ (prog : Program) (w : World) (J : Shared → Prop) (E : Value → Shared → Prop) (A : Around) (y x : Value) : Prop :=
  ∀ (s : Shared), J s → ∀ (Q : Bool → Shared → Prop), (∀ s', J s' → Q false s') → wpAny (model prog w) A (eqBool y x) Q E s
end
section
end
section
variable {X : Cx} {CX : CXT} {n : Nat} {C g : Addr} {sp : Sp} {E : XK}
/-- None in l, l of tuples and of instances of C that are not equal to None -/
def rNoneIn (K : PySem.W.Frag) (C : Addr) (sp : Sp) : R2 := fun x y H Q => ∃ (p : Addr) (xs : List V), x = .non ∧ y = .ref p ∧ SqL K H p xs ∧
  (∀ v ∈ xs, (∃ a ys, v = .ref a ∧ SqT K H a ys) ∨ ∃ a dx fs, v = .ref a ∧ H a = some (.ins C dx fs) ∧ sp [v, .non] H (fun z H' => z = .bl false ∧ H' = H) E0) ∧ Q (.bl false) H
end
section
variable {X : Cx} {a b : Expr} {ta : TT} {tb : TTw} {pos : Pos}
def wOr2 (ta : TT) (tb : TTw) : TTw := fun σ H Q => ta σ H fun k H1 => if k = true then Q true σ H1 else tb σ H1 Q
end
/-- list(x) of a list or a tuple -/
def rListOf (K : PySem.W.Frag) : List V → Hp → VK → Prop := fun xs H Q => ∃ p ys, xs = [V.ref p] ∧ (SqL K H p ys ∨ SqT K H p ys) ∧ ∀ l, H l = none → Q (V.ref l) (upd H l (HO.lst ys))
end Lv

/-! dicts whose keys are nested tuples: get, setdefault; | and - and in by defs of a class's own -/
namespace Lv
open PySem PySem.Spec PyProof.Rows L2
/-- d.get(y, z) -/
def rGetN (P : Program) (w : World) (K : PySem.W.Frag) : V → List V → Hp → VK → Prop := fun x xs H Q => ∃ (a : Addr) (L : Ents) (k : NestedKey) (b : Addr) (z : V), x = .ref a ∧ xs = [.ref b, z] ∧ Rd H a (DicNO P w a L) ∧ (∀ p ∈ L, KeyAt K H p.1 p.2.1) ∧ KeyAt K H k b ∧
  Q (((atE L k).map (·.2)).getD z) H
/-- d.setdefault(y, z) -/
def rSetdN (P : Program) (w : World) (K : PySem.W.Frag) : V → List V → Hp → VK → Prop := fun x xs H Q => ∃ (a : Addr) (L : Ents) (k : NestedKey) (b : Addr) (z : V), x = .ref a ∧ xs = [.ref b, z] ∧ H a = some (DicNO P w a L) ∧ (∀ p ∈ L, KeyAt K H p.1 p.2.1) ∧ KeyAt K H k b ∧ L.length < sizeLine ∧
  (∀ c v, atE L k = some (c, v) → Q v H) ∧ ((atE L k).isSome = false → Q z (upd H a (DicNO P w a (L ++ [(k, b, z)]))))
section
open PySem.W
variable {prog : Program} {w : World} {A : Around} {E : Value → Shared → Prop} {s : Shared} {K : Frag} {x b C f : Addr} {ox ob : Obj} {od od2 : Option Obj}
end
section
variable {X : Cx} {CX : CXT} {n : Nat} {C g : Addr} {sp : Sp} {E : XK}
/-- x op y, both of the class at C, by its own def -/
def rBinI (C : Addr) (sp : Sp) (E : XK) : R2 := fun x y H Q => ∃ a dx fs b dy gs, x = .ref a ∧ y = .ref b ∧ H a = some (.ins C dx fs) ∧ H b = some (.ins C dy gs) ∧ sp [x, y] H Q E
/-- x in y, x not in y: y of the class at C, by its own def, which answers a truth -/
def rInI (neg : Bool) (C : Addr) (sp : Sp) (E : XK) : R2 := fun x y H Q => ∃ a dx fs, y = .ref a ∧ H a = some (.ins C dx fs) ∧ sp [y, x] H (fun z H' => ∃ b : Bool, z = .bl b ∧ Q (.bl (if neg then !b else b)) H') E
end
end Lv

/-! the tables of small sets: laying anew never fails, an empty slot is found; masks 7, 15, 31, 63 -/
namespace Lv
open PySem PySem.Spec PyProof.Rows L2
def MW (m : Nat) : Prop := m = 7 ∨ m = 15 ∨ m = 31 ∨ m = 63
/-- the walk of the first slots, from (i, b) -/
def wlk (m : Nat) : Nat → Nat → Nat → Nat × Nat
  | 0, i, b => (i, b)
  | n + 1, i, b => wlk m n (SetTable.leap m i b).1 (SetTable.leap m i b).2
theorem wlk_le {m : Nat} : ∀ (n i b : Nat), i ≤ m → (wlk m n i b).1 ≤ m
  | 0, i, b, h => h
  | n + 1, i, b, h => wlk_le n _ _ (Nat.le_of_lt_succ (Nat.mod_lt _ (Nat.succ_pos _)))
theorem wlk_add {m : Nat} : ∀ (n k i b : Nat), wlk m (n + k) i b = wlk m k (wlk m n i b).1 (wlk m n i b).2
  | 0, k, i, b => by rw [Nat.zero_add]; rfl
  | n + 1, k, i, b => by
    rw [Nat.add_right_comm]
    exact wlk_add n k _ _
theorem wlk_snd {m : Nat} : ∀ (n i b : Nat), (wlk m n i b).2 = b / 32 ^ n
  | 0, i, b => by rw [Nat.pow_zero, Nat.div_one]; rfl
  | n + 1, i, b => by
    show (wlk m n _ (b / 32)).2 = _
    rw [wlk_snd n, Nat.div_div_eq_div_mul, Nat.pow_succ, Nat.mul_comm]
/-- the walk with no more bits -/
def lcgS (m : Nat) (i : Nat) : Nat := (i * 5 + 1) % (m + 1)
theorem wlk_zero {m : Nat} : ∀ (n i b : Nat), b / 32 = 0 → (wlk m n i b).1 = Nat.repeat (lcgS m) n i
  | 0, i, b, h => rfl
  | n + 1, i, b, h => by
    have e1 : (SetTable.leap m i b).1 = lcgS m i := by
      show (i * 5 + 1 + b / 32) % (m + 1) = _
      rw [h]
      rfl
    have e2 : (SetTable.leap m i b).2 = 0 := h
    show (wlk m n (SetTable.leap m i b).1 (SetTable.leap m i b).2).1 = _
    rw [wlk_zero n _ _ (by rw [e2]), e1]
    clear e1 e2 h
    induction n generalizing i with
    | zero => rfl
    | succ n ih =>
      show lcgS m (Nat.repeat (lcgS m) n (lcgS m i)) = lcgS m (Nat.repeat (lcgS m) (n + 1) i)
      rw [ih]
theorem lcg_cover {m : Nat} (hm : MW m) : ∀ i, i ≤ m → ∀ j, j ≤ m → ∃ k, k ≤ m ∧ Nat.repeat (lcgS m) k i = j := by
  have key : ∀ m, ((List.range (m + 1)).all fun i => (List.range (m + 1)).all fun j => (List.range (m + 1)).any fun k => decide (Nat.repeat (lcgS m) k i = j)) = true → ∀ i, i ≤ m → ∀ j, j ≤ m → ∃ k, k ≤ m ∧ Nat.repeat (lcgS m) k i = j := by
    intro m h i hi j hj
    have h1 := List.all_eq_true.mp h i (List.mem_range.mpr (by omega))
    have h2 := List.all_eq_true.mp h1 j (List.mem_range.mpr (by omega))
    obtain ⟨k, hk, e⟩ := List.any_eq_true.mp h2
    exact ⟨k, by have := List.mem_range.mp hk; omega, of_decide_eq_true e⟩
  rcases hm with rfl | rfl | rfl | rfl
  · exact key 7 (by decide +kernel)
  · exact key 15 (by decide +kernel)
  · exact key 31 (by decide +kernel)
  · exact key 63 (by decide +kernel)
/-- each slot is met within the turns -/
theorem wlk_meets {m : Nat} (hm : MW m) (h : Int) {j : Nat} (hj : j ≤ m) : ∃ n, n < SetTable.turns m ∧ (wlk m n (SetTable.bits h % (m + 1)) (SetTable.bits h)).1 = j := by
  have hi : (wlk m 12 (SetTable.bits h % (m + 1)) (SetTable.bits h)).1 ≤ m := wlk_le _ _ _ (Nat.le_of_lt_succ (Nat.mod_lt _ (Nat.succ_pos _)))
  obtain ⟨k, hk, e⟩ := lcg_cover hm _ hi j hj
  refine ⟨12 + k, by unfold SetTable.turns; omega, ?_⟩
  rw [wlk_add, wlk_zero k _ _ ?_]
  · exact e
  · rw [wlk_snd, Nat.div_div_eq_div_mul]
    have hb := bits_lt h
    exact Nat.div_eq_of_lt (by
      have : (2 : Nat) ^ 64 ≤ 32 ^ 12 * 32 := by decide +kernel
      omega)
/-! ### laying anew -/
theorem free_sound (m : Nat) (owner : Array (Option Nat)) : ∀ (f i b j : Nat), SetTable.layClean.free m owner f i b = some j → oAt owner j = none
  | 0, _, _, _, h => nomatch h
  | f + 1, i, b, j, h => by
    rw [free_succ] at h
    cases hf : (List.range (SetTable.runEnd m i + 1 - i)).find? fun k => (oAt owner (i + k)).isNone with
    | some k =>
      rw [hf] at h
      have e : i + k = j := Option.some.inj h
      have := List.find?_some hf
      rw [e] at this
      exact Option.isNone_iff_eq_none.mp this
    | none =>
      rw [hf] at h
      exact free_sound m owner f _ _ j h
theorem free_full (m : Nat) (owner : Array (Option Nat)) {j : Nat} (hj : oAt owner j = none) : ∀ (f n i b : Nat), n < f → (wlk m n i b).1 = j → ∃ j', SetTable.layClean.free m owner f i b = some j'
  | 0, n, _, _, hn, _ => absurd hn (Nat.not_lt_zero _)
  | f + 1, n, i, b, hn, e => by
    rw [free_succ]
    cases hf : (List.range (SetTable.runEnd m i + 1 - i)).find? fun k => (oAt owner (i + k)).isNone with
    | some k => exact ⟨_, rfl⟩
    | none =>
      show ∃ j', SetTable.layClean.free m owner f _ _ = some j'
      cases n with
      | zero =>
        have e : i = j := e
        have h0 := List.find?_eq_none.mp hf 0 (List.mem_range.mpr (by have := runEnd_ge m i; omega))
        rw [Nat.add_zero, e, hj] at h0
        exact absurd rfl h0
      | succ n => exact free_full m owner hj f n _ _ (by omega) e
/-- who sits where, n of them laid -/
structure OwnW (m n : Nat) (owner : Array (Option Nat)) : Prop where
  sz : owner.size = m + 1
  all : ∀ k, k < n → ∃ j, j ≤ m ∧ oAt owner j = some k
  bd : ∀ j k, j ≤ m → oAt owner j = some k → k < n
  inj : ∀ j j' k, j ≤ m → j' ≤ m → oAt owner j = some k → oAt owner j' = some k → j = j'
theorem OwnW.init (m : Nat) : OwnW m 0 (Array.replicate (m + 1) none) := ⟨by simp, fun k h => absurd h (Nat.not_lt_zero _), fun j k hj e => (by rw [oAt_init hj] at e; cases e), fun j j' k hj _ e _ => (by rw [oAt_init hj] at e; cases e)⟩
theorem oAt_big {owner : Array (Option Nat)} {j : Nat} (h : oAt owner j = none) : j < owner.size := by
  by_cases hj : j < owner.size
  · exact hj
  · have : oAt owner j = some 0 := by
      show owner.getD j (some 0) = some 0
      rw [Array.getD_eq_getD_getElem?, Array.getElem?_eq_none (by omega)]
      rfl
    rw [this] at h
    cases h
theorem OwnW.gap {m n : Nat} {owner : Array (Option Nat)} (W : OwnW m n owner) (hn : n ≤ m) : ∃ j, j ≤ m ∧ oAt owner j = none := by
  refine Classical.byContradiction fun no => ?_
  have hs : ∀ j, j ≤ m → ∃ k, oAt owner j = some k := fun j hj => by
    cases e : oAt owner j with
    | none => exact absurd ⟨j, hj, e⟩ no
    | some k => exact ⟨k, rfl⟩
  have l := nat_nodup_len ((List.range (m + 1)).map fun j => (oAt owner j).getD 0) (List.range n) (by
    refine List.pairwise_map.mpr (List.Pairwise.imp_of_mem (fun {a b} ha hb hab => ?_) (List.nodup_range : (List.range (m + 1)).Nodup))
    have ha := List.mem_range.mp ha
    have hb := List.mem_range.mp hb
    obtain ⟨k, ek⟩ := hs a (by omega)
    obtain ⟨k', ek'⟩ := hs b (by omega)
    rw [ek, ek']
    intro e
    have e : k = k' := e
    subst e
    exact hab (W.inj a b k (by omega) (by omega) ek ek')) fun x hx => by
    obtain ⟨j, hj, e⟩ := List.mem_map.mp hx
    have hj := List.mem_range.mp hj
    obtain ⟨k, ek⟩ := hs j (by omega)
    rw [ek] at e
    have e : k = x := e
    subst e
    exact List.mem_range.mpr (W.bd j k (by omega) ek)
  rw [List.length_map, List.length_range, List.length_range] at l
  omega
theorem OwnW.step {m n : Nat} (hm : MW m) {owner : Array (Option Nat)} (W : OwnW m n owner) (hn : n ≤ m) (h : Int) :
    ∃ j, SetTable.layClean.free m owner (SetTable.turns m) (SetTable.bits h % (m + 1)) (SetTable.bits h) = some j ∧ OwnW m (n + 1) (owner.setIfInBounds j (some n)) := by
  obtain ⟨j0, hj0, e0⟩ := W.gap hn
  obtain ⟨q, hq, eq⟩ := wlk_meets hm h hj0
  obtain ⟨j, ej⟩ := free_full m owner e0 (SetTable.turns m) q _ _ hq eq
  have en := free_sound m owner _ _ _ _ ej
  have hj : j < owner.size := oAt_big en
  have hjm : j ≤ m := by have := W.sz; omega
  refine ⟨j, ej, by rw [Array.size_setIfInBounds]; exact W.sz, fun k hk => ?_, fun i k hi e => ?_, fun i i' k hi hi' e e' => ?_⟩
  · by_cases hkn : k = n
    · subst hkn
      exact ⟨j, hjm, oAt_set_self _ hj⟩
    · obtain ⟨i, hi, e⟩ := W.all k (by omega)
      refine ⟨i, hi, ?_⟩
      rw [oAt_set_ne _ (fun z => by rw [z, en] at e; cases e)]
      exact e
  · by_cases z : i = j
    · subst z
      rw [oAt_set_self _ hj] at e
      cases e
      omega
    · rw [oAt_set_ne _ z] at e
      have := W.bd i k hi e
      omega
  · by_cases z : i = j
    · subst z
      rw [oAt_set_self _ hj] at e
      cases e
      by_cases z' : i' = i
      · exact z'.symm
      · rw [oAt_set_ne _ z'] at e'
        have := W.bd i' n hi' e'
        omega
    · rw [oAt_set_ne _ z] at e
      by_cases z' : i' = j
      · subst z'
        rw [oAt_set_self _ hj] at e'
        cases e'
        have := W.bd i n hi e
        omega
      · rw [oAt_set_ne _ z'] at e'
        exact W.inj i i' k hi hi' e e'
/-- a table of n entries, all slots told -/
structure TabW (t : SetTable) (n : Nat) : Prop where
  ris : Ris t.place.toList
  dm : t.dummies = #[]
  sz : t.place.size = n
  mok : MW t.mask
  bd : ∀ x ∈ t.place.toList, x ≤ t.mask
end Lv

/-! two sets of texts put together: set | set -/
namespace Lv
open PySem PySem.Spec PyProof.Rows L2 PySem.W PySem.Calls
section
variable {P : Program} {w : World} {A : Around} {E : Value → Shared → Prop} {s : Shared} {a : Addr} {ms : List Str}
/-- the set of texts at a, its parts told -/
structure RawZ (P : Program) (w : World) (h : Heap) (a : Addr) (ms : List Str) (o : Obj) (es : Array (Int × Value)) (ep : Nat) (t : SetTable) : Prop where
  ho : h.get? a = some o
  hex : o.ExactSet
  hd : o.data = .set es ep t
  g : ∀ e ∈ es.toList, GoodZ P w e
  pm : (es.toList.map keyZ).Perm ms
  nd : ms.Nodup
  hb : es.size < scanBound
  hf : t.fits es.size = true
  hr : Ris t.place.toList
  hl : w.params.followText "set-order" = true ∨ t.led = true
namespace RawZ
variable {h h' : Heap} {o : Obj} {es : Array (Int × Value)} {ep : Nat} {t : SetTable}
theorem z (R : RawZ P w h a ms o es ep t) : SetZ P w h a ms := ⟨o, es, ep, t, R.1, R.2, R.3, R.4, R.5, R.6, R.7, R.8, R.9, R.10⟩
theorem len (R : RawZ P w h a ms o es ep t) : es.size = ms.length := by
  rw [← R.pm.length_eq, List.length_map, Array.length_toList]
theorem to {us : List Str} (R : RawZ P w h a ms o es ep t) (nd : us.Nodup) (m : ∀ z, z ∈ us ↔ z ∈ ms) : RawZ P w h a us o es ep t :=
  ⟨R.1, R.2, R.3, R.4, R.5.trans ((List.perm_ext_iff_of_nodup R.6 nd).2 fun z => (m z).symm), nd, R.7, R.8, R.9, R.10⟩
end RawZ
section
variable {o : Obj} {es : Array (Int × Value)} {ep : Nat} {t : SetTable}
end
section
variable {o : Obj} {es : Array (Int × Value)} {ep : Nat} {t : SetTable} {b : Addr} {ns : List Str} {ob : Obj} {esb : Array (Int × Value)} {epb : Nat} {tb : SetTable}
def uniZ (ms ns : List Str) : List Str := ms ++ ns.filter fun z => decide (z ∉ ms)
end
end
section
variable {P : Program} {w : World} {A : Around} {E : Value → Shared → Prop} {s : Shared} {a : Addr} {ms : List Str}
end
section
variable {X : Cx}
/-- set | set, both of texts -/
def rOrZ (P : Program) (w : World) : R2 := fun x y H Q => ∃ (a b : Addr) (ms ns : List Str), x = .ref a ∧ y = .ref b ∧ H a = some (SetZO P w a ms) ∧ H b = some (SetZO P w b ns) ∧ ms.length + ns.length ≤ 31 ∧ ∀ p, H p = none → Q (.ref p) (upd H p (SetZO P w p (uniZ ms ns)))
end
end Lv

/-! dicts whose keys are nested tuples: values(), list of them; walked by items() -/
namespace Lv
open PySem PySem.Spec PyProof.Rows L2
/-- the view d.values() at p -/
def valsO (p d : Addr) : HO := .ext fun h => h.IsValuesView p d
theorem valsO_ok {P : Program} {w : World} {H : Hp} {h : Heap} {p d : Addr} (e : h.get? p = some { cls := .type "dict_values", data := .fields #[.ref d] }) : ObjOk P w H h p (valsO p d) :=
  ⟨⟨_, e, rfl, rfl⟩, ⟨_, e⟩, fun h1 h2 x k => let ⟨o, ho, r⟩ := x; ⟨o, k o ho, r⟩⟩
def rValsN (P : Program) (w : World) : V → List V → Hp → VK → Prop := fun x xs H Q => ∃ (a : Addr) (L : Ents), x = .ref a ∧ xs = [] ∧ H a = some (DicNO P w a L) ∧ ∀ p, H p = none → Q (.ref p) (upd H p (valsO p a))
theorem mt_valsN {X : Cx} : MtR X "dict.values" (rValsN X.prog X.w) := by
  intro pins s σ H x xs v us Q I rx rxs h
  obtain ⟨a, L, rfl, rfl, ha, q⟩ := h
  cases rx
  cases rxs
  obtain ⟨z, hd, xs', rel, o, es, ep, ho, hx, hdat, _⟩ := dic_rd I.hok (.inl ha)
  have hf : H s.heap.objs.size = none := I.hok.fresh (Nat.le_refl _)
  refine call_meetsIn PySem.F.slot_dict_values (⟨o, ho, hx.1⟩ : s.TypeIs (.ref a) "dict") PySem.F.entry_dict_values (PySem.F.args_dict_values_1 _) (meets_dict_values_raw a hd) ⟨⟨es, ep, o, ho, hx, hdat⟩, ?_⟩
  exact ⟨.ref s.heap.objs.size, upd H s.heap.objs.size (valsO s.heap.objs.size a), I.laid (t' := s.toks) (fun b u e => Heap.get?_push_of_some _ e) (Nat.le_refl _) (valsO_ok (Heap.get?_push_size _ rfl)), rfl, q _ hf⟩
/-- list(d.values()) -/
def rListVals (P : Program) (w : World) : List V → Hp → VK → Prop := fun xs H Q => ∃ (p a : Addr) (L : Ents), xs = [.ref p] ∧ H p = some (valsO p a) ∧ H a = some (DicNO P w a L) ∧ ∀ q, H q = none → Q (.ref q) (upd H q (.lst (L.map (·.2.2))))
theorem cr_listVals {X : Cx} (hc : X.calm = true) : CallR X (.type "list") (rListVals X.prog X.w) := by
  intro pins s σ H xs us Q I r h
  obtain ⟨p, a, L, rfl, hp, ha, q⟩ := h
  obtain ⟨u, rfl, ru⟩ := r.one
  cases (show u = Value.ref p from ru)
  have hv : s.heap.IsValuesView p a := (I.hok p _ hp).1
  obtain ⟨z, hd, ys, rel, o, es, ep, ho, hx, hdat, he, _⟩ := dic_rd I.hok (.inl ha)
  have lx : L.length = ys.length := Paired.length rel
  have hsz := size_of_entries he
  refine PySem.W.kdl_call PySem.KdlSrc.rawValues (I.ok.hd hc) ⟨hv, o, ho, hx, hdat⟩ (by omega) fun h' tk acc c kp hg hit => ?_
  have hn : H s.heap.objs.size = none := I.hok.fresh (Nat.le_refl _)
  have rv : Vals (L.map (·.2.2)) acc.toList := by
    have go : ∀ {L : Ents} {ys : List (NestedKey × Addr × Value)}, Paired RelE L ys → Vals (L.map (·.2.2)) (ys.map (·.2.2)) := by
      intro L ys r
      induction r with
      | nil => exact .nil
      | cons r t ih => exact .cons r.2.2 ih
    have e : acc.toList = ys.map (·.2.2) := by
      apply List.ext_getElem?
      intro i
      by_cases hi : i < es.size
      · have hi1 : i < acc.size := by rw [hit.1]; exact hi
        obtain ⟨_, e2⟩ := hit.2 i _ (Array.getElem?_eq_getElem hi1)
        have e3 := entry_at he i
        rw [Array.getElem?_eq_getElem hi] at e3
        rw [Array.getElem?_toList, Array.getElem?_eq_getElem hi1, e2, List.getElem?_map]
        cases e4 : ys[i]? with
        | none => rw [e4] at e3; cases e3
        | some y =>
          rw [e4] at e3
          have e5 : es[i] = entryOfKey (nestedKind X.prog X.w) y := Option.some.inj e3
          rw [e5]
          rfl
      · rw [List.getElem?_eq_none (by rw [Array.length_toList, hit.1]; omega), List.getElem?_eq_none (by rw [List.length_map]; omega)]
    rw [e]
    exact go rel
  exact ⟨.ref s.heap.objs.size, _, I.laid (a := s.heap.objs.size) (o := .lst (L.map (·.2.2))) (t' := tk) kp (Nat.le_refl _) ⟨by rw [List.length_map]; exact z, acc.toList, c, rv, by simpa using hg⟩, rfl, q _ hn⟩
section
variable {X : Cx} {pins : List (Addr × Obj)} {σ : L2.St} {H : Hp} {s : Shared} {d : Addr} {o : Obj} {L : Ents}
end
/-- the pairs of the locked dict, each a new tuple -/
def ItiN (P : Program) (w : World) (d : Addr) (o : Obj) (L : Ents) : It where
  go i H := H d = some (.frz o (DicNO P w d L)) ∧ i < L.length
  yld i H x H' := ∃ T k b v, L[i]? = some (k, b, v) ∧ x = .ref T ∧ H T = none ∧ H' = upd H T (.tup [.ref b, v])
  stop i H := H d = some (.frz o (DicNO P w d L)) ∧ L.length ≤ i
/-- for (..) in d.items(), d locked -/
def iItemsN (P : Program) (w : World) (td : TE) : TI := fun σ H R => td σ H fun x H1 => ∃ (d : Addr) (o : Obj) (L : Ents), x = .ref d ∧ H1 d = some (.frz o (DicNO P w d L)) ∧ R (ItiN P w d o L) H1
end Lv

/-! set(tuple of texts); x |= y and x -= y of a class's own | and - -/
namespace Lv
open PySem PySem.Spec PyProof.Rows L2 PySem.W PySem.Calls
section
variable {P : Program} {w : World} {A : Around} {E : Value → Shared → Prop} {s : Shared}
end
section
variable {X : Cx}
/-- set(tuple of texts) -/
def rSetZT (K : PySem.W.Frag) (P : Program) (w : World) : List V → Hp → VK → Prop := fun xs H Q => ∃ (l : Addr) (zs : List Str), xs = [.ref l] ∧ SqT K H l (zs.map V.str) ∧ zs.length ≤ 1000 ∧ ∀ p, H p = none → Q (.ref p) (upd H p (SetZO P w p (onceZ zs)))
end
section
open PySem.W
/-- no x op= of the class's own -/
def noInpl (K : Frag) (C : Addr) (nm : String) : Bool := (clsIn K C).any fun cd => cd.mro.all fun c => findIn K c (dunderI nm) == some none
variable {prog : Program} {w : World} {A : Around} {E : Value → Shared → Prop} {s : Shared} {K : Frag} {x b C f : Addr} {ox ob : Obj} {od od2 : Option Obj}
end
section
variable {X : Cx} {CX : CXT} {n : Nat} {C g : Addr} {sp : Sp} {E : XK}
end
end Lv

/-! if and for in a generator def's body -/
namespace PySem
open Sem (wp)
section
variable {M : Model} {A : Around} {R : GenEnd} {Y : Protocol} {n : Nat} {s₀ : Shared} {c : Code} {fs : List Frame} {s : Shared} {env : Env}
  {K : Flow → Sem Fin} {H : Value → Sem Fin} {gd : Bool → Bool} {lv : List Value → List Value}
theorem lv_seg_If {test : Expr} {body orelse : List Stmt} {pos : Pos}
    (h : wpAny M (A.over c fs) (isTrue test env (eval test env)) (fun b s' => Seg M A R Y n s₀ c ((if b = true then execs body env else execs orelse env).wrap K H gd lv) fs s')
      (fun x s' => Seg M A R Y n s₀ c (H x) fs s') s) : Seg M A R Y n s₀ c ((exec (.If test body orelse pos) env).wrap K H gd lv) fs s := by
  rw [exec_If]
  exact seg_bind_wrap (wpAny_standAt (seg_bind_wrap h))
theorem lv_seg_For {target iter : Expr} {body orelse : List Stmt} {pos : Pos}
    (h : wpAny M (A.over c fs) (eval iter env) (fun x s₁ => wpAny M (A.over c fs) (pyIter x) (fun it s₂ =>
        ∀ p, Seg M A R Y n s₀ (.forLoop target it body orelse env) (M.den (.forLoop target it body orelse env))
          (.ret (fun r => ((match r with | .ok f => (.pure f : Sem Flow) | .error e => .raise e).onRaise fun (x : Value) => do
            if (← field x 1) == Value.none then unsupported "frame.own-activation:exception-without-traceback"
            setFlight x env.frame).wrap K H gd lv) none (gd false) (lv []) c p [] :: fs) s₂)
        (fun x s' => Seg M A R Y n s₀ c (H x) fs s') s₁)
      (fun x s' => Seg M A R Y n s₀ c (H x) fs s') s)
    (hs : ∀ x, foldedSetIterable iter env x = pure x := by intro _; rfl) :
    Seg M A R Y n s₀ c ((exec (.For target iter body orelse pos) env).wrap K H gd lv) fs s := by
  rw [exec_For]
  refine seg_bind_wrap (wpAny_standAt ?_)
  refine seg_bind_wrap (wpAny_mono h (fun x s₁ h₁ => ?_) fun _ _ e => e)
  rw [hs x]
  refine seg_bind_wrap (wpAny_pure ?_)
  refine seg_bind_wrap (wpAny_standAt ?_)
  refine seg_bind_wrap (wpAny_holding (wpAny_mono h₁ (fun it s₂ h₂ => ?_) fun _ _ e => e))
  exact seg_call h₂
end
section
variable {prog : Program} {w : World} {A : Around} {R : GenEnd} {Y : Protocol} {n : Nat} {s₀ : Shared} {fs : List Frame} {s : Shared} {env : Env}
theorem lv_seg_forLoop {target : Expr} {it : Value} {body : List Stmt}
    (h : wpAny (model prog w) (A.over (.forLoop target it body [] env) fs) (pyNext it) (fun r s1 => match r with
        | none => Seg (model prog w) A R Y n s₀ (.forLoop target it body [] env) (.pure (.again (.block [] env))) fs s1
        | some v => wpAny (model prog w) (A.over (.forLoop target it body [] env) fs) (letOwnedTupleGo target it v) (fun _ s2 =>
            wpAny (model prog w) (A.over (.forLoop target it body [] env) fs) (assign target env v) (fun _ s3 =>
              Seg (model prog w) A R Y n s₀ (.forLoop target it body [] env) ((execs body env).wrap (fun f => match f with
                | .next | .cont => .pure (.again (.forLoop target it body [] env))
                | .brk => .pure (.done .next)
                | .ret v => .pure (.done (.ret v))) (fun e => (do noteFrame e env; theTreesLotGoes e : Sem Unit).wrap (fun _ => .raise e) .raise id id) id id) fs s3)
              (fun x s' => Seg (model prog w) A R Y n s₀ (.forLoop target it body [] env) ((do noteFrame x env; theTreesLotGoes x : Sem Unit).wrap (fun _ => .raise x) .raise id id) fs s') s2)
            (fun x s' => Seg (model prog w) A R Y n s₀ (.forLoop target it body [] env) ((do noteFrame x env; theTreesLotGoes x : Sem Unit).wrap (fun _ => .raise x) .raise id id) fs s') s1)
      (fun x s' => Seg (model prog w) A R Y n s₀ (.forLoop target it body [] env) ((do noteFrame x env; theTreesLotGoes x : Sem Unit).wrap (fun _ => .raise x) .raise id id) fs s') s) :
    Seg (model prog w) A R Y n s₀ (.forLoop target it body [] env) ((model prog w).den (.forLoop target it body [] env)) fs s := by
  show Seg _ A R Y n s₀ _ ((forTurn target it body [] env).onRaise (fun x => do noteFrame x env; theTreesLotGoes x)) fs s
  rw [Sem.onRaise_eq_wrap]
  have ee : ∀ {e : Value}, ((do noteFrame e env; theTreesLotGoes e : Sem Unit).bind fun _ => (.raise e : Sem Fin)) = (do noteFrame e env; theTreesLotGoes e : Sem Unit).wrap (fun _ => .raise e) .raise id id := fun {e} => Sem.bind_eq_wrap _ _
  unfold forTurn
  refine seg_bind_wrap (wpAny_standAt ?_)
  refine seg_bind_wrap (wpAny_onRaise (wpAny_mono h (fun r s1 h1 => ?_) fun x s' hx => wpAny_standAt (by rw [ee]; exact hx)))
  cases r with
  | none => exact h1
  | some v =>
    refine seg_bind_wrap (wpAny_mono h1 (fun _ s2 h2 => ?_) fun x s' hx => by rw [ee]; exact hx)
    refine seg_bind_wrap (wpAny_mono h2 (fun _ s3 h3 => ?_) fun x s' hx => by rw [ee]; exact hx)
    rw [Sem.bind_eq_wrap', Sem.wrap_wrap]
    refine Eq.mpr (congrArg (fun m => Seg (model prog w) A R Y n s₀ (.forLoop target it body [] env) m fs s3) (Sem.wrap_congr (execs body env) (K' := fun f => match f with
            | .next | .cont => .pure (.again (.forLoop target it body [] env))
            | .brk => .pure (.done .next)
            | .ret v => .pure (.done (.ret v))) (H' := (fun e => (do noteFrame e env; theTreesLotGoes e : Sem Unit).wrap (fun _ => .raise e) .raise id id)) id id (fun f => ?_) (fun e => ?_))) h3
    · cases f <;> rfl
    · exact ee
end
end PySem

namespace L2
open PySem PySem.Spec PyProof.Rows GenW
section
variable {X : Cx} {pos : Pos}
/-! ### if -/
def tGIf (c : TT) (t u : TGn) : TGn := fun D ys σ H => c σ H fun b H1 => if b = true then t D ys σ H1 else u D ys σ H1
/-! ### for -/
def tGFor (wi : TI) (g : TG) (tb : TGn) : TGn := fun D ys σ H => wi σ H fun J H1 => ∃ W : Nat → Nat → List V → St → Hp → Prop, (∃ m, W 0 m ys σ H1) ∧ ∀ i m ys σ H, W i m ys σ H →
  (J.stop i H ∧ D.nx ys σ H) ∨ (J.go i H ∧ ∃ N : List V → St → Hp → Prop, (∀ ys' σ' H', N ys' σ' H' → ∃ m', m' < m ∧ W (i + 1) m' ys' σ' H') ∧ ∀ x H', J.yld i H x H' → g x σ H' fun σ2 H2 => tb { D with nx := N, ct := N, bk := D.nx } ys σ2 H2)
theorem gs_for {tg iter : Expr} {body : List Stmt} {wi : TI} {g : TG} {tb : TGn} (hp : PassesOwn (model X.prog X.w) X.A X.env X.xe) (hc : X.calm = true) (hi : PI X tg iter wi) (hg : PG X tg g) (hb : GSs X body tb)
    (hs : ∀ x, foldedSetIterable iter X.env x = pure x := by intro _; rfl) : GS X (.For tg iter body [] pos) (tGFor wi g tb) := by
  refine ⟨fun A S ip R n ys s₀ c fs K J gd lv s σ H D G hn k hI ht => ?_⟩
  obtain ⟨acc, cc, r, I⟩ := hI
  refine lv_seg_For ?_ hs
  rw [G.over]
  refine wpAny_mono (hi.run _ s σ H _ I ht) (fun v s1 h1 => ?_) fun x s' hx => k.exc n s₀ x s' hx
  refine wpAny_mono h1 (fun itv s2 h2 p => ?_) fun x s' hx => k.exc n s₀ x s' hx
  obtain ⟨it, fp, tn, Jt, H2, e, I2, T, st2, f2, W, ⟨m0, w0⟩, turn⟩ := h2
  subst e
  have gl := fun (kk : Result → Sem PySem.Fin) => gc_loop (k := kk) (c' := .forLoop tg (.ref it) body [] X.env) (l := lv []) (kp := []) (p := p) G rfl rfl
  have fS : ∀ b ∈ fp, b ≠ S := fun b hb e => (f2 b hb).2.2.2.2.2 _ (by simp : (S, lstObj acc cc) ∈ X.pn ++ ((S, lstObj acc cc) :: ip)) e.symm
  have stat : ∀ {H' : Hp} {acc' : Array Value} {cc' : Nat}, (∀ b ∈ fp, H' b = none) → ∀ b ∈ fp, FpOk X ((S, lstObj acc' cc') :: ip) H' b := fun {H' acc' cc'} hn b hb => by
    obtain ⟨_, f1, f2', f3, f4, f5⟩ := f2 b hb
    refine ⟨hn b hb, f1, f2', f3, f4, fun q hq => ?_⟩
    rcases List.mem_append.mp hq with hq | hq
    · exact f5 q (List.mem_append_left _ hq)
    · rcases List.mem_cons.mp hq with rfl | hq
      · exact (fS b hb).symm
      · exact f5 q (List.mem_append_right _ (List.mem_cons_of_mem _ hq))
  have ee : ∀ (n : Nat) (s₀ : Shared) (x : Value) (s' : Shared), X.xe x s' → Seg (model X.prog X.w) A R (GY X S) n s₀ (.forLoop tg (.ref it) body [] X.env)
      ((do noteFrame x X.env; theTreesLotGoes x : Sem Unit).wrap (fun _ => .raise x) .raise id id)
      (.ret (fun r => ((match r with | .ok f => (.pure f : Sem Flow) | .error e => .raise e).onRaise (cameBack X.env)).wrap K J gd lv) none (gd false) (lv []) c p [] :: fs) s' := fun n s₀ x s' hx => by
    refine seg_wrap ?_
    rw [(gl _).over]
    refine wpAny_bind (wpAny_mono (hp x s' hx) (fun _ s'' hcb => wpAny_theTreesLotGoes ?_) fun y s'' hcb => ?_)
    · exact seg_leaf (.error x) (seg_cameBack G k hcb)
    · exact seg_leaf (.error y) (seg_cameBack G k hcb)
  have loop : ∀ (m i n : Nat) (ys : List V) (s₀ s : Shared) (σ : St) (H : Hp), n + ys.length = sizeLine → W i m ys σ H → GI X S ip ys σ H s → tn i s.heap → (∀ b ∈ fp, H b = none) →
      Seg (model X.prog X.w) A R (GY X S) n s₀ (.forLoop tg (.ref it) body [] X.env) ((model X.prog X.w).den (.forLoop tg (.ref it) body [] X.env))
        (.ret (fun r => ((match r with | .ok f => (.pure f : Sem Flow) | .error e => .raise e).onRaise (cameBack X.env)).wrap K J gd lv) none (gd false) (lv []) c p [] :: fs) s := by
    intro m
    induction m using Nat.strongRecOn with
    | ind m ih =>
      intro i n ys s₀ s σ H hn w hI hst fr
      refine lv_seg_forLoop ?_
      rw [(gl _).over]
      obtain ⟨acc, cc, r, I⟩ := hI
      rcases turn i m ys σ H w with ⟨stop, qn⟩ | ⟨go, N, hN, step⟩
      · refine wpAny_mono (T.done X rfl rfl rfl hc i _ s σ H X.xe I (stat fr) hst stop) (fun rr s4 ⟨hr, I4⟩ => ?_) fun x s' hx => ee n s₀ x s' hx
        subst hr
        refine seg_again rfl ?_
        exact seg_leaf (.ok .next) (k.ok n ys s₀ s4 .next hn ⟨σ, H, ⟨acc, cc, r, I4⟩, qn⟩)
      · refine wpAny_mono (T.item X rfl rfl rfl hc i _ s σ H X.xe I (stat fr) hst go) (fun rr s4 ⟨u, hr, h4⟩ => ?_) fun x s' hx => ee n s₀ x s' hx
        subst hr
        refine wpAny_mono h4 (fun _ s5 ⟨x, H5, I5, r5, y5, st5, fr5⟩ => ?_) fun x s' hx => ee n s₀ x s' hx
        have I5' := I5.pinned (stat fr5) (T.obj _ _ st5)
        refine wpAny_mono (hg.run _ s5 σ H5 x u _ I5' r5 (step x H5 y5)) (fun _ s6 ⟨σ6, H6, I6, q6⟩ => ?_) fun x s' hx => ee n s₀ x s' hx
        have unp : ∀ {ys' : List V} {σ' : St} {H' : Hp} {s' : Shared}, GI X S (ip ++ pinsAt fp s5.heap) ys' σ' H' s' → GI X S ip ys' σ' H' s' ∧ tn (i + 1) s'.heap ∧ ∀ b ∈ fp, H' b = none := fun {ys' σ' H' s'} ⟨acc', cc', r', I'⟩ => by
          have I' : Inv X (((S, lstObj acc' cc') :: ip) ++ pinsAt fp s5.heap) σ' H' s' := I'
          refine ⟨⟨acc', cc', r', I'.unpinned⟩, T.keep _ _ _ st5 fun b hb o e => (I'.pin (b, o) (List.mem_append_right _ (List.mem_append_right _ (mem_pinsAt hb e)))).1, fun b hb => ?_⟩
          obtain ⟨o, e, d⟩ := T.obj _ _ st5 b hb
          exact (I'.pin (b, o) (List.mem_append_right _ (List.mem_append_right _ (mem_pinsAt hb e)))).2.1
        have gl' := fun (kk : Result → Sem PySem.Fin) => gc_loop (k := kk) (c' := .forLoop tg (.ref it) body [] X.env) (l := lv []) (kp := []) (p := p) (ip := ip ++ pinsAt fp s5.heap) ⟨G.pn, fun q hq => (List.mem_append.mp hq).elim (G.ip q) (fun z => fS _ (of_pinsAt z).1), G.apart, G.over, G.split, G.guard, G.gd⟩ rfl rfl
        refine hb.run A S (ip ++ pinsAt fp s5.heap) R n ys s₀ _ _ _ _ id id s6 σ6 H6 { D with nx := N, ct := N, bk := D.nx } (gl' _) hn ⟨fun n' ys' s₀' s7 f hn' hs => ?_, fun n' s₀' x s7 hx => ee n' s₀' x s7 hx⟩ ⟨acc, cc, r, I6⟩ q6
        cases f with
        | next =>
          obtain ⟨σ7, H7, I7, n7⟩ := hs
          obtain ⟨m', hm, w7⟩ := hN ys' σ7 H7 n7
          obtain ⟨a, b, c⟩ := unp I7
          exact seg_again rfl (ih m' hm (i + 1) n' ys' s₀' s7 σ7 H7 hn' w7 a b c)
        | cont =>
          obtain ⟨σ7, H7, I7, n7⟩ := hs
          obtain ⟨m', hm, w7⟩ := hN ys' σ7 H7 n7
          obtain ⟨a, b, c⟩ := unp I7
          exact seg_again rfl (ih m' hm (i + 1) n' ys' s₀' s7 σ7 H7 hn' w7 a b c)
        | brk =>
          obtain ⟨σ7, H7, I7, n7⟩ := hs
          exact seg_leaf (.ok .next) (k.ok n' ys' s₀' s7 .next hn' ⟨σ7, H7, (unp I7).1, n7⟩)
        | ret v =>
          obtain ⟨x7, σ7, H7, I7, r7, n7⟩ := hs
          exact seg_leaf (.ok (.ret v)) (k.ok n' ys' s₀' s7 (.ret v) hn' ⟨x7, σ7, H7, (unp I7).1, r7, n7⟩)
  exact loop m0 0 n ys s₀ s2 σ H2 hn w0 ⟨acc, cc, r, I2⟩ st2 fun b hb => (f2 b hb).1
end
end L2

/-! further comprehensions: some of the elements, two fors; keys of sorted -/
namespace Lv
open PySem PySem.Spec PyProof.Rows L2
section
variable {J : It} {n : Nat} {G : Hp → Prop} {Y : Nat → Hp → V → Hp → Prop} {g g1 : TG} {tt tt1 : TT} {te : TE} {wi wi1 : TI} {vs vs1 : List Nat} {σ : L2.St} {H1 : Hp} {Q : VK}
/-- those f i that there are; all stays as it was -/
theorem lc_sel (w : Walk J n G Y) (f : Nat → Option V) (hn : n ≤ sizeLine) (hG : ∀ H, Same H1 H → G H)
    (hs : ∀ i x H H', i < n → Same H1 H → Y i H x H' → ∀ (R : VK) (N : Hp → Prop), (∀ v H4, f i = some v → Same H H4 → R v H4) → (∀ H4, f i = none → Same H H4 → N H4) → g x (wipe σ vs) H' fun σ2 H2 => wipe σ2 vs = wipe σ vs ∧ tt σ2 H2 fun b H3 => if b = true then te σ2 H3 R else N H3)
    (hd : ∀ H D, Same H1 H → H1 D = none → H D = some (.lst ((List.range n).filterMap f)) → Q (.ref D) H) : LcB J g tt te vs σ Q H1 := by
  intro D hD
  refine ⟨fun i m H => m = n - i ∧ i ≤ n ∧ Same H1 H ∧ H D = some (.lst ((List.range i).filterMap f)), ⟨n, rfl, Nat.zero_le _, same_new hD, upd_same⟩, fun i m H h => ?_⟩
  obtain ⟨rfl, hi, hS, hL⟩ := h
  have lenl : ∀ k, ((List.range k).filterMap f).length ≤ k := fun k => by
    have := List.length_filterMap_le f (List.range k)
    rw [List.length_range] at this
    exact this
  by_cases e : i = n
  · subst e
    exact .inl ⟨w.stops H (hG H hS), hd H D hS hD hL⟩
  · have lt : i < n := by omega
    refine .inr ⟨w.goes i H lt (hG H hS), fun H' => Same H1 H' ∧ H' D = some (.lst ((List.range (i + 1)).filterMap f)), fun H' p' => ⟨n - (i + 1), by omega, rfl, by omega, p'⟩, fun x H' y => ?_⟩
    refine hs i x H H' lt hS (w.yields i H x H' lt (hG H hS) y) _ _ (fun v H4 ev s4 => ⟨_, s4 _ _ hL, by have := lenl i; omega, same_mut (hS.trans s4) hD, ?_⟩) (fun H4 ev s4 => ⟨hS.trans s4, ?_⟩)
    · rw [upd_same, List.range_succ, List.filterMap_append]
      simp [ev]
    · rw [s4 _ _ hL, List.range_succ, List.filterMap_append]
      simp [ev]
/-- the inner for -/
def InB (D : Addr) (J1 : It) (g1 : TG) (tt1 : TT) (te : TE) (vs1 : List Nat) (σ2 : L2.St) (Nx : Hp → Prop) (H4 : Hp) : Prop := ∃ W1 : Nat → Nat → Hp → Prop, (∃ m, W1 0 m H4) ∧ ∀ j k H, W1 j k H →
  (J1.stop j H ∧ Nx H) ∨ (J1.go j H ∧ ∃ Nx1 : Hp → Prop, (∀ H', Nx1 H' → ∃ k', k' < k ∧ W1 (j + 1) k' H') ∧ ∀ x H', J1.yld j H x H' → g1 x (wipe σ2 vs1) H' fun σ3 H5 => wipe σ3 vs1 = wipe σ2 vs1 ∧ tt1 σ3 H5 fun b H6 =>
    if b = true then te σ3 H6 fun y H7 => ∃ acc, H7 D = some (.lst acc) ∧ acc.length < sizeLine ∧ Nx1 (upd H7 D (.lst (acc ++ [y]))) else Nx1 H6)
/-- the outer one -/
def LcB2 (J : It) (g : TG) (tt : TT) (wi1 : TI) (g1 : TG) (tt1 : TT) (te : TE) (vs vs1 : List Nat) (σ : L2.St) (Q : VK) (H1 : Hp) : Prop := ∀ D, H1 D = none → ∃ W : Nat → Nat → Hp → Prop, (∃ m, W 0 m (upd H1 D (.lst []))) ∧ ∀ i m H, W i m H →
  (J.stop i H ∧ Q (.ref D) H) ∨ (J.go i H ∧ ∃ Nx : Hp → Prop, (∀ H', Nx H' → ∃ m', m' < m ∧ W (i + 1) m' H') ∧ ∀ x H', J.yld i H x H' → g x (wipe σ vs) H' fun σ2 H2 => wipe σ2 vs = wipe σ vs ∧ tt σ2 H2 fun b H3 =>
    if b = true then wi1 σ2 H3 fun J1 H4 => InB D J1 g1 tt1 te vs1 σ2 Nx H4 else Nx H3)
theorem tLc2_eq {H : Hp} : tLc2 wi g tt wi1 g1 tt1 te vs vs1 σ H Q = wi σ H fun J H1 => LcB2 J g tt wi1 g1 tt1 te vs vs1 σ Q H1 := rfl
theorem in_it {J1 : It} {n1 : Nat} {G1 : Hp → Prop} {Y1 : Nat → Hp → V → Hp → Prop} {D : Addr} {σ2 : L2.St} {Nx : Hp → Prop} {H4 : Hp} (w : Walk J1 n1 G1 Y1) (Pw : Nat → Hp → Prop) (h0 : Pw 0 H4) (hG : ∀ j H, j ≤ n1 → Pw j H → G1 H)
    (hs : ∀ j x H H', j < n1 → Pw j H → Y1 j H x H' → g1 x (wipe σ2 vs1) H' fun σ3 H5 => wipe σ3 vs1 = wipe σ2 vs1 ∧ tt1 σ3 H5 fun b H6 => if b = true then te σ3 H6 fun y H7 => ∃ acc, H7 D = some (.lst acc) ∧ acc.length < sizeLine ∧ Pw (j + 1) (upd H7 D (.lst (acc ++ [y]))) else Pw (j + 1) H6)
    (hd : ∀ H, Pw n1 H → Nx H) : InB D J1 g1 tt1 te vs1 σ2 Nx H4 := by
  refine ⟨fun i m H => m = n1 - i ∧ i ≤ n1 ∧ Pw i H, ⟨n1, rfl, Nat.zero_le _, h0⟩, fun i m H h => ?_⟩
  obtain ⟨rfl, hi, p⟩ := h
  by_cases e : i = n1
  · subst e
    exact .inl ⟨w.stops H (hG _ H hi p), hd H p⟩
  · have lt : i < n1 := by omega
    exact .inr ⟨w.goes i H lt (hG i H hi p), Pw (i + 1), fun H' p' => ⟨n1 - (i + 1), by omega, rfl, by omega, p'⟩, fun x H' y => hs i x H H' lt p (w.yields i H x H' lt (hG i H hi p) y)⟩
theorem lc2_it (w : Walk J n G Y) (Pv : Addr → Nat → Hp → Prop) (h0 : ∀ D, H1 D = none → Pv D 0 (upd H1 D (.lst []))) (hG : ∀ D i H, i ≤ n → Pv D i H → G H)
    (hs : ∀ D i x H H', H1 D = none → i < n → Pv D i H → Y i H x H' → g x (wipe σ vs) H' fun σ2 H2 => wipe σ2 vs = wipe σ vs ∧ tt σ2 H2 fun b H3 => if b = true then wi1 σ2 H3 fun J1 H4 => InB D J1 g1 tt1 te vs1 σ2 (Pv D (i + 1)) H4 else Pv D (i + 1) H3)
    (hd : ∀ D H, H1 D = none → Pv D n H → Q (.ref D) H) : LcB2 J g tt wi1 g1 tt1 te vs vs1 σ Q H1 := by
  intro D hD
  refine ⟨fun i m H => m = n - i ∧ i ≤ n ∧ Pv D i H, ⟨n, rfl, Nat.zero_le _, h0 D hD⟩, fun i m H h => ?_⟩
  obtain ⟨rfl, hi, p⟩ := h
  by_cases e : i = n
  · subst e
    exact .inl ⟨w.stops H (hG D _ H hi p), hd D H hD p⟩
  · have lt : i < n := by omega
    exact .inr ⟨w.goes i H lt (hG D i H hi p), Pv D (i + 1), fun H' p' => ⟨n - (i + 1), by omega, rfl, by omega, p'⟩, fun x H' y => hs D i x H H' hD lt p (w.yields i H x H' lt (hG D i H hi p) y)⟩
end
theorem range_fm {α β : Type} (g : α → Option β) : ∀ l : List α, ((List.range l.length).filterMap fun i => (l[i]?).bind g) = l.filterMap g
  | [] => rfl
  | x :: l => by
    rw [List.length_cons, List.range_succ_eq_map, List.filterMap_cons, List.filterMap_cons]
    have ih := range_fm g l
    rw [List.filterMap_map]
    simp only [List.getElem?_cons_zero, Option.bind_some, Function.comp_def, List.getElem?_cons_succ]
    rw [ih]
theorem walk_zipT {K : PySem.W.Frag} {a b : Addr} {xs ys : List V} {n : Nat} (hn : n = min xs.length ys.length) : Walk (RZ.ItzT K a b) n (fun H => SqT K H a xs ∧ SqT K H b ys) (YPair (fun i => xs[i]?) (fun i => ys[i]?)) := by
  subst hn
  refine ⟨fun i _ hi q => ?_, fun _ q => ⟨xs, ys, q.1, q.2, by omega⟩, fun i H v H' _ q y => ?_⟩
  · have h1 : i < xs.length := by omega
    have h2 : i < ys.length := by omega
    exact ⟨xs, ys, xs[i], ys[i], q.1, q.2, by simp [h1], by simp [h2]⟩
  · obtain ⟨T, x, z, h1, h2, h3, h4, h5⟩ := y
    exact ⟨T, x, z, h1, h2, h3, h4 xs q.1, h5 ys q.2⟩
theorem seqN {A B : TS} {D : Ends} {σ : L2.St} {H : Hp} (h : ∀ N : L2.St → Hp → Prop, (∀ σ' H', B D σ' H' → N σ' H') → A { D with nx := N } σ H) : tSeq A B D σ H := h _ (fun _ _ h => h)
/-- tuples of texts, one behind another -/
def FrA (H : Hp) (xs : List V) (wss : List (List Str)) : Prop := xs.length = wss.length ∧ ∀ (i : Nat) ws, wss[i]? = some ws → ∃ b, xs[i]? = some (.ref b) ∧ H b = some (.tup (ws.map V.str))
theorem FrA.same {H H' : Hp} {xs : List V} {wss : List (List Str)} (h : FrA H xs wss) (s : Same H H') : FrA H' xs wss := ⟨h.1, fun i ws e => let ⟨b, e1, e2⟩ := h.2 i ws e; ⟨b, e1, s _ _ e2⟩⟩
theorem FrA.nil {H : Hp} : FrA H [] [] := ⟨rfl, fun i ws e => by cases e⟩
theorem FrA.cons {H : Hp} {b : Addr} {ws : List Str} {xs : List V} {wss : List (List Str)} (h : H b = some (.tup (ws.map V.str))) (t : FrA H xs wss) : FrA H (.ref b :: xs) (ws :: wss) := by
  refine ⟨congrArg Nat.succ t.1, fun i us e => ?_⟩
  cases i with
  | zero =>
    cases e
    exact ⟨b, rfl, h⟩
  | succ i => exact t.2 i us e
/-- [x for ws in l for x in f(ws)], l a list of tuples of texts; σ: the names ahead of the comprehension, i and j its own -/
theorem lc2_words {K : PySem.W.Frag} {i j : Nat} {ti : TE} {f : List Str → List Str} {l : Addr} {xs : List V} {wss : List (List Str)} {σ : L2.St} {H1 : Hp} {Q : VK} (hl : H1 l = some (.lst xs)) (fr : FrA H1 xs wss) (hz : (wss.flatMap f).length < sizeLine)
    (w1 : ∀ v, wipe ((wipe σ [i, j]).set i v) [i, j] = wipe σ [i, j]) (w2 : ∀ v u, wipe ((wipe ((wipe σ [i, j]).set i v) [j]).set j u) [j] = wipe ((wipe σ [i, j]).set i v) [j]) (w3 : ∀ v u, ((wipe ((wipe σ [i, j]).set i v) [j]).set j (some u))[j]? = some (some u))
    (hi : ∀ (H : Hp) (b : Addr) (ws : List Str) (R : VK), ws ∈ wss → H b = some (.tup (ws.map V.str)) → (∀ p H', Same H H' → H' p = some (.tup ((f ws).map V.str)) → R (.ref p) H') → ti ((wipe σ [i, j]).set i (some (.ref b))) H R)
    (q : ∀ D H', Same H1 H' → H' D = some (.lst ((wss.flatMap f).map V.str)) → Q (.ref D) H') : LcB2 (Itl K l) (gName i) tYes (iTup K ti) (gName j) tYes (tVar j) [i, j] [j] σ Q H1 := by
  have part : ∀ n, ((wss.take n).flatMap f).length ≤ (wss.flatMap f).length := fun n => by
    have := congrArg List.length (congrArg (List.flatMap f) (List.take_append_drop n wss))
    rw [List.flatMap_append, List.length_append] at this
    omega
  refine lc2_it walk_list (fun D n H => Same H1 H ∧ H D = some (.lst (((wss.take n).flatMap f).map V.str))) (fun D hD => ⟨same_new hD, upd_same⟩) (fun D n H _ h => sql_of (h.1 _ _ hl)) ?_ (fun D H hD h => q D H h.1 ?_)
  · rintro D n x H H' hD hn ⟨hS, hL⟩ ⟨rfl, hx⟩
    have hnw : n < wss.length := by rw [← fr.1]; exact hn
    have hw : wss[n]? = some wss[n] := List.getElem?_eq_getElem hnw
    have hm : wss[n] ∈ wss := List.getElem_mem _
    obtain ⟨b, e1, e2⟩ := fr.2 n _ hw
    rw [hx] at e1
    cases e1
    have tk : (wss.take (n + 1)).flatMap f = (wss.take n).flatMap f ++ f wss[n] := by
      rw [List.take_add_one, hw, List.flatMap_append]
      simp
    generalize wss[n] = ws at *
    refine ⟨w1 _, ?_⟩
    simp only [tYes, if_true]
    show iTup K ti ((wipe σ [i, j]).set i (some (V.ref b))) H' _
    refine hi H' b ws _ hm (hS _ _ e2) fun p H2 s2 hp => ⟨p, rfl, ⟨_, sqt_of hp⟩, ?_⟩
    have hpD : p ≠ D := fun e => by
      have := s2 _ _ hL
      rw [← e, hp] at this
      cases this
    refine in_it walk_tup (fun m H => Same H1 H ∧ H p = some (.tup ((f ws).map V.str)) ∧ H D = some (.lst (((wss.take n).flatMap f ++ (f ws).take m).map V.str))) ⟨hS.trans s2, hp, by rw [List.take_zero, List.append_nil]; exact s2 _ _ hL⟩ (fun m H _ h => sqt_of h.2.1) ?_ fun H h => ⟨h.1, ?_⟩
    · rintro m y H3 H4 hm4 ⟨h1, h2, h3⟩ ⟨rfl, hy⟩
      rw [List.getElem?_map] at hy
      have hlt : m < (f ws).length := by rw [List.length_map] at hm4; exact hm4
      rw [List.getElem?_eq_getElem hlt] at hy
      cases hy
      refine ⟨w2 _ _, ?_⟩
      simp only [tYes, if_true]
      show tVar j _ H4 _
      refine ⟨_, w3 _ _, _, h3, ?_, same_mut h1 hD, ?_, ?_⟩
      · rw [List.length_map, List.length_append, List.length_take]
        have := part (n + 1)
        rw [tk, List.length_append] at this
        omega
      · rw [upd_ne hpD]
        exact h2
      · rw [upd_same, List.take_add_one, List.getElem?_eq_getElem hlt]
        simp only [Option.toList_some, List.map_append, List.map_cons, List.map_nil, List.append_assoc]
    · rw [h.2.2, tk, List.length_map, List.take_length]
  · have := h.2
    rw [fr.1, List.take_length] at this
    exact this
theorem u16 {a : Nat} (h : a + 64 < cLine) : a + 16 < cLine := by omega
/-- list * bool -/
def rRepB (K : PySem.W.Frag) : V → V → Hp → VK → Prop := fun x y H Q => ∃ a xs k, x = V.ref a ∧ y = V.bl k ∧ SqL K H a xs ∧ ∀ p, H p = none → Q (.ref p) (upd H p (.lst (if k = true then xs else [])))
theorem op_repB {X : Cx} : OpR X (binaryOp .Mult) (rRepB X.K) := op_mul_lb
end Lv

/-! keys of sorted: parts of tuples and of instances; what sorted gives -/
namespace Lv
open PySem PySem.Spec PyProof.Rows L2 PySem.W PySem.Calls
mutual
/-- the data of a nested key -/
def dOf : NestedKey → PyData
  | .num i => .int i
  | .text z => .str z
  | .none => .none
  | .tup ks => .tuple (dsOf ks)
def dsOf : List NestedKey → List PyData
  | [] => []
  | k :: ks => dOf k :: dsOf ks
end
section
variable {X : Cx} {pins : List (Addr × Obj)} {σ : L2.St} {H : Hp} {s : Shared}
mutual
theorem nk_reads (I : L2.Inv X pins σ H s) : ∀ {k : NestedKey} {v : V} {u : Value}, NkV X.K H k v → RelV v u → Reads s.heap u (dOf k) []
  | _, _, _, .int i, r => by
    obtain ⟨t, rfl⟩ := r
    exact .int _ _
  | _, _, _, .str z, r => by
    obtain ⟨t, rfl⟩ := r
    exact .str _ _
  | _, _, _, .tup h a, r => by
    cases r
    obtain ⟨its, rv, ⟨o, ho, hc, n, hd⟩, _⟩ := I.tuple h
    have q := nks_reads I a rv
    exact .tuple ho hc hd (by simpa [dOf] using q)
theorem nks_reads (I : L2.Inv X pins σ H s) : ∀ {ks : List NestedKey} {vs : List V} {us : List Value}, NkAll X.K H ks vs → Vals vs us → ReadsAll s.heap us (dsOf ks) []
  | _, _, _, .nil, r => by
    cases r
    exact .nil
  | _, _, _, .cons h a, r => by
    cases r with
    | cons r1 r2 => exact .cons (nk_reads I h r1) (nks_reads I a r2)
end
end
mutual
theorem dOf_depth : ∀ k : NestedKey, (dOf k).depth = k.depth
  | .num i => by rw [dOf, PyData.depth, NestedKey.depth]
  | .text z => by rw [dOf, PyData.depth, NestedKey.depth]
  | .none => by rw [dOf, PyData.depth, NestedKey.depth]
  | .tup ks => by rw [dOf, PyData.depth, NestedKey.depth, dsOf_depth ks]
theorem dsOf_depth : ∀ ks : List NestedKey, PyData.depthAll (dsOf ks) = NestedKey.depthAll ks
  | [] => by rw [dsOf, PyData.depthAll, NestedKey.depthAll]
  | k :: ks => by rw [dsOf, PyData.depthAll, NestedKey.depthAll, dOf_depth k, dsOf_depth ks]
end
mutual
theorem nk_dp {K : PySem.W.Frag} {H : Hp} : ∀ {k : NestedKey} {v : V}, NkV K H k v → Dp K H v (dOf k)
  | _, _, .int i => .int i
  | _, _, .str z => .str z
  | _, _, .tup h a => by
    rw [dOf]
    exact .tup h (nks_dp a)
theorem nks_dp {K : PySem.W.Frag} {H : Hp} : ∀ {ks : List NestedKey} {vs : List V}, NkAll K H ks vs → DpAll K H vs (dsOf ks)
  | _, _, .nil => .nil
  | _, _, .cons h a => .cons (nk_dp h) (nks_dp a)
end
/-- the pairs' keys and values: sorted -/
theorem sort_map {α : Type} (key : α → PyData) (val : α → V) (L : List α) : sortP (L.map fun x => (val x, key x)) = (L.mergeSort (dataLe false key)).map fun x => (val x, key x) := by
  unfold sortP
  refine (List.map_mergeSort fun a _ b _ => ?_).symm
  rw [dataLe_eq, dataLe_eq]
theorem ex_pairs {α : Type} {R : Addr → α → Prop} : ∀ {xs : List V} {cs : List α}, xs.length = cs.length → (∀ (i : Nat) c, cs[i]? = some c → ∃ b, xs[i]? = some (V.ref b) ∧ R b c) → ∃ L : List (Addr × α), xs = L.map (fun p => V.ref p.1) ∧ cs = L.map (·.2) ∧ ∀ p ∈ L, R p.1 p.2
  | [], [], _, _ => ⟨[], rfl, rfl, fun p h => nomatch h⟩
  | [], _ :: _, l, _ => nomatch l
  | _ :: _, [], l, _ => nomatch l
  | x :: xs, c :: cs, l, h => by
    obtain ⟨b, e, r⟩ := h 0 c rfl
    cases e
    obtain ⟨L, e1, e2, e3⟩ := ex_pairs (Nat.succ.inj l) fun i c e => h (i + 1) c e
    refine ⟨(b, c) :: L, by rw [e1]; rfl, by rw [e2]; rfl, fun p hp => ?_⟩
    rcases List.mem_cons.mp hp with rfl | hp
    · exact r
    · exact e3 p hp
theorem of_pairs {α : Type} {R : Addr → α → Prop} {L : List (Addr × α)} (h : ∀ p ∈ L, R p.1 p.2) : (L.map fun p => V.ref p.1).length = (L.map (·.2)).length ∧ ∀ (i : Nat) c, (L.map (·.2))[i]? = some c → ∃ b, (L.map fun p => V.ref p.1)[i]? = some (V.ref b) ∧ R b c := by
  refine ⟨by simp, fun i c e => ?_⟩
  rw [List.getElem?_map] at e
  cases ep : L[i]? with
  | none =>
    rw [ep] at e
    cases e
  | some p =>
    rw [ep] at e
    cases e
    exact ⟨p.1, by rw [List.getElem?_map, ep]; rfl, h p (List.mem_of_getElem? ep)⟩
theorem sort_snd {α : Type} (key : α → PyData) (L : List (Addr × α)) : (L.mergeSort (dataLe false fun p => key p.2)).map (·.2) = (L.map (·.2)).mergeSort (dataLe false key) := by
  refine List.map_mergeSort fun a _ b _ => ?_
  rw [dataLe_eq, dataLe_eq]
section
variable {P : Program} {w : World} {A : Around} {E : Value → Shared → Prop} {env : Env}
/-- one.f[:2], one an instance -/
def KeyA (K : PySem.W.Frag) (C : Addr) (f : Str) (H : Hp) (v : V) (d : PyData) : Prop := ∃ (a dx t : Addr) (fs : List (Str × V)) (xs : List V) (ks : List NestedKey), v = .ref a ∧ H a = some (.ins C dx fs) ∧ fs.lookup f = some (.ref t) ∧ H t = some (.tup xs) ∧ 2 < xs.length ∧ NkAll K H ks (xs.take 2) ∧ d = .tuple (dsOf ks)
theorem kb_attr2 {X : Cx} {C : Addr} {x f : Str} {j : Nat} {p1 p2 p3 p4 cp : Pos} (c : Cls X.K C) (n : NoAttr X.K C f) (hb : ∀ env, attributeBase (.Name x p1) f env (eval (.Name x p1) env) = eval (.Name x p1) env) (hd : (x == ("__debug__" : Str)) = false) :
    KeyBody X x (.Subscript (.Attribute (.Name x p1) f p2) (.Slice none (some (.Constant (.int 2) j cp)) none p3) p4) (KeyA X.K C f) := by
  rintro pins σ H s0 s v u d A h tk env m I ⟨a, dx, t, fs, xs, ks, rfl, ha, hf, ht, h2, hk, rfl⟩ rv k0 k1 hkd hl hn hm
  cases rv
  have Ih : L2.Inv X pins σ H { s0 with heap := h } := I.kept (t' := s0.toks) k0
  refine wp_cut2 (wp_attr (hb env) c n hf (wp_local hkd hl hn hm hd ⟨rfl, Ih.kIn, Ih.hok, ha, fun u' ru tk' => ?_⟩))
  cases ru
  obtain ⟨its, rvs, tp, hz⟩ := Ih.tuple (sqt_of ht)
  have sz : its.toArray.size = xs.length := by rw [List.size_toArray]; exact rvs.length.symm
  refine ⟨t, its.toArray, rfl, tp, by omega, by omega, fun u h' tk2 kp hu => ⟨h', tk2, rfl, fun b o e => kp b o (k1 b o e), ?_⟩⟩
  obtain ⟨o, ho, hc, n2, hdt⟩ := hu
  have I2 : L2.Inv X pins σ H { s0 with heap := h' } := I.kept (t' := s0.toks) fun b o e => kp b o (k0 b o e)
  refine .tuple ho hc hdt ?_
  have vt : Vals (xs.take 2) (its.take 2) := by
    match xs, its, rvs with
    | _, _, .cons r1 (.cons r2 _) => exact .cons r1 (.cons r2 .nil)
    | _, _, .nil => exact .nil
    | _, _, .cons r1 .nil => exact .cons r1 .nil
  exact nks_reads (s := { s0 with heap := h' }) I2 hk vt
/-- one[:2], one a tuple -/
def KeyT (K : PySem.W.Frag) (H : Hp) (v : V) (d : PyData) : Prop := ∃ (t : Addr) (xs : List V) (ks : List NestedKey), v = .ref t ∧ H t = some (.tup xs) ∧ 2 < xs.length ∧ NkAll K H ks (xs.take 2) ∧ d = .tuple (dsOf ks)
/-- one[1], one a tuple -/
def KeyI (K : PySem.W.Frag) (H : Hp) (v : V) (d : PyData) : Prop := ∃ (t : Addr) (xs : List V) (y : V) (k : NestedKey), v = .ref t ∧ H t = some (.tup xs) ∧ xs[1]? = some y ∧ NkV K H k y ∧ d = dOf k
end
end Lv

/-! x != [] for a list of any values; which built-in types stand behind an own operator -/
namespace Lv
open PySem PySem.Spec PyProof.Rows L2
section
variable {X : Cx}
/-- x != [], x a list of any values -/
def rNeE (K : PySem.W.Frag) : R2 := fun x y H Q => ∃ (a b : Addr) (xs : List V), x = .ref a ∧ y = .ref b ∧ SqL K H a xs ∧ SqL K H b [] ∧ Q (.bl (!xs.isEmpty)) H
theorem op_neE (hu : X.A.units + 64 < cLine) : OpR X (compareOp .NotEq) (rNeE X.K) := by
  intro pins s σ H x y v u Q I rx ry h
  obtain ⟨a, b, xs, rfl, rfl, ha, hb, q⟩ := h
  cases (show v = Value.ref a from rx)
  cases (show u = Value.ref b from ry)
  obtain ⟨us, r1, p1, _⟩ := I.list ha
  obtain ⟨ws, r2, p2, _⟩ := I.list hb
  cases r2
  have e := r1.length
  cases xs with
  | nil =>
    cases us with
    | nil =>
      refine SeqAt.RcNeAt.lists (e := fun _ => true) p1.isList p2.isList rfl (by omega) (fun j h1 h2 => absurd h2 (Nat.not_lt_zero j)) X.prog X.w _ _ ?_
      exact ⟨.bl false, H, I, rfl, q⟩
    | cons _ _ => cases e
  | cons z xs =>
    cases us with
    | nil => cases e
    | cons w us =>
      refine SeqAt.RcNeAt.lists_lengths p1.isList p2.isList (by simp) (by omega) X.prog X.w _ _ ?_
      exact ⟨.bl true, H, I, rfl, q⟩
end
end Lv

/-! whether a nested tuple is a key of a dict -/
namespace PySem
section
variable {prog : Program} {w : World} {K : Type} [DecidableEq K] {knd : HeapKind prog w K} {A : Around} {E : Value → Shared → Prop} {s : Shared} {d a : Addr} {k : K} {xs : List (K × Addr × Value)}
theorem lv_notIn_heap {Q : Value → Shared → Prop} (hu : knd.room A.in1) (hkey : knd.is s.heap k a) (hd : (d == sysModules) = false) (hm : s.heap.DictOfH knd d xs)
    (h : Q (.bool (!(atKey xs k).isSome)) { s with toks := s.toks + knd.draws k }) : wpAny (model prog w) A (compareOp .NotIn (.ref a) (.ref d)) Q E s := by
  show wpAny _ _ (do return .bool (!(← contains (.ref d) (.ref a)))) Q E s
  refine wpAny_bind ?_
  unfold contains
  try with_reducible refine wpAny_holding ?_
  refine wpAny_bind (wpAny_specialOf hm.typeIs slot_dict_contains.lookup ?_)
  show wpAny _ _ (if (some (Value.builtin "dict.__contains__") == some Value.none) = true then _ else _) _ E s
  rw [if_neg (by rw [beq_builtin_none]; exact Bool.false_ne_true)]
  refine wpAny_bind (wpAny_callSpecialUnlessNone?_slot (name := Str.ofString "__contains__") hm.typeIs slot_dict_contains
    (wpAny_call_entry slot_dict_contains hm.typeIs entry_dict_contains ?_ (args_dict_contains _ _)))
  show wpAny _ _ (dictGet d (.ref a) >>= _) _ _ s
  refine wpAny_bind (wpAny_dictGet_heap hu hkey hm ?_)
  cases hf : atKey xs k with
  | some p =>
    rw [hf] at h
    show wpAny _ _ (ret (.bool true)) _ _ _
    exact wpAny_pure ⟨_, rfl, wpAny_truthy_bool (wpAny_pure h)⟩
  | none =>
    rw [hf] at h
    show wpAny _ _ (Builtin.Dict.pendingKey? d (.ref a) >>= _) _ _ _
    exact wpAny_bind (wpAny_pendingKey_other hd (wpAny_pure ⟨_, rfl, wpAny_truthy_bool (wpAny_pure h)⟩))
end
end PySem
namespace Lv
open PySem PySem.Spec PyProof.Rows L2
def rInDN (no : Bool) (P : Program) (w : World) (K : PySem.W.Frag) : R2 := fun x y H Q => ∃ (a : Addr) (L : Ents) (k : NestedKey) (b : Addr), x = .ref b ∧ y = .ref a ∧ H a = some (DicNO P w a L) ∧ (∀ p ∈ L, KeyAt K H p.1 p.2.1) ∧ KeyAt K H k b ∧ Q (.bl (xor no (atE L k).isSome)) H
theorem op_inDN {X : Cx} (hu : X.A.units + 16 < cLine) : OpR X (compareOp .In) (rInDN false X.prog X.w X.K) := by
  intro pins s σ H x y v u Q I rx ry h
  obtain ⟨a, L, k, b, rfl, rfl, hd, hk, kb, q⟩ := h
  cases rx
  cases ry
  have R0 := dic_rd I.hok (.inl hd)
  obtain ⟨ys, r, dd⟩ := R0.full fun p hp => keyIs I (hk p hp)
  have e : (atE L k).isSome = (atKey ys k).isSome := by
    exact (atE_rel k r).2
  exact wpAny_in_heap (show X.A.in1.units + 8 < cLine by rw [Around.in1_units]; omega) (keyIs I kb) R0.2.1 dd ⟨.bl (atE L k).isSome, H, I.tok _, by rw [e]; rfl, by simpa using q⟩
theorem op_notInDN {X : Cx} (hu : X.A.units + 16 < cLine) : OpR X (compareOp .NotIn) (rInDN true X.prog X.w X.K) := by
  intro pins s σ H x y v u Q I rx ry h
  obtain ⟨a, L, k, b, rfl, rfl, hd, hk, kb, q⟩ := h
  cases rx
  cases ry
  have R0 := dic_rd I.hok (.inl hd)
  obtain ⟨ys, r, dd⟩ := R0.full fun p hp => keyIs I (hk p hp)
  have e : (atE L k).isSome = (atKey ys k).isSome := (atE_rel k r).2
  exact lv_notIn_heap (show X.A.in1.units + 8 < cLine by rw [Around.in1_units]; omega) (keyIs I kb) R0.2.1 dd ⟨.bl (!(atE L k).isSome), H, I.tok _, by rw [e]; rfl, by simpa using q⟩
end Lv
namespace Lv
open PySem PySem.Spec PyProof.Rows L2
theorem cr_or {X : Cx} {f : Value} {r1 r2 : List V → Hp → VK → Prop} (h1 : CallR X f r1) (h2 : CallR X f r2) : CallR X f (fun xs H Q => r1 xs H Q ∨ r2 xs H Q) := by
  intro pins s σ H xs us Q I r h
  rcases h with h | h
  · exact h1 pins s σ H xs us Q I r h
  · exact h2 pins s σ H xs us Q I r h
end Lv

/-! methods of dicts whose keys are nested tuples, called -/
namespace Lv
open PySem PySem.Spec PyProof.Rows L2
/-- x is such a dict -/
def dN (P : Program) (w : World) (x : V) (H : Hp) : Prop := ∃ a L, x = .ref a ∧ H a = some (DicNO P w a L)
theorem dN_is {X : Cx} {pins : List (Addr × Obj)} {σ : L2.St} {H : Hp} {s : Shared} {x : V} {v : Value} (I : Inv X pins σ H s) (r : RelV x v) (ty : dN X.prog X.w x H) :
    s.TypeIs v "dict" ∧ ∀ a, v = .ref a → ∃ ob, s.heap.get? a = some ob ∧ ob.dict = none := by
  obtain ⟨a, L, rfl, hd⟩ := ty
  cases r
  obtain ⟨_, _, xs, _, o, es, ep, ho, hx, _⟩ := dic_rd I.hok (.inl hd)
  obtain ⟨e1, e2⟩ := hx
  exact ⟨⟨o, ho, e1⟩, fun b e => by cases e; exact ⟨o, ho, e2.1⟩⟩
section
variable {X : Cx} {o e : Expr} {es : List Expr} {to : TE} {t : TA} {name : Str} {apos cpos : Pos} {id : String} {r : V → List V → Hp → VK → Prop}
def tBN0 (P : Program) (w : World) (r : V → List V → Hp → VK → Prop) (to : TE) : TE := fun σ H Q => to σ H fun x H1 => dN P w x H1 ∧ r x [] H1 Q
def tBN (P : Program) (w : World) (r : V → List V → Hp → VK → Prop) (to : TE) (t : TA) : TE := fun σ H Q => to σ H fun x H1 => dN P w x H1 ∧ t σ H1 fun xs H2 => r x xs H2 Q
theorem pe_bmN0 (pa : PlainAttrs "dict") (slot : Slot "dict" name id) (hty : typeOf (.builtin id) = pure (.type "method_descriptor")) (hm : MtR X id r) (ho : PE X o to)
    (hbase : attributeBase o name X.env (eval o X.env) = eval o X.env := by rfl) (hline : (apos.endLine == cpos.line) = true := by rfl) : PE X (.Call (.Attribute o name apos) [] [] cpos) (tBN0 X.prog X.w r to) := by
  refine ⟨fun pins s σ H Q I h => ?_⟩
  refine wpAny_Call_method0_late hbase hline (thn (ho.run pins s σ H _ I h) fun v s1 ⟨x, H1, I1, r1, ty, q1⟩ => ?_)
  obtain ⟨h1, h2⟩ := dN_is I1 r1 ty
  exact ⟨"dict", id, pa, slot, hty, h1, h2, Calls.callWith_builtin rfl (PySem.evalArgs_none (hm pins s1 σ H1 x [] v [] Q I1 r1 .nil q1))⟩
end
end Lv

/-! min(xs, default=d), max(xs, default=d) of a list of ints -/
namespace Lv
open PySem PySem.Spec PyProof.Rows L2 PySem.W
theorem reads_ints {h : Heap} : ∀ {ns : List Int} {us : List Value}, Vals (ns.map V.int) us → ReadsAll h us (ns.map PyData.int) []
  | [], _, .nil => .nil
  | n :: ns, _, .cons r t => by
    obtain ⟨tk, rfl⟩ := r
    exact ReadsAll.cons (.int n tk) (reads_ints t)
theorem alike_ints : ∀ ns : List Int, AlikeAll (ns.map PyData.int) := by
  intro ns
  refine ⟨fun x hx y hy => ?_, fun x hx => ?_⟩
  · obtain ⟨a, _, rfl⟩ := List.mem_map.mp hx
    obtain ⟨b, _, rfl⟩ := List.mem_map.mp hy
    rfl
  · obtain ⟨a, _, rfl⟩ := List.mem_map.mp hx
    exact fun e => nomatch e
theorem depth_ints : ∀ ns : List Int, PyData.depthAll (ns.map PyData.int) ≤ 1 := by
  intro ns
  induction ns with
  | nil => exact Nat.zero_le _
  | cons n ns ih =>
    rw [List.map_cons]
    unfold PyData.depthAll
    exact Nat.max_le.mpr ⟨by simp [PyData.depth], ih⟩
def rBestD (K : PySem.W.Frag) (f : Int → Int → Int) : List V → List V → Hp → VK → Prop := fun vs zs H Q => ∃ (p : Addr) (ns : List Int) (d : V), vs = [.ref p] ∧ zs = [d] ∧ SqL K H p (ns.map V.int) ∧ (ns = [] → Q d H) ∧ ∀ n ms, ns = n :: ms → Q (.int (ms.foldl f n)) H
theorem cr_minD {X : Cx} (hc : X.calm = true) (hu : X.A.units + 64 < cLine) : CallRK X (.builtin "min") [Str.ofString "default"] (rBestD X.K min) := by
  intro pins s σ H xs zs us ws Q I rx rz h
  obtain ⟨p, ns, d, rfl, rfl, hs, q0, q1⟩ := h
  obtain ⟨its, rv, hl, hz⟩ := I.list hs
  obtain ⟨u, rfl, ru⟩ := rx.one
  cases (show u = Value.ref p from ru)
  obtain ⟨ud, rfl, rd⟩ := rz.one
  have dd := depth_ints ns
  refine min_list_default (I.ok.hd hc) hl.isList (reads_ints rv) (alike_ints ns) (by omega) (fun e h' tk k => ?_) (fun y ys i v h' tk bs e _ r k => ?_)
  · exact ⟨d, H, I.kept k, rd, q0 (List.map_eq_nil_iff.mp e)⟩
  · cases ns with
    | nil => cases e
    | cons n ms =>
      injection e with e1 e2
      subst e1 e2
      rw [minD_ints] at r
      cases r with
      | int _ t => exact ⟨.int (ms.foldl min n), H, I.kept k, ⟨t, rfl⟩, q1 n ms rfl⟩
theorem cr_maxD {X : Cx} (hc : X.calm = true) (hu : X.A.units + 64 < cLine) : CallRK X (.builtin "max") [Str.ofString "default"] (rBestD X.K max) := by
  intro pins s σ H xs zs us ws Q I rx rz h
  obtain ⟨p, ns, d, rfl, rfl, hs, q0, q1⟩ := h
  obtain ⟨its, rv, hl, hz⟩ := I.list hs
  obtain ⟨u, rfl, ru⟩ := rx.one
  cases (show u = Value.ref p from ru)
  obtain ⟨ud, rfl, rd⟩ := rz.one
  have dd := depth_ints ns
  refine max_list_default (I.ok.hd hc) hl.isList (reads_ints rv) (alike_ints ns) (by omega) (fun e h' tk k => ?_) (fun y ys i v h' tk bs e _ r k => ?_)
  · exact ⟨d, H, I.kept k, rd, q0 (List.map_eq_nil_iff.mp e)⟩
  · cases ns with
    | nil => cases e
    | cons n ms =>
      injection e with e1 e2
      subst e1 e2
      rw [maxD_ints] at r
      cases r with
      | int _ t => exact ⟨.int (ms.foldl max n), H, I.kept k, ⟨t, rfl⟩, q1 n ms rfl⟩
end Lv

/-! generators: if over a test that sets a name, a for by an invariant, a def by its body -/
namespace L2
open PySem PySem.Spec PyProof.Rows GenW
section
variable {X : Cx} {pos : Pos}
def tGIfW (c : TTw) (t u : TGn) : TGn := fun D ys σ H => c σ H fun b σ1 H1 => if b = true then t D ys σ1 H1 else u D ys σ1 H1
theorem gs_ifW {c : Expr} {a b : List Stmt} {tc : TTw} {t u : TGn} (hc : PTw X c tc) (ha : GSs X a t) (hb : GSs X b u) : GS X (.If c a b pos) (tGIfW tc t u) := by
  refine ⟨fun A S ip R n ys s₀ c fs K J gd lv s σ H D g hn k hI ht => ?_⟩
  obtain ⟨acc, cc, r, I⟩ := hI
  refine lv_seg_If ?_
  rw [g.over]
  refine wpAny_mono (hc.run _ s σ H _ I ht) (fun d s' hd => ?_) fun x s' hx => k.exc n s₀ x s' hx
  obtain ⟨σ1, H1, I1, q⟩ := hd
  cases d with
  | true => exact ha.run A S ip R n ys s₀ _ fs K J gd lv s' σ1 H1 D g hn k ⟨acc, cc, r, I1⟩ q
  | false => exact hb.run A S ip R n ys s₀ _ fs K J gd lv s' σ1 H1 D g hn k ⟨acc, cc, r, I1⟩ q
end
section
variable {J : It} {n : Nat} {G : Hp → Prop} {Y : Nat → Hp → V → Hp → Prop}
/-- a for of a generator: Pv by the turn, what is out, the slots and the heap -/
theorem gfor_it (w : Walk J n G Y) {g : TG} {tb : TGn} {D : GEnds} {ys : List V} {σ : St} {H : Hp} (Pv : Nat → List V → St → Hp → Prop) (h0 : Pv 0 ys σ H) (hG : ∀ i ys σ H, i ≤ n → Pv i ys σ H → G H)
    (hs : ∀ i x ys σ H H', i < n → Pv i ys σ H → Y i H x H' → g x σ H' fun σ2 H2 => tb { D with nx := Pv (i + 1), ct := Pv (i + 1), bk := D.nx } ys σ2 H2) (hd : ∀ ys σ H, Pv n ys σ H → D.nx ys σ H) :
    ∃ W : Nat → Nat → List V → St → Hp → Prop, (∃ m, W 0 m ys σ H) ∧ ∀ i m ys σ H, W i m ys σ H →
      (J.stop i H ∧ D.nx ys σ H) ∨ (J.go i H ∧ ∃ N : List V → St → Hp → Prop, (∀ ys' σ' H', N ys' σ' H' → ∃ m', m' < m ∧ W (i + 1) m' ys' σ' H') ∧ ∀ x H', J.yld i H x H' → g x σ H' fun σ2 H2 => tb { D with nx := N, ct := N, bk := D.nx } ys σ2 H2) := by
  refine ⟨fun i m ys σ H => m = n - i ∧ i ≤ n ∧ Pv i ys σ H, ⟨n, by simp, Nat.zero_le _, h0⟩, fun i m ys σ H h => ?_⟩
  obtain ⟨rfl, hi, p⟩ := h
  have q := hG i ys σ H hi p
  rcases Nat.lt_or_eq_of_le hi with hlt | e
  · exact .inr ⟨w.goes i H hlt q, Pv (i + 1), fun ys' σ' H' p' => ⟨n - (i + 1), by omega, rfl, hlt, p'⟩, fun x H' y => hs i x ys σ H H' hlt p (w.yields i H x H' hlt q y)⟩
  · subst e
    exact .inl ⟨w.stops H q, hd ys σ H p⟩
end
/-- a for of a generator over an iterator that has come -/
def ForG (J : It) (g : TG) (tb : TGn) (D : GEnds) (ys : List V) (σ : St) (H : Hp) : Prop := ∃ W : Nat → Nat → List V → St → Hp → Prop, (∃ m, W 0 m ys σ H) ∧ ∀ i m ys σ H, W i m ys σ H →
  (J.stop i H ∧ D.nx ys σ H) ∨ (J.go i H ∧ ∃ N : List V → St → Hp → Prop, (∀ ys' σ' H', N ys' σ' H' → ∃ m', m' < m ∧ W (i + 1) m' ys' σ' H') ∧ ∀ x H', J.yld i H x H' → g x σ H' fun σ2 H2 => tb { D with nx := N, ct := N, bk := D.nx } ys σ2 H2)
theorem tGFor_eq {wi : TI} {g : TG} {tb : TGn} : tGFor wi g tb = fun D ys σ H => wi σ H fun J H1 => ForG J g tb D ys σ H1 := rfl
theorem gforB {J : It} {n : Nat} {G : Hp → Prop} {Y : Nat → Hp → V → Hp → Prop} (w : Walk J n G Y) {g : TG} {tb : TGn} {D : GEnds} {ys : List V} {σ : St} {H : Hp} (Pv : Nat → List V → St → Hp → Prop) (h0 : Pv 0 ys σ H) (hG : ∀ i ys σ H, i ≤ n → Pv i ys σ H → G H)
    (hs : ∀ i x ys σ H H', i < n → Pv i ys σ H → Y i H x H' → g x σ H' fun σ2 H2 => tb { D with nx := Pv (i + 1), ct := Pv (i + 1), bk := D.nx } ys σ2 H2) (hd : ∀ ys σ H, Pv n ys σ H → D.nx ys σ H) : ForG J g tb D ys σ H := gfor_it w Pv h0 hG hs hd
/-- a generator def by its body -/
theorem fun_okGen {P : Program} {w : World} {K : PySem.W.Frag} {mg : Str → Option Value} {base : Heap} {k : Nat} {x qual : Str} {st : Stmt} {f : Addr} {fd : FuncData} {N ps : List Str} {sp : SpG} (F : Fun K x qual st f fd) (S : GScope N ps (defScope st))
    (len : ∀ vs H Q E, sp vs H Q E → vs.length = ps.length)
    (hbody : ∀ (cdv : Value) (A : Around) (outer : List Env) (s : Shared) (H : Hp) (vs : List V) (Q : List V → Hp → Prop) (E : XK) (pn : List (Addr × Obj)), Room k (A.deeper (envOfC qual (defScope st) s.heap.objs.size f cdv)) → sp vs H Q E →
      ∃ t, GSs (gcxOf P w K mg base N qual (defScope st) f cdv A outer s H E pn) (defBody st) t ∧ t { nx := fun ys _ H' => Q ys H', rt := fun ys v H' => v = .non ∧ Q ys H' } [] (start N vs) H) :
    GFn P w K mg base (k + 1) f fd ps sp := by
  obtain ⟨oc, od, kV, doc, pm, an, cdM, ct, osl, eM, lkM, hcM⟩ := F.ex
  subst eM
  exact gfn_of lkM hcM S len fun A outer s H vs Q E pn hr h => hbody cdM A outer s H vs Q E pn hr h
end L2

/-! t[::c] for a tuple -/
namespace Lv
open PySem PySem.Spec PyProof.Rows L2 HT
/-- where the cut begins, and how many are cut -/
def stepP (n : Nat) (c : Int) : Int × Nat := ((Builtin.Slice.sliceAdjust none none c n).1, Builtin.Slice.slicePlaces (Builtin.Slice.sliceAdjust none none c n).1 (Builtin.Slice.sliceAdjust none none c n).2 c)
def stepL {α : Type} (xs : List α) (c : Int) : List α := (List.range (stepP xs.length c).2).filterMap fun (k : Nat) => xs[((stepP xs.length c).1 + (k : Int) * c).toNat]?
section
variable {prog : Program} {w : World} {A : Around} {E : Value → Shared → Prop} {s : Shared}
end
section
variable {X : Cx}
def tStepT (K : PySem.W.Frag) (te : TE) (ts : TO) : TE := fun σ H Q => te σ H fun x H1 => ts σ H1 fun o H2 => ∃ (c : Int) (a : Addr) (xs : List V), o = some c ∧ c ≠ 0 ∧ c ≠ 1 ∧ x = .ref a ∧ SqT K H2 a xs ∧ ∀ p, H2 p = none → Q (.ref p) (upd H2 p (.tup (stepL xs c)))
end
end Lv

/-! LvBb: xs.remove(y), y and the items data of any depth -/
namespace Lv
open PySem PySem.Spec PyProof.Rows L2
section
variable {X : Cx}
/-- the first item that is equal is gone -/
def rRemD (K : PySem.W.Frag) : V → List V → Hp → VK → Prop := fun x xs H Q => ∃ (a : Addr) (y : V) (d : PyData) (ys : List V) (ds : List PyData) (j : Nat) (z : PyData), x = V.ref a ∧ xs = [y] ∧ H a = some (.lst ys) ∧ DpAll K H ys ds ∧ Dp K H y d ∧
  SeqAt.shaped (.list ds) = true ∧ SeqAt.shaped d = true ∧ ds[j]? = some z ∧ PyData.eqv z d = true ∧ (∀ (m : Nat) (z' : PyData), m < j → ds[m]? = some z' → PyData.eqv z' d = false) ∧ Q .non (upd H a (.lst (ys.eraseIdx j)))
end
end Lv

/-! LvBc: dict(list of pairs) with nested keys -/
namespace Lv
open PySem PySem.Spec PyProof.Rows L2
section
variable {X : Cx}
def putsE (L : Ents) (ps : Ents) : Ents := ps.foldl (fun L p => putE L p.1 p.2.1 p.2.2) L
def rDictPN (P : Program) (w : World) (K : PySem.W.Frag) : List V → Hp → VK → Prop := fun xs H Q => ∃ (a : Addr) (ts : List Addr) (L : Ents), xs = [.ref a] ∧ SqL K H a (ts.map V.ref) ∧ Paired (fun t (p : NestedKey × Addr × V) => SqT K H t [.ref p.2.1, p.2.2] ∧ KeyAt K H p.1 p.2.1) ts L ∧
  ∀ p, H p = none → Q (.ref p) (upd H p (DicNO P w p (putsE [] L)))
end
end Lv

/-! LvBd: len of a dict with nested keys; the one walk or the other -/
namespace Lv
open PySem PySem.Spec PyProof.Rows L2
section
variable {X : Cx}
def rLenDN (P : Program) (w : World) (K : PySem.W.Frag) : List V → Hp → VK → Prop := fun xs H Q => ∃ (a : Addr) (L : Ents), xs = [.ref a] ∧ H a = some (DicNO P w a L) ∧ (∀ p ∈ L, KeyAt K H p.1 p.2.1) ∧ Q (.int (L.length : Nat)) H
theorem call_lenDN : CallR X (.builtin "len") (rLenDN X.prog X.w X.K) := by
  intro pins s σ H xs us Q I r h
  obtain ⟨a, L, rfl, ha, hk, q⟩ := h
  obtain ⟨u, rfl, ru⟩ := r.one
  cases (show u = Value.ref a from ru)
  have R := dic_rd I.hok (.inl ha)
  obtain ⟨ys, rel, dd⟩ := R.full fun p hp => keyIs I (hk p hp)
  have hl : L.length = ys.length := Paired.length rel
  have z := R.1
  have sl := sizeLine_eq
  exact call_len_dictH R.2.1 dd (by omega) ⟨.int L.length, H, (I.tok _), ⟨s.toks + 1, by rw [hl]⟩, q⟩
def iAny (K : PySem.W.Frag) (tl : TE) : TI := fun σ H R => iList K tl σ H R ∨ iTup K tl σ H R
end
end Lv

/-! dicts with nested keys: {k: v}, list(d), sorted(d); a call with keywords of a def that leans on the guards -/
namespace PySem
section
variable {prog : Program} {w : World} {K : Type} [DecidableEq K] {knd : HeapKind prog w K} {A : Around} {E : Value → Shared → Prop} {s : Shared}
theorem lv_dispH {env : Env} {keys : List (Option Expr)} {values : List Expr} {pos : Pos} {pairs : List (Sem Value × Sem Value)} {Q : Value → Shared → Prop} (hu : knd.room A)
    (hshape : (evalEachOpt keys env).zip ((evalEach values env).map fun v => do let x ← v; standAt pos; pure x) = pairs.map fun p => (some p.1, p.2)) (h0 : pairs ≠ []) (hlen : pairs.length ≤ 15)
    (h : wpAny (model prog w) A (evalPairs pairs) (fun vs s₁ => ∃ ps, CarriesH knd s₁.heap vs ps ∧ s₁.heap.DictOfH knd s.heap.objs.size [] ∧
      ∀ h' tk, h'.DictOfH knd s.heap.objs.size (storedAllH [] ps) → Heap.SameBut s.heap.objs.size s₁.heap h' → Q (.ref s.heap.objs.size) { s₁ with heap := h', toks := tk }) E
      { s with heap := s.heap.push { cls := .type "dict", data := .dict #[] } }) :
    wpAny (model prog w) A (eval (.Dict keys values pos) env) Q E s := by
  rw [arm_eval_Dict, hshape, dictDisplay_pairs pairs h0 (by omega)]
  refine wpAny_bind (wpAny_standAt (wpAny_bind (wpAny_subDictH (knd := knd) (Q := fun d s' => wpAny (model prog w) A (pure (Value.ref d)) Q E s') hu hlen (wpAny_mono h (fun vs s₁ h₁ => ?_) fun _ _ e => e))))
  obtain ⟨ps, hc, hm, hq⟩ := h₁
  exact ⟨ps, hc, hm, fun h' tk a b => wpAny_pure (hq h' tk a b)⟩
end
end PySem
namespace Lv
open PySem PySem.Spec PyProof.Rows L2 PySem.W PySem.Calls
/-- {k: v}, k a nested tuple -/
def tDisp1N (P : Program) (w : World) (K : PySem.W.Frag) (tk tv : TE) : TE := fun σ H Q => ∀ p, H p = none → tk σ (upd H p (DicNO P w p [])) fun x H1 => tv σ H1 fun y H2 => H2 p = some (DicNO P w p []) ∧ ∃ (k : NestedKey) (b : Addr), x = .ref b ∧ KeyAt K H2 k b ∧ Q (.ref p) (upd H2 p (DicNO P w p [(k, b, y)]))
section
variable {X : Cx}
theorem pe_disp1N {pos : Pos} {ke ve : Expr} {tk tv : TE} (hu : X.A.units + 16 < cLine) (hk : PE X ke tk) (hv : PE X ve tv) : PE X (.Dict [some ke] [ve] pos) (tDisp1N X.prog X.w X.K tk tv) := by
  refine ⟨fun pins s σ H Q I q => ?_⟩
  have big := Ne.symm (Nat.ne_of_lt I.big)
  have hn := I.hok.fresh (Nat.le_refl s.heap.objs.size)
  have R0 : Dic0 X.prog X.w (s.heap.push { cls := .type "dict", data := .dict #[] }) s.heap.objs.size [] := by
    refine ⟨Nat.zero_le _, beq_eq_false_iff_ne.mpr big, [], .nil, _, #[], 0, Heap.get?_push_size _ rfl, ⟨rfl, rfl, rfl⟩, rfl, rfl, List.nodup_nil⟩
  have I1 : L2.Inv X pins σ (upd H s.heap.objs.size (DicNO X.prog X.w s.heap.objs.size [])) { s with heap := s.heap.push { cls := .type "dict", data := .dict #[] } } := I.laid (a := s.heap.objs.size) (o := DicNO X.prog X.w s.heap.objs.size []) (t' := s.toks) (fun _ _ e => Heap.get?_push_of_some _ e) (Nat.le_refl _) (dicNO_ok R0)
  refine lv_dispH (knd := nestedKind X.prog X.w) (pairs := pairTrees [some ke] [ve] X.env pos) (show X.A.units + 8 < cLine by omega) (zip_pairTrees [some ke] [ve] X.env pos rfl rfl) (by simp [pairTrees]) (by simp [pairTrees]) ?_
  have hp := (pps_cons (pos := pos) hk hv pps_nil).run pins _ σ _ (fun ps H2 => match ps with
    | [(x, y)] => H2 s.heap.objs.size = some (DicNO X.prog X.w s.heap.objs.size []) ∧ ∃ (k : NestedKey) (b : Addr), x = .ref b ∧ KeyAt X.K H2 k b ∧ Q (.ref s.heap.objs.size) (upd H2 s.heap.objs.size (DicNO X.prog X.w s.heap.objs.size [(k, b, y)]))
    | _ => False) I1 (q _ hn)
  · refine thn hp fun vs s2 z => ?_
    obtain ⟨ps, H2, I2, rel, z⟩ := z
    obtain _ | @⟨p1, v1, ps', vs', ⟨rk, rv⟩, rest⟩ := rel
    · exact False.elim z
    cases rest with
    | cons _ _ => exact False.elim z
    | nil =>
    obtain ⟨x, y⟩ := p1
    obtain ⟨hd, k, b, e, kb, q2⟩ := z
    cases (show x = V.ref b from e)
    obtain ⟨kv, vv⟩ := v1
    cases (show kv = Value.ref b from rk)
    have Rz := dic_rd I2.hok (.inl hd)
    obtain ⟨xs, rr, dd⟩ := Rz.full fun p hp => nomatch hp
    cases rr
    refine ⟨[(k, b, vv)], ⟨rfl, rfl, keyIs I2 kb, trivial⟩, dd, fun h' tk dd' sb => ?_⟩
    obtain ⟨o', es', ep', ho', hx', hd', he', _, hn'⟩ := dd'
    have rv : RelV y vv := rv
    have R1 : Dic0 X.prog X.w h' s.heap.objs.size [(k, b, y)] := ⟨by rw [sizeLine_eq]; show 1 ≤ _; decide, Rz.2.1, [(k, b, vv)], .cons ⟨rfl, rfl, rv⟩ .nil, o', es', ep', ho', hx', hd', he', hn'⟩
    exact ⟨.ref s.heap.objs.size, _, I2.write (x := s.heap.objs.size) (e := s.heap.objs.size) (by rw [hd]; trivial) (.inl rfl) (fun c q hc z => (sb.2 c hc).trans z) ⟨o', ho'⟩ (dicNO_ok R1), rfl, q2⟩
/-- list(d), d with nested keys -/
def rListDN (P : Program) (w : World) : List V → Hp → VK → Prop := fun xs H Q => ∃ (a : Addr) (L : Ents), xs = [.ref a] ∧ H a = some (DicNO P w a L) ∧ ∀ q, H q = none → Q (.ref q) (upd H q (.lst (L.map fun e => V.ref e.2.1)))
theorem keys_vals {L : Ents} {ys : List (NestedKey × Addr × Value)} {es : Array DictEntry} {acc : Array Value} (rel : Paired RelE L ys) (he : es.toList = ys.map (entryOfKey (nestedKind X.prog X.w))) (hit : ItemsOf (fun i v => ∃ hi : i < es.size, v = es[i].key) acc es.size) : Vals (L.map fun e => V.ref e.2.1) acc.toList := by
  have hsz := size_of_entries he
  have go : ∀ {L : Ents} {ys : List (NestedKey × Addr × Value)}, Paired RelE L ys → Vals (L.map fun e => V.ref e.2.1) (ys.map fun y => Value.ref y.2.1) := by
    intro L ys r
    induction r with
    | nil => exact .nil
    | cons r t ih => exact .cons (congrArg Value.ref r.2.1.symm) ih
  have e : acc.toList = ys.map fun y => Value.ref y.2.1 := by
    apply List.ext_getElem?
    intro i
    by_cases hi : i < es.size
    · have hi1 : i < acc.size := by rw [hit.1]; exact hi
      obtain ⟨_, e2⟩ := hit.2 i _ (Array.getElem?_eq_getElem hi1)
      have e3 := entry_at he i
      rw [Array.getElem?_eq_getElem hi] at e3
      rw [Array.getElem?_toList, Array.getElem?_eq_getElem hi1, e2, List.getElem?_map]
      cases e4 : ys[i]? with
      | none => rw [e4] at e3; cases e3
      | some y =>
        rw [e4] at e3
        have e5 : es[i] = entryOfKey (nestedKind X.prog X.w) y := Option.some.inj e3
        rw [e5]
        rfl
    · rw [List.getElem?_eq_none (by rw [Array.length_toList, hit.1]; omega), List.getElem?_eq_none (by rw [List.length_map]; omega)]
  rw [e]
  exact go rel
theorem cr_listDN (hc : X.calm = true) : CallR X (.type "list") (rListDN X.prog X.w) := by
  intro pins s σ H xs us Q I r h
  obtain ⟨a, L, rfl, ha, q⟩ := h
  obtain ⟨u, rfl, ru⟩ := r.one
  cases (show u = Value.ref a from ru)
  obtain ⟨z, hd, ys, rel, o, es, ep, ho, hx, hdat, he, _⟩ := dic_rd I.hok (.inl ha)
  have lx : L.length = ys.length := Paired.length rel
  have hsz := size_of_entries he
  refine PySem.W.kdl_call (PySem.KdlSrc.rawDict hd) (I.ok.hd hc) ⟨o, ho, hx, hdat⟩ (by omega) fun h' tk acc c kp hg hit => ?_
  have hn : H s.heap.objs.size = none := I.hok.fresh (Nat.le_refl _)
  have rv := keys_vals (X := X) rel he hit
  exact ⟨.ref s.heap.objs.size, _, I.laid (a := s.heap.objs.size) (o := .lst (L.map fun e => V.ref e.2.1)) (t' := tk) kp (Nat.le_refl _) ⟨by rw [List.length_map]; exact z, acc.toList, c, rv, by simpa using hg⟩, rfl, q _ hn⟩
end
section
variable {X : Cx} {CX : CXT} {k n : Nat} {f : Addr} {fd : FuncData} {ps ks : List Str} {sp : Sp} {E : XK} {x : Str} {p pos : Pos} {e : Expr} {es : List Expr} {kws : List Keyword} {t tk : TA} {g : List Value → List Value → List Value} {gV : List V → List V → List V}
theorem run_fnNG {pins : List (Addr × Obj)} {σ : L2.St} {H : Hp} {s : Shared} {Q : VK} {us ws : List Value} {vs zs : List V} (F : FnG X.prog X.w X.K X.mg X.base CX k f fd ps sp) (hgd : X.A.guards = some []) (hr : Room k X.A) (hb : KBn X.K fd ps n ks g gV) (hx : Passes CX X E)
    (I : L2.Inv X pins σ H s) (r : Vals vs us) (rz : Vals zs ws) (l1 : vs.length = n) (l2 : zs.length = ks.length) (h : sp (gV vs zs) H Q E) : wpAny (model X.prog X.w) X.A (call (.ref f) us (ks.zip ws)) (EP X pins σ Q) X.xe s := by
  have r2 := hb.rel r rz
  refine wpAny_call (codeAny_mono (F.run X.A hgd X.stack s H ⟨us, ks.zip ws⟩ (g us ws) (gV vs zs) Q E hr I.env0 (hb.to s us ws I.kIn (r.length.symm.trans l1) (rz.length.symm.trans l2)) r2 h) fun r s' hq => ?_)
  cases r with
  | error e => exact hx pins σ H s e s' I hq
  | ok fl =>
    cases fl with
    | ret u => exact I.after hq
    | next => exact False.elim hq
    | brk => exact False.elim hq
    | cont => exact False.elim hq
/-- f(e, .., k = v, ..), f a def that leans on the guards -/
theorem pe_callNG (F : FnG X.prog X.w X.K X.mg X.base CX k f fd ps sp) (hgd : X.A.guards = some []) (hr : Room k X.A) (hg : Gl X x) (hm : X.mg x = some (.ref f)) (hk : PySem.W.keepIn X.K (.ref f) = true) (hb : KBn X.K fd ps n ks g gV) (hx : Passes CX X E)
    (ha : PA X (e :: es) t) (hkw : PK X kws tk) (hall : (backToKw pos (keywordEach kws X.env)).all (·.1.isSome) = true := by rfl) (hks : (backToKw pos (keywordEach kws X.env)).filterMap (·.1) = ks := by rfl)
    (hdb : (x == ("__debug__" : Str)) = false := by decide) (he : starEach (e :: es) X.env = (false, eval e X.env) :: starEach es X.env := by rfl)
    (hpl : ((backTo pos (starEach (e :: es) X.env)).any (·.1) || (backToKw pos (keywordEach kws X.env)).any (·.1.isNone)) = false := by rfl) :
    PE X (.Call (.Name x p) (e :: es) kws pos) (tCallN n ks.length sp gV E t tk) := by
  refine ⟨fun pins s σ H Q I h => ?_⟩
  refine wpAny_Call_Name_kw (ld_glob I hg hm ?_ hdb)
  refine PySem.W.callWith_KW (h₀ := X.base) I.ok.mod.kin hk hall (thn (ha.run pos pins s σ H _ I h) fun us s1 ⟨vs, H1, I1, r, q⟩ => ?_) hpl he
  refine thn (hkw.run pos pins s1 σ H1 _ I1 q) fun ws s2 ⟨zs, H2, I2, rz, l1, l2, q2⟩ => ⟨I2.kIn, ?_⟩
  rw [hks]
  exact run_fnNG F hgd hr hb hx I2 r rz l1 l2 q2
end
end Lv

/-! sets of nested tuples that can be walked: set(list), sorted -/
namespace Lv
open PySem PySem.Spec PyProof.Rows L2
section
variable {P : Program} {w : World} {A : Around} {E : Value → Shared → Prop} {s : Shared} {a : Addr} {L : Mems} {es : Array (Int × Value)} {ep : Nat} {t : SetTable}
end
end Lv

/-! sets of nested tuples that can be walked: set(list), sorted -/
namespace Lv
open PySem PySem.Spec PyProof.Rows L2 PySem.W PySem.Calls
/-- the set at a holds L and can be walked -/
def Set1 (w : World) (h : Heap) (a : Addr) (L : Mems) : Prop := ∃ (es : Array (Int × Value)) (ep : Nat) (t : SetTable), (∃ o, h.get? a = some o ∧ o.ExactSet ∧ o.data = .set es ep t) ∧ es.toList = rowN w L ∧ TabOk t (hashN w L) ∧ (L.map (·.1)).Nodup ∧ L.length * 5 < t.mask * 3 ∧ L.length < 64 ∧ (w.params.followText "set-order" = true ∨ t.led = true)
section
variable {P : Program} {w : World} {h h' : Heap} {a : Addr} {L : Mems}
theorem Set1.at (R : Set1 w h a L) (k : ∀ o, h.get? a = some o → h'.get? a = some o) : Set1 w h' a L := by
  obtain ⟨es, ep, t, ⟨o, ho, r⟩, q⟩ := R
  exact ⟨es, ep, t, ⟨o, k o ho, r⟩, q⟩
theorem Set1.full (R : Set1 w h a L) (k : ∀ p ∈ L, (NK P w).is h p.1 p.2) : ∃ es ep t, SetN P w h a L es ep t ∧ (w.params.followText "set-order" = true ∨ t.led = true) := by
  obtain ⟨es, ep, t, ho, h1, h2, h3, h4, h5, h6⟩ := R
  exact ⟨es, ep, t, ⟨ho, h1, h2, h3, k, h4, h5⟩, h6⟩
end
section
variable {P : Program} {w : World} {A : Around} {E : Value → Shared → Prop} {s : Shared}
/-- members that came from the i first -/
def From (kf : Nat → NestedKey) (af : Nat → Addr) (i : Nat) (L : Mems) : Prop := Keys kf i L ∧ ∀ p ∈ L, ∃ j, j < i ∧ p = (kf j, af j)
theorem From.next {kf : Nat → NestedKey} {af : Nat → Addr} {i : Nat} {L L' : Mems} (k : From kf af i L) (h1 : kf i ∈ L.map (·.1) → L' = L) (h2 : kf i ∉ L.map (·.1) → L'.Perm ((kf i, af i) :: L)) : From kf af (i + 1) L' := by
  refine ⟨k.1.next h1 h2, fun p hp => ?_⟩
  by_cases h : kf i ∈ L.map (·.1)
  · rw [h1 h] at hp
    obtain ⟨j, lt, e⟩ := k.2 p hp
    exact ⟨j, by omega, e⟩
  · rcases List.mem_cons.mp ((h2 h).mem_iff.mp hp) with rfl | hp
    · exact ⟨i, by omega, rfl⟩
    · obtain ⟨j, lt, e⟩ := k.2 p hp
      exact ⟨j, by omega, e⟩
theorem perm_pull {α β : Type} {f : α → β} : ∀ {vs us : List β}, vs.Perm us → ∀ L : List α, us = L.map f → ∃ M : List α, M.Perm L ∧ vs = M.map f := by
  intro vs us p
  induction p with
  | nil =>
    intro L e
    cases L with
    | nil => exact ⟨[], .refl _, rfl⟩
    | cons => cases e
  | cons x _ ih =>
    intro L e
    cases L with
    | nil => cases e
    | cons y L =>
      injection e with e1 e2
      obtain ⟨M, h1, h2⟩ := ih L e2
      exact ⟨y :: M, h1.cons y, by rw [List.map_cons, ← h2, e1]⟩
  | swap x y l =>
    intro L e
    match L, e with
    | a :: b :: L, e =>
      injection e with e1 e2
      injection e2 with e2 e3
      exact ⟨b :: a :: L, .swap a b L, by rw [List.map_cons, List.map_cons, ← e1, ← e2, ← e3]⟩
  | trans _ _ ih1 ih2 =>
    intro L e
    obtain ⟨M, h1, h2⟩ := ih2 L e
    obtain ⟨M2, h3, h4⟩ := ih1 M h2
    exact ⟨M2, h3.trans h1, h4⟩
theorem each_refs : ∀ M : Mems, EachIs (fun v (p : NestedKey × Addr) => v = Value.ref p.2) (M.map fun p => Value.ref p.2) M
  | [] => .nil
  | _ :: M => .cons rfl (each_refs M)
theorem each_back : ∀ {us : List Value} {M : Mems}, EachIs (fun v (p : NestedKey × Addr) => v = Value.ref p.2) us M → us = M.map fun p => Value.ref p.2
  | _, _, .nil => rfl
  | _, _, .cons r t => by rw [List.map_cons, ← r, ← each_back t]
end
end Lv

/-! sorted(d), d a dict with nested keys -/
namespace Lv
open PySem PySem.Spec PyProof.Rows L2 PySem.W PySem.Calls
section
variable {P : Program} {w : World} {A : Around} {E : Value → Shared → Prop} {s : Shared}
end
/-- sorted(d) -/
def rSortDN (P : Program) (w : World) (K : PySem.W.Frag) : List V → Hp → VK → Prop := fun xs H Q => ∃ (a : Addr) (L : Ents), xs = [.ref a] ∧ H a = some (DicNO P w a L) ∧ (∀ e ∈ L, KeyAt K H e.1 e.2.1) ∧ (∀ e ∈ L, (dOf e.1).depth ≤ 16) ∧ AllAlike (L.map fun e => dOf e.1) ∧ Sortable (L.map fun e => dOf e.1) ∧
  ∀ q, H q = none → Q (.ref q) (upd H q (.lst ((L.mergeSort (dataLe false fun e => dOf e.1)).map fun e => V.ref e.2.1)))
end Lv

/-! two orders of the same data, sorted, are the same -/
namespace Lv
open PySem PySem.Spec PyProof.Rows L2 PySem.W
mutual
theorem zk_inj : ∀ k k' : NestedKey, PyData.eqv (dOf k) (dOf k') = true → k = k'
  | .num i, .num j, h => by simp [dOf, PyData.eqv] at h; rw [h]
  | .text x, .text y, h => by simp [dOf, PyData.eqv] at h; rw [h]
  | .none, .none, _ => rfl
  | .tup ks, .tup ks', h => by
    rw [dOf, dOf, PyData.eqv] at h
    rw [zks_inj ks ks' h]
  | .num _, .text _, h => by simp [dOf, PyData.eqv] at h
  | .num _, .none, h => by simp [dOf, PyData.eqv] at h
  | .num _, .tup _, h => by simp [dOf, PyData.eqv] at h
  | .text _, .num _, h => by simp [dOf, PyData.eqv] at h
  | .text _, .none, h => by simp [dOf, PyData.eqv] at h
  | .text _, .tup _, h => by simp [dOf, PyData.eqv] at h
  | .none, .num _, h => by simp [dOf, PyData.eqv] at h
  | .none, .text _, h => by simp [dOf, PyData.eqv] at h
  | .none, .tup _, h => by simp [dOf, PyData.eqv] at h
  | .tup _, .num _, h => by simp [dOf, PyData.eqv] at h
  | .tup _, .text _, h => by simp [dOf, PyData.eqv] at h
  | .tup _, .none, h => by simp [dOf, PyData.eqv] at h
theorem zks_inj : ∀ ks ks' : List NestedKey, PyData.eqvAll (dsOf ks) (dsOf ks') = true → ks = ks'
  | [], [], _ => rfl
  | [], _ :: _, h => by simp [dsOf, PyData.eqvAll] at h
  | _ :: _, [], h => by simp [dsOf, PyData.eqvAll] at h
  | k :: ks, k' :: ks', h => by
    rw [dsOf, dsOf, PyData.eqvAll, Bool.and_eq_true] at h
    rw [zk_inj k k' h.1, zks_inj ks ks' h.2]
end
theorem zk_anti {x y : PyData} (h : alike x y = true) (h1 : dataLt x y = false) (h2 : dataLt y x = false) : PyData.eqv x y = true := by
  cases e : PyData.eqv x y with
  | true => rfl
  | false =>
    have t := (listOrd itemOrd).total (keyToks x) (keyToks y) h1 h2
    have q := (toks_eqv x y h).2 e [.inl 0] [.inl 1]
    rw [t, lex_pre, lex_irrefl] at q
    cases q
theorem zk_trans {α : Type} (k : α → PyData) (a b c : α) (h1 : dataLe false k a b = true) (h2 : dataLe false k b c = true) : dataLe false k a c = true := by
  rw [dataLe_eq] at *
  simp only [cond_false, Bool.not_eq_true'] at *
  exact KeyOrd.kle_trans (O := listOrd itemOrd) h1 h2
theorem zk_total {α : Type} (k : α → PyData) (a b : α) : (dataLe false k a b || dataLe false k b a) = true := by
  rw [dataLe_eq]
  simp only [cond_false]
  cases h : dataLt (k b) (k a) with
  | false => rfl
  | true =>
    have q : dataLt (k a) (k b) = false := KeyOrd.klt_asymm (O := listOrd itemOrd) h
    rw [q]
    rfl
theorem zk_uniq {α : Type} {r : α → α → Prop} : ∀ {l m : List α}, (∀ x ∈ l, ∀ y ∈ l, r x y → r y x → x = y) → l.Pairwise r → m.Pairwise r → l.Perm m → l = m
  | [], m, _, _, _, p => p.nil_eq
  | x :: l, [], _, _, _, p => by
    have := p.length_eq
    cases this
  | x :: l, y :: m, anti, hl, hm, p => by
    obtain ⟨a1, a2⟩ := List.pairwise_cons.mp hl
    obtain ⟨b1, b2⟩ := List.pairwise_cons.mp hm
    have e : x = y := by
      rcases List.mem_cons.mp (p.mem_iff.mp (.head _) : x ∈ y :: m) with q | q
      · exact q
      · have hy : y ∈ x :: l := p.mem_iff.mpr (.head _)
        rcases List.mem_cons.mp hy with q' | q'
        · exact q'.symm
        · exact anti _ (.head _) _ hy (a1 _ q') (b1 _ q)
    subst e
    rw [zk_uniq (fun u hu v hv => anti u (.tail _ hu) v (.tail _ hv)) a2 b2 (List.perm_cons x |>.mp p)]
theorem zk_ndinj {α β : Type} {f : α → β} : ∀ {l : List α}, (l.map f).Nodup → ∀ x ∈ l, ∀ y ∈ l, f x = f y → x = y
  | [], _, x, hx, _, _, _ => nomatch hx
  | z :: l, h, x, hx, y, hy, e => by
    rw [List.map_cons, List.nodup_cons] at h
    rcases List.mem_cons.mp hx with e1 | h1
    · rcases List.mem_cons.mp hy with e2 | h2
      · rw [e1, e2]
      · exact absurd (by rw [← e1, e]; exact List.mem_map_of_mem h2) h.1
    · rcases List.mem_cons.mp hy with e2 | h2
      · exact absurd (by rw [← e2, ← e]; exact List.mem_map_of_mem h1) h.1
      · exact zk_ndinj h.2 x h1 y h2 e
/-- two orders of the same, sorted -/
theorem zk_sort {α : Type} {k : α → NestedKey} (al : ∀ a b, alike (dOf (k a)) (dOf (k b)) = true) {l m : List α} (nd : (l.map k).Nodup) (p : l.Perm m) : l.mergeSort (dataLe false fun x => dOf (k x)) = m.mergeSort (dataLe false fun x => dOf (k x)) := by
  have pl := List.mergeSort_perm l (dataLe false fun x => dOf (k x))
  have pm := List.mergeSort_perm m (dataLe false fun x => dOf (k x))
  refine zk_uniq (r := fun c d => dataLe false (fun x => dOf (k x)) c d = true) (fun c hc d hd h1 h2 => ?_) (List.pairwise_mergeSort (zk_trans _) (zk_total _) _) (List.pairwise_mergeSort (zk_trans _) (zk_total _) _) ((pl.trans p).trans pm.symm)
  rw [dataLe_eq] at h1 h2
  simp only [cond_false, Bool.not_eq_true'] at h1 h2
  exact zk_ndinj nd c (pl.mem_iff.mp hc) d (pl.mem_iff.mp hd) (zk_inj _ _ (zk_anti (al c d) h2 h1))
end Lv

/-! x == [] for a list of any values -/
namespace Lv
open PySem PySem.Spec PyProof.Rows L2
def rEqLE (K : PySem.W.Frag) : R2 := fun x y H Q => ∃ (a b : Addr) (xs : List V), x = .ref a ∧ y = .ref b ∧ SqL K H a xs ∧ SqL K H b [] ∧ Q (.bl xs.isEmpty) H
theorem op_eqLE {X : Cx} (hu : X.A.units + 64 < cLine) : OpR X (compareOp .Eq) (rEqLE X.K) := by
  intro pins s σ H x y v u Q I rx ry h
  obtain ⟨a, b, xs, rfl, rfl, ha, hb, q⟩ := h
  cases (show v = Value.ref a from rx)
  cases (show u = Value.ref b from ry)
  obtain ⟨us, r1, p1, _⟩ := I.list ha
  obtain ⟨ws, r2, p2, _⟩ := I.list hb
  cases r2
  have e := r1.length
  cases xs with
  | nil =>
    cases us with
    | nil =>
      refine SeqAt.RcAt.lists (e := fun _ => true) p1.isList p2.isList rfl (by omega) (fun j h1 h2 => absurd h2 (Nat.not_lt_zero j)) X.prog X.w _ _ ?_
      exact ⟨.bl true, H, I, rfl, q⟩
    | cons _ _ => cases e
  | cons z xs =>
    cases us with
    | nil => cases e
    | cons w us =>
      refine SeqAt.RcAt.lists_lengths p1.isList p2.isList (by simp) (by omega) X.prog X.w _ _ ?_
      exact ⟨.bl false, H, I, rfl, q⟩
end Lv
namespace Lv
open PySem PySem.Spec PyProof.Rows L2 PySem.SeqAt
/-- x not in t, t a tuple of texts, x of any kind -/
def rNotInWT (K : PySem.W.Frag) : V → V → Hp → VK → Prop := fun x y H Q => ∃ (p : Addr) (ws : List Str) (t : String), y = .ref p ∧ SqT K H p (ws.map V.str) ∧ Kn H x t ∧ Q (.bl (!inW x ws)) H
end Lv

/-! the tables of greater sets (masks 7, 31, 127, 511): each hash's way meets every slot, one more is put in, all are laid anew -/
namespace Lv
open PySem PySem.Spec PyProof.Rows L2
def MX (m : Nat) : Prop := m = 7 ∨ m = 31 ∨ m = 127 ∨ m = 511
theorem MX.odd {m : Nat} (h : MX m) : m % 2 = 1 := by unfold MX at h; omega
theorem MX.top {m : Nat} (h : MX m) : m ≤ 511 := by unfold MX at h; omega
theorem cover511 : ((List.range 512).all fun j => (List.range 512).any fun b => lcgN 511 b == j) = true := by decide +kernel
theorem turn511 : ∀ k, lcgN 511 (512 + k) = lcgN 511 k := fun k => by
  have e := lcgN_add 511 512 k
  rw [← e, show lcgN 511 512 = lcgN 511 0 by decide +kernel, lcgN_add, Nat.zero_add]
theorem roundX {m : Nat} (hm : MX m) {i j : Nat} (hi : i ≤ m) (hj : j ≤ m) : ∃ k, k ≤ m ∧ lcgI m i k = j := by
  rcases hm with e | e | e | e
  · exact lcgI_all (.inl e) hi hj
  · exact lcgI_all (.inr (.inl e)) hi hj
  · exact lcgI_all (.inr (.inr e)) hi hj
  · subst e
    have at_ : ∀ j, j ≤ 511 → ∃ b, b < 512 ∧ lcgN 511 b = j := fun j hj => by
      obtain ⟨b, hb, e⟩ := List.any_eq_true.mp (List.all_eq_true.mp cover511 j (List.mem_range.mpr (by omega)))
      exact ⟨b, List.mem_range.mp hb, beq_iff_eq.mp e⟩
    obtain ⟨x, hx, ex⟩ := at_ i hi
    obtain ⟨y, hy, ey⟩ := at_ j hj
    by_cases c : x ≤ y
    · exact ⟨y - x, by omega, by rw [← ex, lcgN_add, show x + (y - x) = y by omega, ey]⟩
    · exact ⟨512 + y - x, by omega, by rw [← ex, lcgN_add, show x + (512 + y - x) = 512 + y by omega, turn511, ey]⟩
/-- each slot begins a run, early enough -/
theorem runX {m : Nat} (hm : MX m) (h : Int) {j : Nat} (hj : j ≤ m) : ∃ n, n < SetTable.turns m ∧ runI m (SetTable.bits h) n = j := by
  obtain ⟨k, hk, e⟩ := roundX hm (runI_le m (SetTable.bits h) 12) hj
  refine ⟨12 + k, by unfold SetTable.turns; omega, ?_⟩
  rw [runI_tail (bits_lt h), e]
theorem way_run (m : Nat) (h : Int) (n : Nat) : ∃ k, k ≤ 10 * n ∧ way m h k = runI m (SetTable.bits h) n := by
  obtain ⟨k, hk, e⟩ := run_nth m (SetTable.bits h) n
  exact ⟨k, hk, by unfold way; rw [e]; rfl⟩
theorem way_in (m : Nat) (h : Int) (k : Nat) : way m h k ≤ m := by
  have hi := runI_le m (SetTable.bits h) 0
  have hb := runEnd_bd hi
  have := nth_in (m := m) k (runAt m (runI m (SetTable.bits h) 0) (SetTable.bits h)) (by
    show runI m (SetTable.bits h) 0 + (SetTable.runEnd m (runI m (SetTable.bits h) 0) - runI m (SetTable.bits h) 0) ≤ m
    omega)
  exact Nat.le_trans (Nat.le_add_right _ _) this
/-- a table in which each hash's slot is found on its way -/
structure TabX (t : SetTable) (hs : List Int) : Prop where
  ris : Ris t.place.toList
  dm : t.dummies = #[]
  sz : t.place.size = hs.length
  mok : MX t.mask
  bd : ∀ x ∈ t.place.toList, x ≤ t.mask
  on : ∀ q ∈ hs.zip t.place.toList, ∃ k, way t.mask q.1 k = q.2 ∧ ∀ c, c < k → way t.mask q.1 c ∈ t.place.toList
theorem zip_at {α β : Type} {l : List α} {m : List β} {i : Nat} {x : α} {y : β} (h1 : l[i]? = some x) (h2 : m[i]? = some y) : (x, y) ∈ l.zip m :=
  List.mem_of_getElem? (i := i) (List.getElem?_zip_eq_some.mpr ⟨h1, h2⟩)
section
variable {t : SetTable} {hs : List Int}
theorem TabX.first (T : TabX t hs) (hl : hs.length ≤ t.mask) (h : Int) : ∃ K, K < 10 * SetTable.turns t.mask ∧ way t.mask h K ∉ t.place.toList ∧ ∀ k, k < K → way t.mask h k ∈ t.place.toList := by
  obtain ⟨j, j1, j2⟩ := st_missing t.place.toList (t.mask + 1) (by rw [Array.length_toList, T.sz]; omega)
  obtain ⟨n, n1, n2⟩ := runX T.mok h (Nat.le_of_lt_succ j1)
  obtain ⟨k, k1, k2⟩ := way_run t.mask h n
  obtain ⟨K, a, b, c⟩ := st_least (p := fun k => way t.mask h k ∉ t.place.toList) k (by rw [k2, n2]; exact j2)
  exact ⟨K, by omega, b, fun k' hk => Classical.not_not.mp (c k' hk)⟩
theorem TabX.before (T : TabX t hs) {h : Int} {K i j : Nat} (hK : way t.mask h K ∉ t.place.toList) (hi : hs[i]? = some h) (hj : t.place.toList[i]? = some j) : ∃ k, k < K ∧ way t.mask h k = j := by
  obtain ⟨k, e, b⟩ := T.on (h, j) (zip_at hi hj)
  refine ⟨k, Classical.byContradiction fun n => ?_, e⟩
  by_cases c : k = K
  · rw [c] at e
    rw [e] at hK
    exact hK (List.mem_of_getElem? hj)
  · exact hK (b K (by omega))
theorem zip_ins {α β : Type} {l : List α} {m : List β} {p : Nat} {x : α} {y : β} (h : l.length = m.length) : (l.take p ++ x :: l.drop p).zip (m.take p ++ y :: m.drop p) = (l.take p).zip (m.take p) ++ (x, y) :: (l.drop p).zip (m.drop p) := by
  rw [List.zip_append (by rw [List.length_take, List.length_take, h]), List.zip_cons_cons]
theorem mem_zip_cut {α β : Type} {l : List α} {m : List β} {p : Nat} {q : α × β} (h : l.length = m.length) (k : q ∈ (l.take p).zip (m.take p) ∨ q ∈ (l.drop p).zip (m.drop p)) : q ∈ l.zip m := by
  have e : l.zip m = (l.take p).zip (m.take p) ++ (l.drop p).zip (m.drop p) := by
    rw [← List.zip_append (by rw [List.length_take, List.length_take, h]), List.take_append_drop, List.take_append_drop]
  rw [e]
  exact List.mem_append.mpr k
theorem TabX.put (T : TabX t hs) {h : Int} {K : Nat} (hK : way t.mask h K ∉ t.place.toList) (hb : ∀ k, k < K → way t.mask h k ∈ t.place.toList) :
    (t.put (way t.mask h K)).2 = SetTable.below t.place (way t.mask h K) ∧ SetTable.below t.place (way t.mask h K) ≤ hs.length ∧
    TabX (t.put (way t.mask h K)).1 (hs.take (SetTable.below t.place (way t.mask h K)) ++ h :: hs.drop (SetTable.below t.place (way t.mask h K))) ∧
    (t.put (way t.mask h K)).1.mask = t.mask ∧ (t.put (way t.mask h K)).1.led = t.led ∧ (t.put (way t.mask h K)).1.fill = hs.length + 1 := by
  have top := way_in t.mask h K
  have cut := (below_cut T.ris (way t.mask h K)).1
  have pp := put_place t (way t.mask h K)
  have pd := put_dm T.dm (way t.mask h K)
  have e0 : t.place.toList.length = hs.length := T.sz
  have c1 : SetTable.below t.place (way t.mask h K) ≤ t.place.toList.length := cut
  have nh : t.place[SetTable.below t.place (way t.mask h K)]? ≠ some (way t.mask h K) := fun e => hK (List.mem_of_getElem? (Array.getElem?_toList.trans e))
  have r := ris_insert T.ris nh
  rw [e0] at c1
  have sz : (t.put (way t.mask h K)).1.place.size = hs.length + 1 := by
    rw [← Array.length_toList, pp, len_ins _ (by rw [e0]; exact c1), e0]
  have stay : ∀ x ∈ t.place.toList, x ∈ (t.put (way t.mask h K)).1.place.toList := fun x hx => by
    rw [pp]
    exact mem_ins.mpr (.inr hx)
  refine ⟨rfl, c1, ⟨r, pd, sz.trans (len_ins _ c1 _).symm, T.mok, fun x hx => ?_, fun q hq => ?_⟩, rfl, rfl, ?_⟩
  · rw [pp] at hx
    rcases mem_ins.mp hx with e | hx
    · rw [e]
      exact top
    · exact T.bd x hx
  · rw [pp, zip_ins e0.symm] at hq
    have old : q ∈ hs.zip t.place.toList → ∃ k, way t.mask q.1 k = q.2 ∧ ∀ c, c < k → way t.mask q.1 c ∈ (t.put (way t.mask h K)).1.place.toList := fun hq => by
      obtain ⟨k, e, b⟩ := T.on q hq
      exact ⟨k, e, fun c hc => stay _ (b c hc)⟩
    rcases List.mem_append.mp hq with hq | hq
    · exact old (mem_zip_cut e0.symm (.inl hq))
    · rcases List.mem_cons.mp hq with e | hq
      · rw [e]
        exact ⟨K, rfl, fun c hc => stay _ (hb c hc)⟩
      · exact old (mem_zip_cut e0.symm (.inr hq))
  · unfold SetTable.fill
    rw [sz, pd]
    rfl
end
/-! ### all laid anew -/
theorem freeX {m : Nat} (hm : MX m) (owner : Array (Option Nat)) (h : Int) {j : Nat} (hj : j ≤ m) (hf : oAt owner j = none) :
    ∃ K, SetTable.layClean.free m owner (SetTable.turns m) (SetTable.bits h % (m + 1)) (SetTable.bits h) = some (way m h K) ∧ oAt owner (way m h K) = none ∧ ∀ k, k < K → oAt owner (way m h k) ≠ none := by
  obtain ⟨n, n1, n2⟩ := runX hm h hj
  have e : way m h (off m (SetTable.bits h % (m + 1)) (SetTable.bits h) n) = j := by
    unfold way
    rw [nth_off, itL_run]
    exact n2
  obtain ⟨K, a, b, c⟩ := st_least (p := fun k => oAt owner (way m h k) = none) _ (by rw [e]; exact hf)
  refine ⟨K, free_spec m owner _ n _ _ K n1 a (fun k hk => ?_) ?_, b, c⟩
  · have := c k hk
    unfold way at this
    generalize oAt owner _ = o at this ⊢
    cases o with
    | none => exact absurd rfl this
    | some x => rfl
  · unfold way at b
    rw [b]
    rfl
theorem Own.free {m : Nat} {done : List Int} {owner : Array (Option Nat)} (W : L2.Own m done owner) (hl : done.length ≤ m) : ∃ j, j ≤ m ∧ oAt owner j = none := by
  obtain ⟨ps, p1, p2⟩ := W.ps
  obtain ⟨j, j1, j2⟩ := st_missing ps (m + 1) (by omega)
  refine ⟨j, by omega, Classical.byContradiction fun n => j2 (p2 j (by omega) n)⟩
theorem Own.moreX {m : Nat} (hm : MX m) {done : List Int} {owner : Array (Option Nat)} (W : L2.Own m done owner) (hl : done.length ≤ m) (h : Int) :
    ∃ j, SetTable.layClean.free m owner (SetTable.turns m) (SetTable.bits h % (m + 1)) (SetTable.bits h) = some j ∧ L2.Own m (done ++ [h]) (owner.setIfInBounds j (some done.length)) := by
  obtain ⟨j0, h0, n0⟩ := Own.free W hl
  obtain ⟨K, e, free, occ⟩ := freeX hm owner h h0 n0
  have top := way_in m h K
  obtain ⟨j, ej⟩ : ∃ j, j = way m h K := ⟨_, rfl⟩
  rw [← ej] at e free top
  have inb : j < owner.size := by rw [W.sz]; omega
  have self := oAt_set_self (some done.length) inb
  have full : ∀ i, oAt owner i ≠ none → oAt (owner.setIfInBounds j (some done.length)) i ≠ none := fun i hi => by
    have ne : i ≠ j := fun z => hi (z ▸ free)
    rw [oAt_set_ne _ ne]
    exact hi
  refine ⟨j, e, ?_, ?_, ?_, ?_⟩
  · rw [Array.size_setIfInBounds, W.sz]
  · intro i k hi hk
    by_cases c : i = j
    · rw [c, self] at hk
      cases hk
      exact ⟨h, K, by rw [List.getElem?_append_right (Nat.le_refl _), Nat.sub_self]; rfl, by rw [c, ej], fun k' hk' => full _ (occ k' hk')⟩
    · rw [oAt_set_ne _ c] at hk
      obtain ⟨h', K', a1, a2, a3⟩ := W.at_ i k hi hk
      exact ⟨h', K', by rw [List.getElem?_append_left (List.getElem?_eq_some_iff.mp a1).1, a1], a2, fun k' hk' => full _ (a3 k' hk')⟩
  · intro k hk
    rcases Nat.lt_or_ge k done.length with lt | ge
    · obtain ⟨i, hi, ei⟩ := W.all k lt
      have ne : i ≠ j := fun z => by rw [z, free] at ei; cases ei
      exact ⟨i, hi, by rw [oAt_set_ne _ ne, ei]⟩
    · have : k = done.length := by rw [List.length_append, List.length_singleton] at hk; omega
      rw [this]
      exact ⟨j, top, self⟩
  · obtain ⟨ps, p1, p2⟩ := W.ps
    refine ⟨j :: ps, by simp [p1], fun i hi ni => ?_⟩
    by_cases c : i = j
    · rw [c]
      exact .head _
    · rw [oAt_set_ne _ c] at ni
      exact .tail _ (p2 i hi ni)
theorem foldX {m : Nat} (hm : MX m) : ∀ (rest done : List Int) (owner : Array (Option Nat)), L2.Own m done owner → done.length + rest.length ≤ m →
    ∃ o, rest.foldl (stepF m) (some (owner, done.length)) = some (o, done.length + rest.length) ∧ L2.Own m (done ++ rest) o
  | [], done, owner, W, _ => ⟨owner, rfl, by rw [List.append_nil]; exact W⟩
  | h :: rest, done, owner, W, hl => by
    rw [List.length_cons] at hl
    obtain ⟨j, e, W1⟩ := Own.moreX hm W (by omega) h
    obtain ⟨o, f, W2⟩ := foldX hm rest (done ++ [h]) _ W1 (by rw [List.length_append, List.length_singleton]; omega)
    rw [List.length_append, List.length_singleton] at f
    refine ⟨o, ?_, by rw [List.append_assoc] at W2; exact W2⟩
    rw [List.foldl_cons, stepF_some e, f, List.length_cons]
    exact congrArg (fun n => some (o, n)) (by omega)
theorem cleanX {m : Nat} (hm : MX m) {hs : Array Int} (hn : hs.size ≤ m) : ∃ o, SetTable.layClean m hs = some o ∧ L2.Own m hs.toList o := by
  obtain ⟨o, f, W⟩ := foldX hm hs.toList [] _ (L2.Own.init m) (by rw [Array.length_toList]; simpa using hn)
  refine ⟨o, ?_, W⟩
  rw [layClean_eq, show (some (Array.replicate (m + 1) none, 0) : Option (Array (Option Nat) × Nat)) = some (Array.replicate (m + 1) none, ([] : List Int).length) from rfl, f]
  rfl
theorem relaidX (t : SetTable) {hs : Array Int} {wanted M : Nat} (hw : SetTable.sizeAbove wanted - 1 = M) (hM : MX M) (hn : hs.size ≤ M) :
    ∃ t' order, t.relaid hs wanted = some (t', order) ∧ order.toList.Perm (List.range hs.size) ∧ TabX t' (order.toList.map fun i => hs.getD i 0) ∧ t'.mask = M ∧ t'.led = t.led := by
  obtain ⟨o, e, W⟩ := cleanX hM hn
  obtain ⟨l1, l2⟩ : Ris ((liveOf M o).map (·.1)) ∧ ∀ x ∈ (liveOf M o).map (·.1), x ∈ List.range (M + 1) := ris_live (fun j => o.getD j none) (List.range (M + 1)) List.pairwise_lt_range
  have memL : ∀ {j k : Nat}, (j, k) ∈ liveOf M o ↔ j ≤ M ∧ oAt o j = some k := mem_live W.sz
  have hz : hs.toList.length = hs.size := Array.length_toList
  have nd : ((liveOf M o).map (·.1)).Nodup := List.Pairwise.imp (R := fun a b : Nat => a < b) (fun h => Nat.ne_of_lt h) l1
  have up : (liveOf M o).length ≤ hs.size := by
    obtain ⟨ps, p1, p2⟩ := W.ps
    have := nat_nodup_len _ ps nd fun x hx => by
      obtain ⟨⟨j, k⟩, hq, rfl⟩ := List.mem_map.mp hx
      obtain ⟨b1, b2⟩ := memL.mp hq
      exact p2 j b1 (by rw [b2]; exact fun z => nomatch z)
    rwa [List.length_map, p1, hz] at this
  have seen : ∀ k, k < hs.size → k ∈ (liveOf M o).map (·.2) := fun k hk => by
    obtain ⟨j, b1, b2⟩ := W.all k (by rw [hz]; exact hk)
    exact List.mem_map.mpr ⟨(j, k), memL.mpr ⟨b1, b2⟩, rfl⟩
  have low : hs.size ≤ (liveOf M o).length := by
    have := nat_nodup_len (List.range hs.size) ((liveOf M o).map (·.2)) List.nodup_range fun k hk => seen k (List.mem_range.mp hk)
    rwa [List.length_range, List.length_map] at this
  refine ⟨tabOf t M o, ((liveOf M o).map (·.2)).toArray, ?_, ?_, ⟨l1, rfl, ?_, hM, fun x hx => Nat.le_of_lt_succ (List.mem_range.mp (l2 x hx)), fun q hq => ?_⟩, rfl, rfl⟩
  · rw [relaid_eq, hw, e]
    rfl
  · exact perm_range hs.size _ (by rw [List.length_map]; omega) seen
  · show ((liveOf M o).map (·.1)).toArray.size = _
    simp
  · have hq : q ∈ (((liveOf M o).map (·.2)).map fun i => hs.getD i 0).zip ((liveOf M o).map (·.1)) := hq
    rw [List.map_map, List.zip_map'] at hq
    obtain ⟨⟨j, k⟩, hm, rfl⟩ := List.mem_map.mp hq
    obtain ⟨b1, b2⟩ := memL.mp hm
    obtain ⟨h0, K, a1, a2, a3⟩ := W.at_ j k b1 b2
    have eh : hs.getD k 0 = h0 := by
      rw [Array.getD_eq_getD_getElem?, ← Array.getElem?_toList, a1]
      rfl
    refine ⟨K, ?_, fun c hc => ?_⟩
    · show way M (hs.getD k 0) K = j
      rw [eh, a2]
    · show way M (hs.getD k 0) c ∈ (liveOf M o).map (·.1)
      rw [eh]
      have := a3 c hc
      cases z : oAt o (way M h0 c) with
      | none => exact absurd z this
      | some x => exact List.mem_map.mpr ⟨(way M h0 c, x), memL.mpr ⟨way_in M h0 c, z⟩, rfl⟩
end Lv

/-! greater sets of nested tuples (less than 300 members): a member is put in; printed by gen_bs.py -/
namespace Lv
open PySem PySem.Spec PyProof.Rows L2
theorem size_308 : SetTable.sizeAbove (SetTable.grown 77) = 512 := by decide +kernel
/-- one question of the search: the next place of a member with this hash, or the free slot -/
theorem probe_x {t : SetTable} {hs : List Int} (T : TabX t hs) {ha : Nat → Int} (hha : ∀ (i : Nat) x, hs[i]? = some x → ha i = x) {h : Int} {K c : Nat} (hc : c ≤ K) (hf : K < 10 * SetTable.turns t.mask)
    (hK : way t.mask h K ∉ t.place.toList) (hb : ∀ q, q < K → way t.mask h q ∈ t.place.toList) :
    (∃ (q i : Nat), c ≤ q ∧ q < K ∧ t.place.toList[i]? = some (way t.mask h q) ∧ hs[i]? = some h ∧ (∀ (q' i' : Nat), c ≤ q' → q' < q → t.place.toList[i']? = some (way t.mask h q') → hs[i']? ≠ some h) ∧
      t.probe ha h (stand t h c) = some (.candidate (way t.mask h q) i (stand t h (q + 1)))) ∨
    ((∀ (q' i' : Nat), c ≤ q' → q' < K → t.place.toList[i']? = some (way t.mask h q') → hs[i']? ≠ some h) ∧ t.probe ha h (stand t h c) = some (.empty (way t.mask h K) none)) := by
  have at_ : ∀ q, (nth t.mask (stand t h c) q).j = way t.mask h (c + q) := fun q => congrArg SetTable.Probe.j (stand_on t h c q)
  have sz : t.place.toList.length = hs.length := by rw [Array.length_toList]; exact T.sz
  have hsome : ∀ (i j : Nat), t.place.toList[i]? = some j → hs[i]? = some (hs.getD i 0) := fun i j e => by
    have hl : i < hs.length := by rw [← sz]; exact (List.getElem?_eq_some_iff.mp e).1
    simp [List.getD, List.getElem?_eq_getElem hl]
  have no : ∀ {B : Nat}, (∀ (k' i' : Nat), k' < B → t.place.toList[i']? = some (nth t.mask (stand t h c) k').j → ha i' ≠ h) → ∀ (q' i' : Nat), c ≤ q' → q' < c + B → t.place.toList[i']? = some (way t.mask h q') → hs[i']? ≠ some h := by
    intro B hno q' i' h1 h2 h3 h4
    refine hno (q' - c) i' (by omega) ?_ (hha i' h h4)
    rw [at_, show c + (q' - c) = q' by omega]
    exact h3
  rcases go_spec t T.ris T.dm ha h (10 * SetTable.turns t.mask) (K - c) (stand t h c) (stand_clean t h c) (by omega) (fun q hq => by rw [at_]; exact hb _ (by omega)) (by rw [at_, show c + (K - c) = K by omega]; exact hK) with ⟨q, i, hq, hi, hh, hno, hp⟩ | ⟨hno, hp⟩
  · refine .inl ⟨c + q, i, by omega, by omega, by rw [← at_]; exact hi, ?_, no hno, ?_⟩
    · have e := hsome i _ hi
      rw [e]
      rw [← hha i _ e, hh]
    · have hp' : t.probe ha h (stand t h c) = some (.candidate (nth t.mask (stand t h c) q).j i (nth t.mask (stand t h c) (q + 1))) := hp
      rw [hp', at_, stand_on]
      rfl
  · refine .inr ⟨fun q' i' h1 h2 => no hno q' i' h1 (by omega), ?_⟩
    have hp' : t.probe ha h (stand t h c) = some (.empty (nth t.mask (stand t h c) (K - c)).j none) := hp
    rw [hp', at_, show c + (K - c) = K by omega]
/-- the set at a holds L -/
structure SetX (P : Program) (w : World) (h : Heap) (a : Addr) (L : Mems) (es : Array (Int × Value)) (ep : Nat) (t : SetTable) : Prop where
  obj : ∃ o, h.get? a = some o ∧ o.ExactSet ∧ o.data = .set es ep t
  row : es.toList = rowN w L
  tab : TabX t (hashN w L)
  once : (L.map (·.1)).Nodup
  key : ∀ p ∈ L, (NK P w).is h p.1 p.2
  free : L.length * 5 < t.mask * 3
  small : L.length < 300
section
variable {P : Program} {w : World} {A : Around} {E : Value → Shared → Prop} {s : Shared} {a : Addr} {L : Mems} {es : Array (Int × Value)} {ep : Nat} {t : SetTable}
theorem SetX.len {h : Heap} (R : SetX P w h a L es ep t) : es.size = L.length := by
  rw [← Array.length_toList, R.row, row_len]
theorem SetX.fit {h : Heap} (R : SetX P w h a L es ep t) : t.fits es.size = true := by
  have h1 := R.tab.sz
  rw [hash_len] at h1
  have h2 := R.len
  have h3 := R.free
  exact fits_of (by omega) R.tab.dm (by omega)
theorem SetX.nth_ {h : Heap} (R : SetX P w h a L es ep t) {i : Nat} {p : NestedKey × Addr} (e : L[i]? = some p) : es[i]? = some (p.1.hash w, Value.ref p.2) := by
  rw [← Array.getElem?_toList, R.row]
  simp [rowN, e]
theorem SetX.stays {h : Heap} (R : SetX P w h a L es ep t) : ¬ t.gaveWay = true := by
  unfold SetTable.gaveWay
  rw [R.tab.mok.odd]
  decide
/-- the search, from its c-th stand on -/
theorem seek_x (R : SetX P w s.heap a L es ep t) {x : Addr} {k : NestedKey} (hx : (NK P w).is s.heap k x) (ru : (NK P w).room A) {K : Nat} (hf : K < 10 * SetTable.turns t.mask) (hK : way t.mask (k.hash w) K ∉ t.place.toList)
    (hb : ∀ q, q < K → way t.mask (k.hash w) q ∈ t.place.toList) {Q : SetFound → Shared → Prop} (qi : k ∈ L.map (·.1) → Q (.there none) s) (qo : k ∉ L.map (·.1) → Q (.free (way t.mask (k.hash w) K) false) s) :
    ∀ (f c : Nat) (o : Option SetTable.Probe), o.getD (t.probeStart (k.hash w)) = stand t (k.hash w) c → c ≤ K → K - c < f →
      (∀ (i : Nat) p, L[i]? = some p → p.1 = k → ∃ c', c ≤ c' ∧ c' < K ∧ t.place.toList[i]? = some (way t.mask (k.hash w) c')) → wpAny (model P w) A (setSearchFrom a (.ref x) (k.hash w) true f o) Q E s := by
  intro f
  induction f with
  | zero => intro c o _ _ hz; omega
  | succ f ih =>
    intro c o eo hc hz later
    obtain ⟨ob, hob, hex, hda⟩ := R.obj
    have hat : ∀ (i : Nat) v, (hashN w L)[i]? = some v → (fun i => (es[i]?.map (·.1)).getD 0) i = v := fun i v e => by
      unfold hashN at e
      rw [List.getElem?_map] at e
      cases hp : L[i]? with
      | none => rw [hp] at e; cases e
      | some p =>
        rw [hp] at e
        cases e
        simp [R.nth_ hp]
    have inL : ∀ (i : Nat) p, L[i]? = some p → p.1 = k → (hashN w L)[i]? = some (k.hash w) := fun i p e ek => by
      unfold hashN
      rw [List.getElem?_map, e, ← ek]
      rfl
    rw [setSearchFrom_succ]
    refine wpAny_bind (wpAny_setState_of hob hda R.fit ?_)
    dsimp only
    refine wp_if_neg R.stays ?_
    rw [eo]
    rcases probe_x R.tab hat hc hf hK hb with ⟨q, i, h1, h2, h3, h4, h5, h6⟩ | ⟨h5, h6⟩
    · rw [h6]
      dsimp only
      have il : i < L.length := by
        have := (List.getElem?_eq_some_iff.mp h4).1
        rw [hash_len] at this
        exact this
      obtain ⟨p, hp⟩ : ∃ p, L[i]? = some p := ⟨_, List.getElem?_eq_getElem il⟩
      have pm := List.mem_of_getElem? hp
      have slot := slot_live R.tab.ris h3
      have rest : wpAny (model P w) A (searchRest a (.ref x) (k.hash w) true f es t (way t.mask (k.hash w) q) i (stand t (k.hash w) (q + 1))) Q E s := by
        unfold searchRest
        rw [R.nth_ hp]
        dsimp only
        refine wpAny_bind (wpAny_holding ((NK P w).eqBool ru (R.key p pm) hx (wpAny_bind (wpAny_setState_of hob hda R.fit ?_))))
        dsimp only
        by_cases same : p.1 = k
        · rw [decide_eq_true same]
          exact wp_if_pos (by decide) (wpAny_pure (qi (List.mem_map.mpr ⟨p, pm, same⟩)))
        · rw [decide_eq_false same]
          refine wp_if_neg (by decide) ?_
          rw [sameMem]
          dsimp only
          simp only [if_true, slot, R.nth_ hp]
          refine wpAny_bind (wpAny_isSame_ref_self (wpAny_bind (wpAny_pure ?_)))
          simp only [if_true]
          refine wp_if_neg (by decide) ?_
          refine ih (q + 1) (some (stand t (k.hash w) (q + 1))) rfl (by omega) (by omega) fun i0 p0 e0 k0 => ?_
          obtain ⟨c', l1, l2, l3⟩ := later i0 p0 e0 k0
          refine ⟨c', ?_, l2, l3⟩
          rcases Nat.lt_trichotomy c' q with z | z | z
          · exact absurd (inL i0 p0 e0 k0) (h5 c' i0 l1 z l3)
          · have s0 := slot_live R.tab.ris l3
            rw [z, slot] at s0
            injection s0 with s0
            rw [← s0, hp] at e0
            cases e0
            exact absurd k0 same
          · omega
      by_cases hl : t.led = true
      · refine wp_if_neg (by rw [hl]; decide) ?_
        exact rest
      · refine wp_if_pos (by simp [hl]) ?_
        refine wpAny_bind (unseen hx (fun y hy => ?_) ?_)
        · obtain ⟨e, he, rfl⟩ := List.mem_map.mp hy
          have he' : e ∈ es.toList := by
            have : e ∈ es ∧ e.1 = k.hash w := by simpa using he
            simpa using this.1
          rw [R.row] at he'
          obtain ⟨p2, hp2, rfl⟩ := List.mem_map.mp he'
          exact ⟨p2.2, p2.1, rfl, R.key p2 hp2⟩
        · exact wp_if_neg (by decide) rest
    · rw [h6]
      refine wpAny_pure (qo fun hm => ?_)
      obtain ⟨p0, m0, k0⟩ := List.mem_map.mp hm
      obtain ⟨i0, l0, e0⟩ := List.getElem_of_mem m0
      have e1 : L[i0]? = some p0 := by rw [List.getElem?_eq_getElem l0, e0]
      obtain ⟨c', l1, l2, l3⟩ := later i0 p0 e1 k0
      exact h5 c' i0 l1 l2 l3 (inL i0 p0 e1 k0)
/-- the search of an adding -/
theorem search_x (R : SetX P w s.heap a L es ep t) {x : Addr} {k : NestedKey} (hx : (NK P w).is s.heap k x) (ru : (NK P w).room A) {Q : SetFound → Shared → Prop} (qi : k ∈ L.map (·.1) → Q (.there none) s)
    (qo : ∀ K, k ∉ L.map (·.1) → way t.mask (k.hash w) K ∉ t.place.toList → (∀ q, q < K → way t.mask (k.hash w) q ∈ t.place.toList) → Q (.free (way t.mask (k.hash w) K) false) s) :
    wpAny (model P w) A (setSearch a (.ref x) (k.hash w) true) Q E s := by
  have fr := R.free
  obtain ⟨K, hf, hK, hb⟩ := R.tab.first (by rw [hash_len]; omega) (k.hash w)
  have few : 10 * SetTable.turns t.mask ≤ 6000 := by
    unfold SetTable.turns
    have := R.tab.mok.top
    omega
  refine seek_x R hx ru hf hK hb qi (fun n => qo K n hK hb) 100000 0 none rfl (Nat.zero_le _) (by omega) fun i p e ek => ?_
  have hi : (hashN w L)[i]? = some (k.hash w) := by
    unfold hashN
    rw [List.getElem?_map, e, ← ek]
    rfl
  have il : i < t.place.toList.length := by
    have h1 := (List.getElem?_eq_some_iff.mp hi).1
    have h2 := R.tab.sz
    rw [Array.length_toList]
    omega
  obtain ⟨c, hc, ec⟩ := R.tab.before hK hi (List.getElem?_eq_getElem il)
  exact ⟨c, Nat.zero_le _, hc, by rw [List.getElem?_eq_getElem il, ec]⟩
/-- the table is laid anew -/
theorem relay_x {o : Obj} (ho : s.heap.get? a = some o) (hx : o.ExactSet) (hd : o.data = .set es ep t) (hld : w.params.followText "set-order" = true ∨ t.led = true) (hr : es.toList = rowN w L) (hsz : t.place.size = L.length) (hdm : t.dummies = #[]) (hm : L.length ≤ t.mask)
    (once : (L.map (·.1)).Nodup) (key : ∀ p ∈ L, (NK P w).is s.heap p.1 p.2) (small : L.length < 300) {want M : Nat} (hw : SetTable.sizeAbove want - 1 = M) (hM : MX M) (hw2 : SetTable.sizeAbove want ≤ 512) (hn : L.length * 5 < M * 3)
    {Q : Unit → Shared → Prop} (q : ∀ h' L' es' ep' t', Heap.SameBut a s.heap h' → SetX P w h' a L' es' ep' t' → (w.params.followText "set-order" = true ∨ t'.led = true) → L'.Perm L → Q () { s with heap := h' }) : wpAny (model P w) A (setRelay a want) Q E s := by
  have hl : es.size = L.length := by rw [← Array.length_toList, hr, row_len]
  obtain ⟨t', order, e, hp, T, em, el⟩ := relaidX t (hs := es.map (·.1)) hw hM (by rw [Array.size_map, hl]; omega)
  rw [Array.size_map, hl] at hp
  obtain ⟨L2, r1, r2, r3⟩ := reorder order.toList hr hp
  rw [← r3] at T
  have r1' : (order.filterMap (es[·]?)).toList = rowN w L2 := by rw [Array.toList_filterMap]; exact r1
  have hs2 : (order.filterMap (es[·]?)).size = es.size := by rw [← Array.length_toList, r1', row_len, r2.length_eq, hl]
  rw [setRelay_eq]
  refine wpAny_bind (wpAny_setState_of ho hd (by rw [hl]; exact fits_of hsz hdm hm) ?_)
  dsimp only
  refine wp_if_neg (by rw [sizeLine_eq]; omega) ?_
  rw [e]
  refine wpAny_bind (wp_if_neg (by rw [hs2]; simp) (wpAny_pure ?_))
  refine wpAny_storeSet_of ho hd ?_ (by rw [hs2, hl, sizeLine_eq]; omega)
  have sb : Heap.SameBut a s.heap (s.heap.update a (Obj.putSet (order.filterMap (es[·]?)) t')) := Heap.SameBut.update ..
  exact q _ L2 _ (ep + 1) t' sb ⟨⟨_, store_at ho hd, ⟨hx.1, hx.2.1, hx.2.2⟩, rfl⟩, r1', T, (r2.map (·.1)).nodup_iff.mpr once, fun p hp => key_but (key p (r2.mem_iff.mp hp)) ho hd sb, by rw [r2.length_eq, em]; exact hn, by rw [r2.length_eq]; exact small⟩ (by rw [el]; exact hld) r2
/-- a key is put in -/
theorem add_x (R : SetX P w s.heap a L es ep t) (hld : w.params.followText "set-order" = true ∨ t.led = true) {x : Addr} {k : NestedKey} (hx : (NK P w).is s.heap k x) (ru : (NK P w).room A) (more : L.length + 1 < 300) {Q : Bool → Shared → Prop}
    (q : ∀ b h' L' es' ep' t', Heap.SameBut a s.heap h' → SetX P w h' a L' es' ep' t' → (w.params.followText "set-order" = true ∨ t'.led = true) → (k ∈ L.map (·.1) → L' = L) → (k ∉ L.map (·.1) → L'.Perm ((k, x) :: L)) → Q b { s with heap := h' }) :
    wpAny (model P w) A (setAddHashed a (.ref x) (k.hash w)) Q E s := by
  obtain ⟨o, ho, hex, hd⟩ := R.obj
  have hl := R.len
  have fr := R.free
  refine wpAny_holding ?_
  rw [show (100000 : Nat) = 99999 + 1 from rfl, setAddHashedIn_succ]
  refine wpAny_bind (wpAny_setState_of ho hd R.fit ?_)
  dsimp only
  refine wp_if_neg (by simp [byScan, Value.scannable]) ?_
  refine wpAny_bind (search_x R hx ru (fun hm => wpAny_pure (q false s.heap L es ep t (Heap.SameBut.refl a s.heap) R hld (fun _ => rfl) fun z => absurd hm z)) fun K hm hK hb => ?_)
  dsimp only
  refine wpAny_bind (wpAny_setState_of ho hd R.fit ?_)
  dsimp only
  obtain ⟨b1, b2, b3, b4, b5, b9⟩ := R.tab.put hK hb
  rw [hash_len] at b2 b9
  have hpm : (L.take (SetTable.below t.place (way t.mask (k.hash w) K)) ++ (k, x) :: L.drop (SetTable.below t.place (way t.mask (k.hash w) K))).Perm ((k, x) :: L) := by
    have := List.perm_middle (a := (k, x)) (l₁ := L.take (SetTable.below t.place (way t.mask (k.hash w) K))) (l₂ := L.drop (SetTable.below t.place (way t.mask (k.hash w) K)))
    rw [List.take_append_drop] at this
    exact this
  have hrow : (SetTable.insertAt es (SetTable.below t.place (way t.mask (k.hash w) K)) (k.hash w, Value.ref x)).toList = rowN w (L.take (SetTable.below t.place (way t.mask (k.hash w) K)) ++ (k, x) :: L.drop (SetTable.below t.place (way t.mask (k.hash w) K))) := by
    rw [SetTable.toList_insertAt, R.row]
    simp [rowN, List.map_take, List.map_drop]
  have hhash : hashN w (L.take (SetTable.below t.place (way t.mask (k.hash w) K)) ++ (k, x) :: L.drop (SetTable.below t.place (way t.mask (k.hash w) K))) = (hashN w L).take (SetTable.below t.place (way t.mask (k.hash w) K)) ++ k.hash w :: (hashN w L).drop (SetTable.below t.place (way t.mask (k.hash w) K)) := by
    simp [hashN, List.map_take, List.map_drop]
  rw [← hhash] at b3
  generalize hpt : t.put (way t.mask (k.hash w) K) = pt at b1 b3 b4 b5 b9 ⊢
  obtain ⟨t1, p1⟩ := pt
  dsimp only at b1 b3 b4 b5 b9 ⊢
  subst b1
  generalize SetTable.below t.place (way t.mask (k.hash w) K) = pl at *
  generalize L.take pl ++ (k, x) :: L.drop pl = L1 at *
  have l1 : L1.length = L.length + 1 := hpm.length_eq
  have once1 : (L1.map (·.1)).Nodup := by
    refine (hpm.map (·.1)).nodup_iff.mpr ?_
    rw [List.map_cons]
    exact List.nodup_cons.mpr ⟨hm, R.once⟩
  have go : ∀ (b : Bool) (t2 : SetTable), t2 = (if b = true then t1 else { t1 with plain := false }) → wpAny (model P w) A (do
      storeSet a (SetTable.insertAt es pl (k.hash w, Value.ref x)) t2
      if !false && t2.tooFull then setRelay a (SetTable.grown (es.size + 1))
      return true) Q E s := by
    intro b t2 e2
    have T2 : TabX t2 (hashN w L1) ∧ t2.mask = t1.mask ∧ t2.fill = t1.fill ∧ t2.led = t1.led := by
      rw [e2]
      cases b with
      | true => exact ⟨b3, rfl, rfl, rfl⟩
      | false => exact ⟨⟨b3.ris, b3.dm, b3.sz, b3.mok, b3.bd, b3.on⟩, rfl, rfl, rfl⟩
    obtain ⟨T2, m2, f2, d2⟩ := T2
    have hl2 : w.params.followText "set-order" = true ∨ t2.led = true := by rw [d2, b5]; exact hld
    generalize SetTable.insertAt es pl (k.hash w, Value.ref x) = es1 at *
    have hs1 : es1.size = L.length + 1 := by rw [← Array.length_toList, hrow, row_len, l1]
    refine wpAny_bind (wpAny_storeSet_of ho hd ?_ (by rw [hs1, sizeLine_eq]; omega))
    have sb : Heap.SameBut a s.heap (s.heap.update a (Obj.putSet es1 t2)) := Heap.SameBut.update ..
    have ho1 := store_at (es' := es1) (t' := t2) ho hd
    have key1 : ∀ p ∈ L1, (NK P w).is (s.heap.update a (Obj.putSet es1 t2)) p.1 p.2 := fun p hp => by
      rcases List.mem_cons.mp (hpm.mem_iff.mp hp) with rfl | hp
      · exact key_but hx ho hd sb
      · exact key_but (R.key p hp) ho hd sb
    generalize s.heap.update a (Obj.putSet es1 t2) = h1 at *
    have full : t2.tooFull = decide ((L.length + 1) * 5 ≥ t2.mask * 3) := by
      unfold SetTable.tooFull
      rw [f2, b9]
    by_cases hf : (L.length + 1) * 5 ≥ t2.mask * 3
    · rw [full, decide_eq_true hf]
      refine wp_if_pos rfl (wpAny_bind ?_)
      rw [hl]
      have two : (t.mask = 7 ∧ L.length = 4) ∨ (t.mask = 31 ∧ L.length = 18) ∨ (t.mask = 127 ∧ L.length = 76) := by
        rw [m2, b4] at hf
        rcases R.tab.mok with e | e | e | e <;> rw [e] at hf fr
        · exact .inl ⟨e, by omega⟩
        · exact .inr (.inl ⟨e, by omega⟩)
        · exact .inr (.inr ⟨e, by omega⟩)
        · omega
      have end_ : ∀ h' L' es' ep' t', Heap.SameBut a h1 h' → SetX P w h' a L' es' ep' t' → (w.params.followText "set-order" = true ∨ t'.led = true) → L'.Perm L1 → wpAny (model P w) A (pure true) Q E { s with heap := h' } := fun h' L' es' ep' t' s2 R2 dl p2 =>
        wpAny_pure (q true h' L' es' ep' t' (sb.trans s2) R2 dl (fun z => absurd z hm) fun _ => p2.trans hpm)
      have sz2 : t2.place.size = L1.length := by
        have := T2.sz
        rw [hash_len] at this
        exact this
      rcases two with ⟨e, e'⟩ | ⟨e, e'⟩ | ⟨e, e'⟩
      · refine relay_x (s := { s with heap := h1 }) (M := 31) ho1 ⟨hex.1, hex.2.1, hex.2.2⟩ rfl hl2 hrow sz2 T2.dm (by rw [m2, b4]; omega) once1 key1 (by omega) (by rw [e', size_20]) (.inr (.inl rfl)) (by rw [e', size_20]; decide) (by omega) end_
      · refine relay_x (s := { s with heap := h1 }) (M := 127) ho1 ⟨hex.1, hex.2.1, hex.2.2⟩ rfl hl2 hrow sz2 T2.dm (by rw [m2, b4]; omega) once1 key1 (by omega) (by rw [e', size_76]) (.inr (.inr (.inl rfl))) (by rw [e', size_76]; decide) (by omega) end_
      · refine relay_x (s := { s with heap := h1 }) (M := 511) ho1 ⟨hex.1, hex.2.1, hex.2.2⟩ rfl hl2 hrow sz2 T2.dm (by rw [m2, b4]; omega) once1 key1 (by omega) (by rw [e', size_308]) (.inr (.inr (.inr rfl))) (by rw [e', size_308]; decide) (by omega) end_
    · rw [full, decide_eq_false hf]
      refine wp_if_neg (fun z => nomatch z) ?_
      refine wpAny_pure (q true h1 L1 es1 (ep + 1) t2 sb ⟨⟨_, ho1, ⟨hex.1, hex.2.1, hex.2.2⟩, rfl⟩, hrow, T2, once1, key1, by omega, by omega⟩ hl2 (fun z => absurd z hm) fun _ => hpm)
  by_cases hpl : t1.plain = true
  · exact wp_if_pos hpl (wpAny_bind (hashQ k _ 8 s hx.1 _ _ _ fun b => go b _ rfl))
  · exact wp_if_neg hpl (wpAny_bind (wpAny_pure (go true _ rfl)))
end
end Lv

/-! set(list of nested tuples), sorted, as tracked things -/
namespace Lv
open PySem PySem.Spec PyProof.Rows L2 PySem.W PySem.Calls
def SetMO (w : World) (a : Addr) (kf : Nat → NestedKey) (af : Nat → Addr) (n : Nat) : HO := .ext fun h => ∃ L, Set1 w h a L ∧ From kf af n L
section
variable {X : Cx}
/-- set(list of nested tuples) -/
def rSetM (K : PySem.W.Frag) (w : World) : List V → Hp → VK → Prop := fun xs H Q => ∃ (l : Addr) (n : Nat) (kf : Nat → NestedKey) (af : Nat → Addr), xs = [.ref l] ∧ SqL K H l ((List.range n).map fun i => V.ref (af i)) ∧ n + 1 < 64 ∧ (∀ i, i < n → KeyAt K H (kf i) (af i)) ∧
  ∀ p, H p = none → Q (.ref p) (upd H p (SetMO w p kf af n))
theorem vals_refsM : ∀ {as : List Addr} {us : List Value}, Vals (as.map V.ref) us → us = as.map Value.ref
  | [], _, .nil => rfl
  | _ :: _, _, .cons r t => by
    rw [List.map_cons, ← vals_refsM t]
    exact congrArg (· :: _) r
/-- sorted(set of nested tuples): so many -/
def rSortM (K : PySem.W.Frag) (w : World) : List V → Hp → VK → Prop := fun xs H Q => ∃ (a : Addr) (n : Nat) (kf : Nat → NestedKey) (af : Nat → Addr), xs = [.ref a] ∧ H a = some (SetMO w a kf af n) ∧ (∀ i, i < n → KeyAt K H (kf i) (af i) ∧ (dOf (kf i)).depth ≤ 16) ∧
  (∀ ds : List PyData, (∀ d ∈ ds, ∃ i, i < n ∧ d = dOf (kf i)) → AllAlike ds ∧ Sortable ds) ∧ ∀ p zs, H p = none → (zs.length = n ↔ ((List.range n).map kf).Nodup) → zs.length ≤ n → Q (.ref p) (upd H p (.lst zs))
theorem refs_valsM : ∀ as : List Addr, Vals (as.map V.ref) (as.map Value.ref)
  | [] => .nil
  | _ :: as => .cons rfl (refs_valsM as)
end
end Lv

/-! greater sets of nested tuples: set(list), sorted(set); printed by gen_bt.py -/
namespace Lv
open PySem PySem.Spec PyProof.Rows L2 PySem.W PySem.Calls
theorem len_sub {α : Type} [DecidableEq α] : ∀ {G F : List α}, G.Nodup → (∀ x ∈ G, x ∈ F) → G.length ≤ F.length
  | [], _, _, _ => Nat.zero_le _
  | x :: G, F, nd, h => by
    obtain ⟨n1, n2⟩ := List.nodup_cons.mp nd
    have hx := h x (.head _)
    have := len_sub (F := F.erase x) n2 fun y hy => (List.mem_erase_of_ne (show y ≠ x from fun e => n1 (by rw [← e]; exact hy))).mpr (h y (.tail _ hy))
    rw [List.length_erase_of_mem hx] at this
    have : 0 < F.length := List.length_pos_of_mem hx
    rw [List.length_cons]
    omega
theorem From.few {kf : Nat → NestedKey} {af : Nat → Addr} {i n : Nat} {L : Mems} (k : From kf af i L) (h : (∃ F : List NestedKey, F.length < 299 ∧ ∀ i, i < n → kf i ∈ F)) (hi : i ≤ n) : L.length + 1 < 300 := by
  obtain ⟨F, h1, h2⟩ := h
  classical
  have := len_sub (G := L.map (·.1)) (F := F) k.1.once fun x hx => by
    obtain ⟨p, hp, rfl⟩ := List.mem_map.mp hx
    obtain ⟨j, hj, rfl⟩ := k.2 p hp
    exact h2 j (by omega)
  rw [List.length_map] at this
  omega
/-- the set at a holds L and can be walked -/
def SetW1 (w : World) (h : Heap) (a : Addr) (L : Mems) : Prop := ∃ (es : Array (Int × Value)) (ep : Nat) (t : SetTable), (∃ o, h.get? a = some o ∧ o.ExactSet ∧ o.data = .set es ep t) ∧ es.toList = rowN w L ∧ TabX t (hashN w L) ∧ (L.map (·.1)).Nodup ∧ L.length * 5 < t.mask * 3 ∧ L.length < 300 ∧ (w.params.followText "set-order" = true ∨ t.led = true)
section
variable {P : Program} {w : World} {h h' : Heap} {a : Addr} {L : Mems}
theorem SetW1.at (R : SetW1 w h a L) (k : ∀ o, h.get? a = some o → h'.get? a = some o) : SetW1 w h' a L := by
  obtain ⟨es, ep, t, ⟨o, ho, r⟩, q⟩ := R
  exact ⟨es, ep, t, ⟨o, k o ho, r⟩, q⟩
theorem SetW1.full (R : SetW1 w h a L) (k : ∀ p ∈ L, (NK P w).is h p.1 p.2) : ∃ es ep t, SetX P w h a L es ep t ∧ (w.params.followText "set-order" = true ∨ t.led = true) := by
  obtain ⟨es, ep, t, ho, h1, h2, h3, h4, h5, h6⟩ := R
  exact ⟨es, ep, t, ⟨ho, h1, h2, h3, k, h4, h5⟩, h6⟩
theorem SetX.setW1 {es : Array (Int × Value)} {ep : Nat} {t : SetTable} (R : SetX P w h a L es ep t) (hl : w.params.followText "set-order" = true ∨ t.led = true) : SetW1 w h a L := ⟨es, ep, t, R.obj, R.row, R.tab, R.once, R.free, R.small, hl⟩
theorem setW1_fresh (ho : h.get? a = some (freshSet w)) : SetW1 w h a [] := by
  refine ⟨#[], 0, _, ⟨_, ho, ⟨rfl, rfl, rfl⟩, rfl⟩, rfl, ?_, List.nodup_nil, (show 0 * 5 < 7 * 3 by decide), by decide, ?_⟩
  · refine ⟨?_, rfl, rfl, .inl rfl, (fun x hx => nomatch hx), (fun q hq => nomatch (show q ∈ [] from hq))⟩
    show List.Pairwise _ []
    exact List.Pairwise.nil
  · show w.params.followText "set-order" = true ∨ (!w.params.followText "set-order") = true
    cases w.params.followText "set-order" <;> simp
end
section
variable {P : Program} {w : World} {A : Around} {E : Value → Shared → Prop} {s : Shared}
theorem updX {I : Addr} {fp wr : List Addr} {G : Array GenState → Array GenState → Prop} {n : Nat} {Pv : Nat → Value → Prop} {St : Nat → Shared → Prop} {R : Result → Shared → Prop} (W : WalksS P w A.in1 I fp wr G n Pv St) (D : Addr) (hDf : D ∉ fp) (h0 : Heap)
    (hw : ∀ b o, h0.get? b = some o → b ∉ wr ∧ b ≠ D) (kf : Nat → NestedKey) (af : Nat → Addr) (hk : ∀ (h : Heap), (∀ b o, h0.get? b = some o → h.get? b = some o) → ∀ i, i < n → (NK P w).is h (kf i) (af i)) (hn : (∃ F : List NestedKey, F.length < 299 ∧ ∀ i, i < n → kf i ∈ F)) (ru : A.units + 12 < cLine)
    (hval : ∀ i v, Pv i v → v = .ref (af i)) : ∀ (k i : Nat) (s : Shared), n - i = k → i ≤ n → St i s → (∀ b o, h0.get? b = some o → s.heap.get? b = some o) → (∃ L, SetW1 w s.heap D L ∧ From kf af i L) →
      (∀ s' L, Moved (D :: wr) G s s' → SetW1 w s'.heap D L → From kf af n L → R (.ok (.ret .none)) s') → codeAny (model P w) A (.builtin "set.update.loop" ⟨[.ref D, .ref I], []⟩) R s := by
  have out : D ∉ wr := fun h => hDf (W.sub _ h)
  have sub : ∀ b ∈ wr, b ∈ D :: wr := fun b h => .tail _ h
  intro k
  induction k with
  | zero =>
    intro i s hk' hi hst hh hD hR
    obtain rfl : i = n := by omega
    obtain ⟨L, hD, hF⟩ := hD
    refine codeAny_builtin F.entry_set_update_loop ?_
    rw [Around.under_plainId F.plain_set_update_loop _]
    refine wpAny_bind (m := pyNext (.ref I)) (W.done s _ _ hst fun s' hm => ?_)
    exact wpAny_pure (hR s' L (hm.mono sub) (hD.at fun o e => hm.heap D o out e) hF)
  | succ k ih =>
    intro i s hk' hi hst hh hD hR
    have lt : i < n := by omega
    obtain ⟨L, hD, hF⟩ := hD
    refine codeAny_builtin F.entry_set_update_loop ?_
    rw [Around.under_plainId F.plain_set_update_loop _]
    refine wpAny_bind (m := pyNext (.ref I)) (W.item i s _ _ lt hst fun v s' hP hst' hm => ?_)
    obtain rfl := hval i v hP
    have hD' : SetW1 w s'.heap D L := hD.at fun o e => hm.heap D o out e
    have hh' : ∀ b o, h0.get? b = some o → s'.heap.get? b = some o := fun b o e => hm.heap b o (hw b o e).1 (hh b o e)
    refine wpAny_bind (m := holding [Value.ref (af i)] (setAdd D (.ref (af i)))) (wpAny_holding ?_)
    unfold setAdd
    have rm : (NK P w).room A.in1 := by
      show A.in1.units + 8 < cLine
      rw [Around.in1_units]
      omega
    refine wpAny_holding (wpAny_bind ((NK P w).pyHash rm (hk _ hh' i lt) ?_))
    obtain ⟨es, ep, t, RN, hl⟩ := hD'.full (P := P) fun p hp => by
      obtain ⟨j, jl, rfl⟩ := hF.2 p hp
      exact hk _ hh' j (by omega)
    have ol := hF.few hn (by omega)
    refine add_x (s := { s' with toks := s'.toks + (kf i).draws }) (k := kf i) ⟨RN.obj, RN.row, RN.tab, RN.once, RN.key, RN.free, RN.small⟩ hl (hk _ hh' i lt) rm (by omega) fun b h' L' es' ep' t' sb R' l' l1 l2 => ?_
    have hh2 : ∀ b o, h0.get? b = some o → h'.get? b = some o := fun b o e => by
      rw [sb.2 b (hw b o e).2]
      exact hh' b o e
    refine wpAny_pure ⟨plainId_quiet F.plain_set_update_loop _, ih (i + 1) _ (by omega) lt ?_ hh2 ⟨L', R'.setW1 l', hF.next l1 l2⟩ fun s2 L2 hm2 hD3 hF3 => ?_⟩
    · refine W.frame _ s' _ _ hst' (Nat.le_add_right _ _) fun b hb o e => ?_
      rw [sb.2 b fun q : b = D => hDf (by rw [← q]; exact hb)]
      exact e
    · refine hR s2 L2 (Moved.trans W.gtrans ((hm.mono sub).then_heap (Nat.le_add_right _ _) fun b o hb e => ?_) hm2) hD3 hF3
      rw [sb.2 b fun q : b = D => hb (by rw [q]; exact .head _)]
      exact e
/-- set(list of nested tuples) -/
theorem call_setX {l : Addr} {items : Array Value} (kf : Nat → NestedKey) (af : Nat → Addr) {Q : Value → Shared → Prop} (hh : A.handled = none) (hu : A.units + 40 < cLine) (hl : s.heap.IsList l items) (hit : ∀ i v, items[i]? = some v → v = Value.ref (af i)) (hb : (∃ F : List NestedKey, F.length < 299 ∧ ∀ i, i < items.size → kf i ∈ F))
    (hk : ∀ (h : Heap), (∀ b o, s.heap.get? b = some o → h.get? b = some o) → ∀ i, i < items.size → (NK P w).is h (kf i) (af i))
    (h : ∀ (h' : Heap) (tk : Nat) (L : Mems), SetW1 w h' s.heap.objs.size L → From kf af items.size L → (∀ b o, s.heap.get? b = some o → h'.get? b = some o) → Q (.ref s.heap.objs.size) { s with heap := h', toks := tk }) :
    wpAny (model P w) A (call (.type "set") [.ref l]) Q E s := by
  obtain ⟨c, tl, hmro⟩ := F.called_set.mro
  have hmade := F.called_set.made
  have hsub := F.called_set.sub
  refine wpAny_call (codeAny_of_tree ?_)
  show wpAny _ _ (callAny (.type "set") _) _ _ _
  refine wpAny_pure ⟨Code.quiet_builtin _ (by decide +kernel), codeAny_builtin F.entry_type_call ?_⟩
  rw [Around.under_plain (weight_type_call_type "set" [.ref l] []) rfl]
  have h1 := F.called_set.notType
  have h2 := F.called_set.canCreate
  have hct := F.typeCall_set_1 (.ref l)
  repeat (any_goals (first | assumption | wp_step))
  obtain ⟨nw, enw⟩ : ∃ o : Obj, o = freshSet w := ⟨_, rfl⟩
  refine codeAny_mono (code_set_led1 (.ref l) (E := E) (Q₁ := fun ob s1 => ob = .ref s.heap.objs.size ∧ s1 = { s with heap := s.heap.push nw }) ⟨rfl, by rw [enw]⟩) fun r s1 hr => ?_
  cases r with
  | error e => exact hr
  | ok fl =>
    cases fl with
    | ret ob =>
      obtain ⟨rfl, rfl⟩ := hr
      have hS : (s.heap.push nw).get? s.heap.objs.size = some nw := Heap.get?_push_size _ (by rw [enw]; rfl)
      have hT : Shared.TypeIs { s with heap := s.heap.push nw } (.ref s.heap.objs.size) "set" := ⟨_, hS, by rw [enw]⟩
      have hli := F.called_set.init.lookup
      have hbi := F.called_set.init.bind (.ref s.heap.objs.size)
      repeat (any_goals (first | assumption | wp_step))
      refine codeAny_mono (codeAny_call_builtin (R := wants (fun r s2 => r = .none ∧ ∃ h' tk L, s2 = { s with heap := h', toks := tk } ∧ SetW1 w h' s.heap.objs.size L ∧ From kf af items.size L ∧ (∀ b o, s.heap.get? b = some o → h'.get? b = some o)) E) F.called_set.init.plain F.entry_set_init (check_set_init_1 hT ?_)) fun r2 s2 hr2 => ?_
      · obtain ⟨ol, hol, hcl, nl, hdl⟩ := hl
        obtain ⟨ocls, odict, odata, oslots⟩ := ol
        simp only at hcl hdl
        subst hcl hdl
        have hol' := Heap.get?_push_of_some nw hol
        have hsls := F.sub_list_set
        have hslf := F.sub_list_frozenset
        have hne : (Value.type "list" == Value.type "dict") = false := by decide
        have hl1 : (s.heap.push nw).IsList l items := ⟨_, hol', rfl, nl, rfl⟩
        have enw2 : nw = { cls := .type "set", dict := none, data := .set #[] 0 (.fresh 0 0 (!w.params.followText "set-order")) } := enw
        clear enw
        subst enw2
        unfold Builtin.«set.__init__» noKeywords Builtin.Frozenset.updateFrom
        generalize hPI : pyIter = PI
        wp_walk
        subst hPI
        refine wpAny_pyIter_list hl1 ?_
        refine wpAny_bind (wpAny_runValue ?_)
        have lS : l < s.heap.objs.size := Heap.lt_size hol
        have hh3 : A.in1.in1.in1.handled = none := by simp [hh]
        have zsz : ∀ ob : Obj, (s.heap.push ob).objs.size = s.heap.objs.size + 1 := fun ob => Heap.size_push ..
        have neI : l ≠ (s.heap.push (freshSet w)).objs.size := by
          rw [zsz]
          exact Nat.ne_of_lt (Nat.lt_succ_of_lt lS)
        have out : s.heap.objs.size ∉ [(s.heap.push (freshSet w)).objs.size, l] := by
          rw [zsz]
          simp only [List.mem_cons, List.not_mem_nil, or_false, not_or]
          exact ⟨Nat.ne_of_lt (Nat.lt_succ_self _), (Nat.ne_of_lt lS).symm⟩
        refine updX ((Walks.list hh3 _ l neI items).toS) s.heap.objs.size out s.heap (fun b o e => ?hw) kf af hk hb ?ru hit (items.size - 0) 0 _ (by omega) (Nat.zero_le _) ⟨⟨_, Heap.get?_push_size _ rfl, rfl, rfl⟩, (hl1.push _)⟩ (fun b o e => Heap.get?_push_of_some _ (Heap.get?_push_of_some _ e)) ?hS0 ?hR
        case hw =>
          have b0 : b < s.heap.objs.size := Heap.lt_size e
          refine ⟨fun m => ?_, Nat.ne_of_lt b0⟩
          rw [zsz] at m
          simp only [List.mem_cons, List.not_mem_nil, or_false] at m
          exact Nat.ne_of_lt (Nat.lt_succ_of_lt b0) m
        case ru =>
          simp
          exact Nat.lt_of_le_of_lt (show A.units + 1 + 1 + 12 ≤ A.units + 40 by omega) hu
        case hS0 =>
          exact ⟨[], setW1_fresh (Heap.get?_push_of_some _ hS), Keys.zero, fun p hp => nomatch hp⟩
        case hR =>
          intro s' L hm hS' hF'
          obtain ⟨h', g2, d', tk', os'⟩ := s'
          obtain rfl : g2 = s.gens := hm.gens
          obtain rfl : d' = s.drawn := hm.drawn
          obtain rfl : os' = s.os := hm.os
          show wpAny _ _ _ _ _ _
          refine wpAny_pure ?_
          show wpAny _ _ (ret Value.none) _ _ _
          refine wpAny_pure ⟨rfl, h', tk', L, rfl, hS', hF', fun b o e => ?_⟩
          have b0 : b < s.heap.objs.size := Heap.lt_size e
          refine hm.heap b o ?_ (Heap.get?_push_of_some _ (Heap.get?_push_of_some _ e))
          rw [zsz]
          simp only [List.mem_cons, List.not_mem_nil, or_false, not_or]
          exact ⟨Nat.ne_of_lt b0, Nat.ne_of_lt (Nat.lt_succ_of_lt b0)⟩
      · cases r2 with
        | error e => exact hr2
        | ok fl2 =>
          cases fl2 with
          | ret r =>
            obtain ⟨rfl, h', tk, L, rfl, hS', hF', hk'⟩ := hr2
            repeat (any_goals (first | assumption | wp_step))
            exact h _ _ _ hS' hF' hk'
          | _ => exact hr2.elim
    | _ => exact hr.elim
/-- sorted(set of nested tuples) -/
theorem sortedX {L : Mems} {a : Addr} {Q : Value → Shared → Prop} (R : SetW1 w s.heap a L) (hh : A.handled = none) (hu : A.units + 32 < cLine) (dp : ∀ p ∈ L, (dOf p.1).depth ≤ 16) (al : ∀ M : Mems, M.Perm L → AllAlike (M.map fun p => dOf p.1) ∧ Sortable (M.map fun p => dOf p.1))
    (rd : ∀ (h : Heap), (∀ b o, s.heap.get? b = some o → h.get? b = some o) → ∀ p ∈ L, Reads h (.ref p.2) (dOf p.1) [])
    (hQ : ∀ (s' : Shared) (p : Addr) (c : Nat) (M : Mems), (∀ b o, s.heap.get? b = some o → s'.heap.get? b = some o) → s'.gens = s.gens → s'.os = s.os → s.heap.objs.size ≤ p →
      s'.heap.get? p = some (seqObj "list" (List.map (fun p => Value.ref p.2) (M.mergeSort (PySem.W.dataLe false fun p : NestedKey × Addr => dOf p.1))).toArray c) → List.Perm M L → Q (.ref p) s') : wpAny (model P w) A (call (.builtin "sorted") [.ref a]) Q E s := by
  obtain ⟨es, ep, t, ⟨o, ho, hex, hd⟩, hr, hT, nd, hf, hs, hl⟩ := R
  have len : es.size = L.length := by rw [← Array.length_toList, hr, row_len]
  have sz := hT.sz
  rw [hash_len] at sz
  refine Calls.call_function_entry kind_sorted plain_sorted entry_sorted (args_sorted1 _) ?_
  unfold Builtin.«sorted»
  refine wpAny_bind (m := checkCount "sorted" 1 1 _) (wpAny_pure (wpAny_bind (collect_set (A := A.in1) hh ⟨o, ho, hex.1, hd⟩ (by rw [len]; exact fits_of sz hT.dm (by omega)) (by unfold scanBound; omega) hT.ris hl fun s1 vs k1 hz g1 o1 p1 => ?_)))
  obtain ⟨M, pM, rfl⟩ := perm_pull (f := fun p : NestedKey × Addr => Value.ref p.2) p1 L (by rw [hr]; unfold rowN; rw [List.map_map]; rfl)
  have lM : M.length < 300 := by rw [pM.length_eq]; exact hs
  have small : (M.map fun p => Value.ref p.2).length ≤ sizeLine := by rw [List.length_map, sizeLine_eq]; omega
  refine wpAny_bind (wpAny_newList ?_ small)
  have hoL : (s1.heap.push (seqObj "list" (M.map fun p => Value.ref p.2).toArray 0)).get? s1.heap.objs.size = some (seqObj "list" (M.map fun p => Value.ref p.2).toArray 0) := Heap.get?_push_size _ rfl
  refine wpAny_bind (wpAny_holding (list_sort_data (enc := fun p : NestedKey × Addr => dOf p.1) (s := { s1 with heap := s1.heap.push (seqObj "list" (M.map fun p => Value.ref p.2).toArray 0) }) hoL (each_refs M) ?_ (al M pM).1 (al M pM).2 ?_ ?_ fun out l1 eo => ?_))
  · have hr2 : ∀ p ∈ M, Reads (s1.heap.push (seqObj "list" (M.map fun p => Value.ref p.2).toArray 0)) (.ref p.2) (dOf p.1) [] := fun p hp => rd _ (fun b u e => Heap.get?_push_of_some _ (k1 b u e)) p (pM.mem_iff.mp hp)
    clear hoL small lM pM p1 al
    generalize s1.heap.push _ = hX at hr2 ⊢
    induction M with
    | nil => exact .nil
    | cons p M ih => exact .cons ⟨[], hr2 p (.head _), fun z => nomatch z⟩ (ih fun q hq => hr2 q (.tail _ hq))
  · rw [sizeLine_eq]
    omega
  · intro b hb
    have := dp b (pM.mem_iff.mp hb)
    show A.in1.units + 1 + (dOf b.1).depth < cLine
    rw [Around.in1_units]
    omega
  · have e2 := each_back eo
    subst e2
    obtain ⟨c, hc⟩ := sortedHeap_at (vs := M.map fun p => Value.ref p.2) (out := (List.map (fun p => Value.ref p.2) (M.mergeSort (PySem.W.dataLe false fun p : NestedKey × Addr => dOf p.1))).toArray) hoL
    refine wpAny_pure ⟨_, rfl, hQ _ s1.heap.objs.size c _ (fun b u e => ?_) g1 o1 hz hc pM⟩
    have q := k1 b u e
    have lt := Heap.lt_size q
    show (sortedHeap (s1.heap.push (seqObj "list" (M.map fun p => Value.ref p.2).toArray 0)) s1.heap.objs.size (M.map fun p => Value.ref p.2) _).get? b = some u
    rw [sortedHeap_old (Nat.ne_of_lt lt) (by rw [Heap.size_push]; exact Nat.lt_succ_of_lt lt)]
    exact Heap.get?_push_of_some _ q
end
def SetXO (w : World) (a : Addr) (kf : Nat → NestedKey) (af : Nat → Addr) (n : Nat) : HO := .ext fun h => ∃ L, SetW1 w h a L ∧ From kf af n L
theorem setXO_ok {P : Program} {w : World} {H : Hp} {h : Heap} {a : Addr} {kf : Nat → NestedKey} {af : Nat → Addr} {n : Nat} {L : Mems} (R : SetW1 w h a L) (F : From kf af n L) : ObjOk P w H h a (SetXO w a kf af n) := by
  obtain ⟨es, ep, t, ⟨o, ho, r⟩, q⟩ := id R
  exact ⟨⟨L, R, F⟩, ⟨o, ho⟩, fun h1 h2 p k => let ⟨L, p, f⟩ := p; ⟨L, p.at k, f⟩⟩
section
variable {X : Cx}
/-- set(list of nested tuples) -/
def rSetX (K : PySem.W.Frag) (w : World) : List V → Hp → VK → Prop := fun xs H Q => ∃ (l : Addr) (n : Nat) (kf : Nat → NestedKey) (af : Nat → Addr), xs = [.ref l] ∧ SqL K H l ((List.range n).map fun i => V.ref (af i)) ∧ (∃ F : List NestedKey, F.length < 299 ∧ ∀ i, i < n → kf i ∈ F) ∧ (∀ i, i < n → KeyAt K H (kf i) (af i)) ∧
  ∀ p, H p = none → Q (.ref p) (upd H p (SetXO w p kf af n))
theorem cr_setX (hc : X.calm = true) (hu : X.A.units + 40 < cLine) : CallR X (.type "set") (rSetX X.K X.w) := by
  intro pins s σ H xs us Q I r h
  obtain ⟨l, n, kf, af, rfl, hs, hz, hk, q⟩ := h
  obtain ⟨u, rfl, ru⟩ := r.one
  cases (show u = Value.ref l from ru)
  obtain ⟨its, rv, pl, _⟩ := I.list hs
  have e : its = (List.range n).map fun i => Value.ref (af i) := by
    have e1 : ((List.range n).map fun i => V.ref (af i)) = ((List.range n).map af).map V.ref := by rw [List.map_map]; rfl
    rw [e1] at rv
    rw [vals_refsM rv, List.map_map]
    rfl
  have sz : its.toArray.size = n := by rw [List.size_toArray, e, List.length_map, List.length_range]
  refine call_setX kf af (I.ok.hd hc) hu pl.isList (fun i v h => ?_) (by rw [sz]; exact hz) (fun h kp i hi => ?_) fun h' tk L R Fr kp => ?_
  · have h2 : its[i]? = some v := by simpa using h
    rw [e, List.getElem?_map] at h2
    obtain ⟨j, hj, rfl⟩ := Option.map_eq_some_iff.mp h2
    rw [List.getElem?_range (by have := (List.getElem?_eq_some_iff.mp hj).1; rwa [List.length_range] at this)] at hj
    cases hj
    rfl
  · rw [sz] at hi
    obtain ⟨k1, k2⟩ := hk i hi
    have is : (NK X.prog X.w).is s.heap (kf i) (af i) := ⟨nk_is I k1 rfl, k2⟩
    exact ⟨NestedIs.at (fun b o _ _ e _ => kp b o e) _ _ is.1, is.2⟩
  · rw [sz] at Fr
    exact ⟨.ref s.heap.objs.size, _, I.laid (a := s.heap.objs.size) (t' := tk) kp (Nat.le_refl _) (setXO_ok R Fr), rfl, q _ (I.hok.fresh (Nat.le_refl _))⟩
/-- sorted(set of nested tuples): which -/
def rSortX (K : PySem.W.Frag) (w : World) : List V → Hp → VK → Prop := fun xs H Q => ∃ (a : Addr) (n : Nat) (kf : Nat → NestedKey) (af : Nat → Addr), xs = [.ref a] ∧ H a = some (SetXO w a kf af n) ∧ (∀ i, i < n → KeyAt K H (kf i) (af i) ∧ (dOf (kf i)).depth ≤ 16) ∧
  (∀ ds : List PyData, (∀ d ∈ ds, ∃ i, i < n ∧ d = dOf (kf i)) → AllAlike ds ∧ Sortable ds) ∧ ∀ (p : Addr) (M : Mems), H p = none → (∀ e ∈ M, ∃ i, i < n ∧ e = (kf i, af i)) → (∀ i, i < n → kf i ∈ M.map (·.1)) → (M.map (·.1)).Nodup → M.length < 300 →
    Q (.ref p) (upd H p (.lst ((M.mergeSort (PySem.W.dataLe false fun p : NestedKey × Addr => dOf p.1)).map fun e => V.ref e.2)))
theorem cr_sortX (hc : X.calm = true) (hu : X.A.units + 40 < cLine) : CallR X (.builtin "sorted") (rSortX X.K X.w) := by
  intro pins s σ H xs us Q I r h
  obtain ⟨a, n, kf, af, rfl, ha, hk, al, q⟩ := h
  obtain ⟨u, rfl, ru⟩ := r.one
  cases (show u = Value.ref a from ru)
  obtain ⟨L, R, Fr⟩ : ∃ L, SetW1 X.w s.heap a L ∧ From kf af n L := (I.hok a _ ha).1
  have of : ∀ p ∈ L, ∃ i, i < n ∧ p = (kf i, af i) := Fr.2
  have sm : L.length < 300 := by obtain ⟨_, _, _, _, _, _, _, _, h, _⟩ := R; exact h
  refine sortedX (P := X.prog) R (I.ok.hd hc) (by omega) (fun p hp => ?_) (fun M hM => al _ fun d hd => ?_) (fun h kp p hp => ?_) fun s' p c M k g o hp hg pM => ?_
  · obtain ⟨i, hi, rfl⟩ := of p hp
    exact (hk i hi).2
  · obtain ⟨p, hp, rfl⟩ := List.mem_map.mp hd
    obtain ⟨i, hi, rfl⟩ := of p (hM.mem_iff.mp hp)
    exact ⟨i, hi, rfl⟩
  · obtain ⟨i, hi, rfl⟩ := of p hp
    exact Reads.keeps (fun b o e => kp b o e) (nk_reads I (hk i hi).1.1 rfl)
  · have hn : H p = none := I.hok.fresh hp
    have lM := pM.length_eq
    have pS := List.mergeSort_perm M (PySem.W.dataLe false fun p : NestedKey × Addr => dOf p.1)
    have lS := pS.length_eq
    have fin := q p M hn (fun e he => of e (pM.mem_iff.mp he)) (fun i hi => (pM.map (·.1)).mem_iff.mpr (Fr.1.all i hi)) ((pM.map (·.1)).nodup_iff.mpr Fr.1.once) (by omega)
    generalize M.mergeSort (PySem.W.dataLe false fun p : NestedKey × Addr => dOf p.1) = S at hg pS lS fin
    have small : ((S.map (·.2)).map V.ref).length ≤ sizeLine := by
      rw [List.length_map, List.length_map, sizeLine_eq]
      omega
    have rv : Vals ((S.map (·.2)).map V.ref) (S.map fun p => Value.ref p.2) := by
      have := refs_valsM (S.map (·.2))
      rw [List.map_map (g := Value.ref)] at this
      exact this
    have J : L2.Inv X pins σ (upd H p (.lst ((S.map (·.2)).map V.ref))) { s with heap := s'.heap, gens := s'.gens, drawn := s'.drawn, toks := s'.toks } :=
      I.call (ch := []) (Un.laid k hp hn) (I.hok.laid k hp ⟨small, _, c, rv, hg⟩) (by rw [g]; exact I.bare) (fun _ z => nomatch z)
    have e : s' = { s with heap := s'.heap, gens := s'.gens, drawn := s'.drawn, toks := s'.toks } := by
      obtain ⟨h', g', d', t', o'⟩ := s'
      obtain rfl : o' = s.os := o
      rfl
    rw [e]
    rw [List.map_map] at J
    exact ⟨.ref p, _, J, rfl, fin⟩
end
end Lv

/-! a dict with nested keys == {} -/
namespace Lv
open PySem PySem.Spec PyProof.Rows L2 PySem.SeqAt
theorem dict_eq_nil (l b : Addr) (es : Array DictEntry) (ep ep2 : Nat) (hl : (l == sysModules) = false) (hb : (b == sysModules) = false) :
    Meets (Builtin.«dict.__eq__» ⟨[.ref l, .ref b], []⟩) (fun _ R s => (∃ o, s.heap.get? l = some o ∧ o.ExactDict ∧ o.data = .dict es ep) ∧ (∃ o, s.heap.get? b = some o ∧ o.ExactDict ∧ o.data = .dict #[] ep2) ∧ R (.ok (.ret (.bool (decide (es.size = 0))))) s) := by
  refine .of_wp fun prog w A R s h => ?_
  obtain ⟨hp, g, d, tk, os⟩ := s
  obtain ⟨⟨o, h1, x1, d1⟩, ⟨o2, h2, x2, d2⟩, h⟩ := h
  obtain ⟨c1, dd1, da1, sl1⟩ := o
  obtain ⟨c2, dd2, da2, sl2⟩ := o2
  obtain ⟨rfl, rfl, rfl⟩ : c1 = .type "dict" ∧ dd1 = none ∧ sl1 = #[] := x1
  obtain ⟨rfl, rfl, rfl⟩ : c2 = .type "dict" ∧ dd2 = none ∧ sl2 = #[] := x2
  simp only at d1 d2
  subst d1 d2
  have f1 := F.sub_dict_dict
  wp_walk using wpAny_loadPart' h1, wpAny_loadPart' h2
  by_cases z : es.size = 0
  · cases (Array.eq_empty_of_size_eq_zero z)
    refine wp_if_neg (by simp) ?_
    refine wpAny_bind (wpAny_dictEpoch h1 rfl ?_)
    rw [Std.Legacy.Range.forIn_eq_forIn_range']
    simp only [Std.Legacy.Range.size, List.size_toArray, List.length_nil, Nat.sub_zero, Nat.zero_add, Nat.sub_self, Nat.div_one, List.range'_zero, List.forIn_nil]
    refine wpAny_bind (wpAny_pure (wpAny_pure (wpAny_pure ⟨_, rfl, h⟩)))
  · refine wp_if_pos (by simpa using z) ?_
    rw [decide_eq_false z] at h
    wp_walk
    exact ⟨_, rfl, h⟩
section
variable {X : Cx}
/-- x == {}, x a dict with nested keys -/
def rEqDE (P : Program) (w : World) : R2 := fun x y H Q => ∃ (a b : Addr) (L : Ents), x = .ref a ∧ y = .ref b ∧ H a = some (DicNO P w a L) ∧ H b = some (DicNO P w b []) ∧ Q (.bl L.isEmpty) H
theorem op_eqDE (hu : X.A.units + 64 < cLine) : OpR X (compareOp .Eq) (rEqDE X.prog X.w) := by
  intro pins s σ H x y v u Q I rx ry h
  obtain ⟨a, b, L, rfl, rfl, ha, hb, q⟩ := h
  cases (show v = Value.ref a from rx)
  cases (show u = Value.ref b from ry)
  obtain ⟨_, la, xs, r, o, es, ep, ho, hx, hd, he, _⟩ := dic_rd I.hok (.inl ha)
  obtain ⟨_, lb, ys, r2, o2, es2, ep2, ho2, hx2, hd2, he2, _⟩ := dic_rd I.hok (.inl hb)
  cases r2
  have e2 : es2 = #[] := Array.toList_eq_nil_iff.mp he2
  subst e2
  have sz : decide (es.size = 0) = L.isEmpty := by
    rw [← Array.length_toList, he, List.length_map, ← r.length]
    cases L <;> simp
  show wpAny _ _ (richCompare .Eq (.ref a) (.ref b)) _ _ _
  refine richCompare_meets_room (T := "dict") ⟨o, ho, hx.1⟩ ⟨o2, ho2, hx2.1⟩ F.slot_dict_eq F.entry_dict_eq (F.args_dict_eq_2 _ _) (dict_eq_nil a b es ep ep2 la lb) ⟨⟨o, ho, hx, hd⟩, ⟨o2, ho2, hx2, hd2⟩, ?_⟩ (by omega)
  rw [sz]
  exact ⟨(fun e => nomatch e), V.bl _, H, I, rfl, q⟩
end
end Lv

/-! an own binary operator with any other value; data in a tuple; an instance in a tuple of texts -/
namespace Lv
open PySem PySem.Spec PyProof.Rows L2 PySem.SeqAt
open AutoSeq1 (wpAny_loadPart')
open MeetsSeq MeetsSeq2 MeetsSeq3 SeqRoads2
section
open PySem.W
variable {prog : Program} {w : World} {A : Around} {E : Value → Shared → Prop} {s : Shared} {K : Frag} {x C f : Addr} {ox : Obj} {od : Option Obj} {T : String}
end
section
variable {prog : Program} {w : World}
end
section
variable {X : Cx} {CX : CXT} {n : Nat} {C g : Addr} {sp : Sp} {E : XK}
/-- x op y, x of the class at C, y of a built-in type -/
def rBinT (K : PySem.W.Frag) (Ts : List String) (C : Addr) (sp : Sp) (E : XK) : R2 := fun x y H Q => ∃ a dx fs T, x = .ref a ∧ H a = some (.ins C dx fs) ∧ TyX K H y (.type T) ∧ T ∈ Ts ∧ sp [x, y] H Q E
theorem u65 {k : Nat} {A : Around} (r : Room k A) : A.units + 65 < cLine := by have := r.un; omega
/-- x in y, y a tuple of data -/
def rInT (K : PySem.W.Frag) : R2 := fun x y H Q => ∃ d ds, Dp K H x d ∧ Dp K H y (.tuple ds) ∧ SeqAt.shaped d = true ∧ SeqAt.shaped (.tuple ds) = true ∧ Q (.bl (ds.any fun z => PyData.eqv z d)) H
/-- x in t, x of the class at C and equal to no text, t a tuple of texts -/
def rInB (K : PySem.W.Frag) (C : Addr) (sp : Sp) : R2 := fun x y H Q => ∃ (p : Addr) (ws : List Str) (a : Addr) (dx : Addr) (fs : List (Str × V)), x = .ref a ∧ y = .ref p ∧ H a = some (.ins C dx fs) ∧ H p = some (.tup (ws.map V.str)) ∧
  (∀ z, sp [.ref a, .str z] H (fun z H' => z = .bl false ∧ H' = H) E0) ∧ Q (.bl false) H
end
end Lv

/-! x not in t, t a tuple of data -/
namespace Lv
open PySem PySem.Spec PyProof.Rows L2
section
variable {X : Cx}
def rNotInT (K : PySem.W.Frag) : R2 := fun x y H Q => ∃ d ds, Dp K H x d ∧ Dp K H y (.tuple ds) ∧ SeqAt.shaped d = true ∧ SeqAt.shaped (.tuple ds) = true ∧ Q (.bl (!ds.any fun z => PyData.eqv z d)) H
theorem op_notInT (hu : X.A.units + 65 < cLine) : OpR X (compareOp .NotIn) (rNotInT X.K) := by
  intro pins s σ H x y v u Q I rx ry h
  obtain ⟨d, ds, hd, he, sd, se, q⟩ := h
  obtain ⟨as, r1⟩ := Dp.reads I d x v hd rx
  obtain ⟨bs, r2⟩ := Dp.reads I (.tuple ds) y u he ry
  exact SeqAt.notIn_tuple_reads r2 r1 (SeqAt.canLay_of_shaped se) (SeqAt.canLay_of_shaped sd) (room_in_shaped sd hu) ⟨V.bl _, H, I, rfl, q⟩
end
end Lv

/-! a call with keywords of a def that leans on the guards, inside a try -/
namespace Lv
open PySem PySem.Spec PyProof.Rows L2
def tCallNS (n m : Nat) (sp : Sp) (gV : List V → List V → List V) (E : L2.St → XK) (t tk : TA) : TE := fun σ H Q => t σ H fun vs H1 => tk σ H1 fun zs H2 => vs.length = n ∧ zs.length = m ∧ sp (gV vs zs) H2 Q (E σ)
section
variable {X : Cx} {CX : CXT} {k n : Nat} {f : Addr} {fd : FuncData} {ps ks : List Str} {sp : Sp} {E : L2.St → XK} {x : Str} {p pos : Pos} {e : Expr} {es : List Expr} {kws : List Keyword} {t tk : TA} {g : List Value → List Value → List Value} {gV : List V → List V → List V}
end
end Lv

/-! a def with defaults, all its values handed in -/
namespace Lv
open PySem PySem.Spec PyProof.Rows L2
theorem binds_dflt {K : PySem.W.Frag} {x qual : Str} {params : Arguments} {body : List Stmt} {scope : Scope} {dvs : List V} {f : Addr} {fd : FuncData} {ps : List Str} (F : FunD K x qual params body scope dvs [] f fd) (hd : dvs ≠ [])
    (h : ∀ (D : Addr) (kV doc pm : Value) (an : Option Addr) (cv ct : Value) (us its : List Value), us.length = ps.length → its.length = dvs.length →
      ∃ k, bindArgs (PySem.W.fnOf x qual params body scope (.ref D) kV doc pm an cv ct) ⟨us, []⟩ = seqItems? (.ref D) >>= k ∧ k (some its.toArray) = pure (ps.zip us)) : Binds K fd ps [] := by
  obtain ⟨ds, v, b⟩ := F.binds1 (ps := ps) ps.length dvs.length hd (by omega) fun D kV doc pm an cv ct us its l1 l2 => by
    obtain ⟨k, e1, e2⟩ := h D kV doc pm an cv ct us its l1 l2
    refine ⟨k, e1, ?_⟩
    rw [← l2, List.drop_length, List.append_nil]
    exact e2
  rw [List.drop_length] at v
  cases v
  exact b
end Lv

namespace K12
open PySem PySem.Spec PyProof.Rows L2 Lv
def P : Program := PySem.Challenge.pw_laterivals_k12_whole_chains_joined
def topS (i : Nat) : Stmt := PySem.Challenge.pw_laterivals_k12_whole_chains_joined.main.body.getD i (.Pass ⟨0, 0, 0, 0⟩)
def clsS (i j : Nat) : Stmt := match topS i with
  | .ClassDef _ _ _ b _ _ _ _ _ _ _ => b.getD j (.Pass ⟨0, 0, 0, 0⟩)
  | s => s
abbrev s_is_integer : Stmt := topS 13
abbrev s_is_integer_within : Stmt := topS 14
abbrev s_is_name : Stmt := topS 15
abbrev s_is_names : Stmt := topS 16
abbrev s_is_ascending : Stmt := topS 17
abbrev s_begins_in : Stmt := topS 18
abbrev s_is_conversion : Stmt := topS 28
abbrev s_is_pattern : Stmt := topS 29
abbrev s_is_result : Stmt := topS 30
abbrev s_are_patterns : Stmt := topS 33
abbrev s_names_in_candidate : Stmt := topS 35
abbrev s_names_in_conversion : Stmt := topS 36
abbrev s_names_in : Stmt := topS 37
abbrev s_are_items : Stmt := topS 38
abbrev s_is_library_of : Stmt := topS 39
abbrev s_require_library : Stmt := topS 40
abbrev s_is_over : Stmt := topS 42
abbrev s_require_type : Stmt := topS 43
abbrev s_step_in : Stmt := topS 51
abbrev s_usable : Stmt := topS 52
abbrev s_steps : Stmt := topS 53
abbrev s_step_rank : Stmt := topS 54
abbrev s_ranks_along : Stmt := topS 55
abbrev s_are_linked : Stmt := topS 56
abbrev s_is_chain : Stmt := topS 57
abbrev s_chain_rank : Stmt := topS 58
abbrev s_found_within : Stmt := topS 59
abbrev s_law_feed : Stmt := topS 61
abbrev s_law_draw : Stmt := topS 62
abbrev s_law_pick : Stmt := topS 63
abbrev s_law_mixed : Stmt := topS 64
abbrev s_law_words : Stmt := topS 65
abbrev s_law_front : Stmt := topS 66
abbrev s_law_names : Stmt := topS 67
abbrev s_law_conversion : Stmt := topS 68
abbrev s_law_drawn_rows : Stmt := topS 69
abbrev s_law_plain : Stmt := topS 70
abbrev s_law_library : Stmt := topS 71
abbrev s_law_after : Stmt := topS 72
abbrev s_law_within : Stmt := topS 73
abbrev s_law_long_row : Stmt := topS 74
abbrev s_law_parts_right : Stmt := topS 75
abbrev s_law_reached_right : Stmt := topS 76
abbrev s_law : Stmt := topS 77
abbrev s_Candidate___init__ : Stmt := clsS 34 0
abbrev s_Library___init__ : Stmt := clsS 47 0
abbrev s_Library_conversions : Stmt := clsS 47 4
theorem sc_is_integer : FnScope ["value"] ["value"] (defScope s_is_integer) :=
  ⟨rfl, rfl, rfl, by decide +kernel, rfl, by decide +kernel, by decide +kernel⟩
theorem sc_is_integer_within : FnScope ["value", "least", "most"] ["value", "least", "most"] (defScope s_is_integer_within) :=
  ⟨rfl, rfl, rfl, by decide +kernel, rfl, by decide +kernel, by decide +kernel⟩
theorem sc_is_name : FnScope ["value", "sign"] ["value"] (defScope s_is_name) :=
  ⟨rfl, rfl, rfl, by decide +kernel, rfl, by decide +kernel, by decide +kernel⟩
theorem sc_is_names : FnScope ["value", "least", "most", "name"] ["value", "least", "most"] (defScope s_is_names) :=
  ⟨rfl, rfl, rfl, by decide +kernel, rfl, by decide +kernel, by decide +kernel⟩
theorem sc_is_ascending : FnScope ["values", "one", "other"] ["values"] (defScope s_is_ascending) :=
  ⟨rfl, rfl, rfl, by decide +kernel, rfl, by decide +kernel, by decide +kernel⟩
theorem sc_begins_in : FnScope ["names", "front"] ["names", "front"] (defScope s_begins_in) :=
  ⟨rfl, rfl, rfl, by decide +kernel, rfl, by decide +kernel, by decide +kernel⟩
theorem sc_is_conversion : FnScope ["value", "kind", "left", "right"] ["value"] (defScope s_is_conversion) :=
  ⟨rfl, rfl, rfl, by decide +kernel, rfl, by decide +kernel, by decide +kernel⟩
theorem sc_names_in_candidate : FnScope ["candidate", "sides", "kind", "names"] ["candidate"] (defScope s_names_in_candidate) :=
  ⟨rfl, rfl, rfl, by decide +kernel, rfl, by decide +kernel, by decide +kernel⟩
theorem sc_names_in_conversion : FnScope ["conversion", "kind", "left", "right", "rank", "fronts"] ["conversion"] (defScope s_names_in_conversion) :=
  ⟨rfl, rfl, rfl, by decide +kernel, rfl, by decide +kernel, by decide +kernel⟩
theorem sc_names_in : FnScope ["item", "fronts", "types", "marks", "front", "mark", "names"] ["item"] (defScope s_names_in) :=
  ⟨rfl, rfl, rfl, by decide +kernel, rfl, by decide +kernel, by decide +kernel⟩
theorem sc_are_items : FnScope ["conversions", "candidates", "one"] ["conversions", "candidates"] (defScope s_are_items) :=
  ⟨rfl, rfl, rfl, by decide +kernel, rfl, by decide +kernel, by decide +kernel⟩
theorem sc_is_library_of : FnScope ["marks", "bases", "conversions", "candidates", "item", "own_marks", "own_bases", "name", "mark", "base"] ["marks", "bases", "conversions", "candidates"] (defScope s_is_library_of) :=
  ⟨rfl, rfl, rfl, by decide +kernel, rfl, by decide +kernel, by decide +kernel⟩
theorem sc_require_library : FnScope ["value"] ["value"] (defScope s_require_library) :=
  ⟨rfl, rfl, rfl, by decide +kernel, rfl, by decide +kernel, by decide +kernel⟩
theorem sc_is_over : FnScope ["library", "value", "most", "name"] ["library", "value", "most"] (defScope s_is_over) :=
  ⟨rfl, rfl, rfl, by decide +kernel, rfl, by decide +kernel, by decide +kernel⟩
theorem sc_require_type : FnScope ["library", "names"] ["library", "names"] (defScope s_require_type) :=
  ⟨rfl, rfl, rfl, by decide +kernel, rfl, by decide +kernel, by decide +kernel⟩
theorem sc_step_in : FnScope ["conversion", "given", "form", "left", "right", "least"] ["conversion", "given"] (defScope s_step_in) :=
  ⟨rfl, rfl, rfl, by decide +kernel, rfl, by decide +kernel, by decide +kernel⟩
theorem sc_usable : FnScope ["library", "most", "conversion"] ["library", "most"] (defScope s_usable) :=
  ⟨rfl, rfl, rfl, by decide +kernel, rfl, by decide +kernel, by decide +kernel⟩
theorem sc_steps : GScope ["library", "given", "index", "conversion", "after"] ["library", "given"] (defScope s_steps) :=
  ⟨rfl, rfl, rfl, by decide +kernel, rfl, by decide +kernel, by decide +kernel⟩
theorem sc_step_rank : FnScope ["library", "one", "other", "ranks", "conversion"] ["library", "one", "other"] (defScope s_step_rank) :=
  ⟨rfl, rfl, rfl, by decide +kernel, rfl, by decide +kernel, by decide +kernel⟩
theorem sc_ranks_along : FnScope ["library", "types", "one", "other"] ["library", "types"] (defScope s_ranks_along) :=
  ⟨rfl, rfl, rfl, by decide +kernel, rfl, by decide +kernel, by decide +kernel⟩
theorem sc_are_linked : FnScope ["library", "value", "part"] ["library", "value"] (defScope s_are_linked) :=
  ⟨rfl, rfl, rfl, by decide +kernel, rfl, by decide +kernel, by decide +kernel⟩
theorem sc_is_chain : FnScope ["library", "value"] ["library", "value"] (defScope s_is_chain) :=
  ⟨rfl, rfl, rfl, by decide +kernel, rfl, by decide +kernel, by decide +kernel⟩
theorem sc_chain_rank : FnScope ["library", "chain"] ["library", "chain"] (defScope s_chain_rank) :=
  ⟨rfl, rfl, rfl, by decide +kernel, rfl, by decide +kernel, by decide +kernel⟩
theorem sc_found_within : FnScope ["library", "given", "many", "most", "conversions", "found", "layer", "turn", "later", "one", "after", "conversion"] ["library", "given", "many", "most"] (defScope s_found_within) :=
  ⟨rfl, rfl, rfl, by decide +kernel, rfl, by decide +kernel, by decide +kernel⟩
theorem sc_law_feed : FnScope ["_law_script", "_law_at", "_law_cell", "_law_great", "_law_mixed_here"] ["_law_script", "_law_at"] (defScope s_law_feed) :=
  ⟨rfl, rfl, rfl, by decide +kernel, rfl, by decide +kernel, by decide +kernel⟩
theorem sc_law_draw : FnScope ["_law_feed_here", "_law_count", "_law_found", "_law_one", "_law_two"] ["_law_feed_here", "_law_count"] (defScope s_law_draw) :=
  ⟨rfl, rfl, rfl, by decide +kernel, rfl, by decide +kernel, by decide +kernel⟩
theorem sc_law_pick : FnScope ["_law_feed_here", "_law_items"] ["_law_feed_here", "_law_items"] (defScope s_law_pick) :=
  ⟨rfl, rfl, rfl, by decide +kernel, rfl, by decide +kernel, by decide +kernel⟩
theorem sc_law_mixed : FnScope ["_law_feed_here", "_law_items", "_law_left", "_law_found"] ["_law_feed_here", "_law_items"] (defScope s_law_mixed) :=
  ⟨rfl, rfl, rfl, by decide +kernel, rfl, by decide +kernel, by decide +kernel⟩
theorem sc_law_words : FnScope ["_law_feed_here", "_law_many", "_law_found", "_law_letter", "_law_size", "_law_word", "_law_turn"] ["_law_feed_here", "_law_many"] (defScope s_law_words) :=
  ⟨rfl, rfl, rfl, by decide +kernel, rfl, by decide +kernel, by decide +kernel⟩
theorem sc_law_front : FnScope ["_law_feed_here", "_law_plain_here", "_law_size", "_law_count", "_law_turn"] ["_law_feed_here", "_law_plain_here", "_law_size"] (defScope s_law_front) :=
  ⟨rfl, rfl, rfl, by decide +kernel, rfl, by decide +kernel, by decide +kernel⟩
theorem sc_law_names : FnScope ["_law_feed_here", "_law_plain_here", "_law_size"] ["_law_feed_here", "_law_plain_here", "_law_size"] (defScope s_law_names) :=
  ⟨rfl, rfl, rfl, by decide +kernel, rfl, by decide +kernel, by decide +kernel⟩
theorem sc_law_conversion : FnScope ["_law_feed_here", "_law_plain_here", "_law_longer", "_law_way", "_law_level", "_law_left", "_law_right"] ["_law_feed_here", "_law_plain_here", "_law_longer"] (defScope s_law_conversion) :=
  ⟨rfl, rfl, rfl, by decide +kernel, rfl, by decide +kernel, by decide +kernel⟩
theorem sc_law_drawn_rows : FnScope ["_law_feed_here", "_law_plain_here", "_law_many", "_law_longer", "_law_found", "_law_turn", "_law_one"] ["_law_feed_here", "_law_plain_here", "_law_many", "_law_longer"] (defScope s_law_drawn_rows) :=
  ⟨rfl, rfl, rfl, by decide +kernel, rfl, by decide +kernel, by decide +kernel⟩
theorem sc_law_plain : FnScope ["_law_feed_here", "_law_many", "_law_longer", "_law_size", "_law_other", "_law_words_here", "_law_plain_here"] ["_law_feed_here", "_law_many", "_law_longer"] (defScope s_law_plain) :=
  ⟨rfl, rfl, rfl, by decide +kernel, rfl, by decide +kernel, by decide +kernel⟩
theorem sc_law_library : FnScope ["_law_plain_here"] ["_law_plain_here"] (defScope s_law_library) :=
  ⟨rfl, rfl, rfl, by decide +kernel, rfl, by decide +kernel, by decide +kernel⟩
theorem sc_law_after : FnScope ["_law_conversion_here", "_law_names_here", "_law_way", "_law_left", "_law_right", "_law_level", "_law_later"] ["_law_conversion_here", "_law_names_here"] (defScope s_law_after) :=
  ⟨rfl, rfl, rfl, by decide +kernel, rfl, by decide +kernel, by decide +kernel⟩
theorem sc_law_within : FnScope ["_law_plain_here", "_law_start", "_law_many", "_law_top", "_law_limit", "_law_found", "_law_layer", "_law_turn", "_law_later", "_law_names_here", "_law_conversion_here", "_law_after_here"] ["_law_plain_here", "_law_start", "_law_many", "_law_top", "_law_limit"] (defScope s_law_within) :=
  ⟨rfl, rfl, rfl, by decide +kernel, rfl, by decide +kernel, by decide +kernel⟩
theorem sc_law_long_row : FnScope ["_law_script", "_law_plain_here", "_law_start", "_law_row", "_law_at", "_law_some", "_law_one", "_law_names_here"] ["_law_script", "_law_plain_here", "_law_start"] (defScope s_law_long_row) :=
  ⟨rfl, rfl, rfl, by decide +kernel, rfl, by decide +kernel, by decide +kernel⟩
theorem sc_law_parts_right : FnScope ["_law_library_here", "_law_row", "_law_whole", "_law_at"] ["_law_library_here", "_law_row"] (defScope s_law_parts_right) :=
  ⟨rfl, rfl, rfl, by decide +kernel, rfl, by decide +kernel, by decide +kernel⟩
theorem sc_law_reached_right : FnScope ["_law_feed_here", "_law_plain_here", "_law_library_here", "_law_start", "_law_many", "_law_other", "_law_top", "_law_found", "_law_names_here", "_law_near", "_law_pair"] ["_law_feed_here", "_law_plain_here", "_law_library_here", "_law_start"] (defScope s_law_reached_right) :=
  ⟨rfl, rfl, rfl, by decide +kernel, rfl, by decide +kernel, by decide +kernel⟩
theorem sc_law : FnScope ["_law_script", "_law_feed_here", "_law_plain_here", "_law_library_here", "_law_start", "_law_row"] ["_law_script"] (defScope s_law) :=
  ⟨rfl, rfl, rfl, by decide +kernel, rfl, by decide +kernel, by decide +kernel⟩
theorem sc_Library___init__ : FnScope ["self", "marks", "bases", "conversions", "candidates"] ["self", "marks", "bases", "conversions", "candidates"] (defScope s_Library___init__) :=
  ⟨rfl, rfl, rfl, by decide +kernel, rfl, by decide +kernel, by decide +kernel⟩
/-- where the text's defs and constants stand; which names are still built-in -/
structure Tx (K : PySem.W.Frag) (mg : Str → Option Value) where
  f_is_integer : Addr
  d_is_integer : FuncData
  F_is_integer : Fun K "is_integer" "is_integer" s_is_integer f_is_integer d_is_integer
  b_is_integer : Binds K d_is_integer ["value"] []
  g_is_integer : mg "is_integer" = some (.ref f_is_integer)
  f_is_integer_within : Addr
  d_is_integer_within : FuncData
  F_is_integer_within : Fun K "is_integer_within" "is_integer_within" s_is_integer_within f_is_integer_within d_is_integer_within
  b_is_integer_within : Binds K d_is_integer_within ["value", "least", "most"] []
  g_is_integer_within : mg "is_integer_within" = some (.ref f_is_integer_within)
  f_is_name : Addr
  d_is_name : FuncData
  F_is_name : Fun K "is_name" "is_name" s_is_name f_is_name d_is_name
  b_is_name : Binds K d_is_name ["value"] []
  g_is_name : mg "is_name" = some (.ref f_is_name)
  f_is_names : Addr
  d_is_names : FuncData
  F_is_names : Fun K "is_names" "is_names" s_is_names f_is_names d_is_names
  b_is_names : Binds K d_is_names ["value", "least", "most"] []
  g_is_names : mg "is_names" = some (.ref f_is_names)
  f_is_ascending : Addr
  d_is_ascending : FuncData
  F_is_ascending : Fun K "is_ascending" "is_ascending" s_is_ascending f_is_ascending d_is_ascending
  b_is_ascending : Binds K d_is_ascending ["values"] []
  g_is_ascending : mg "is_ascending" = some (.ref f_is_ascending)
  f_begins_in : Addr
  d_begins_in : FuncData
  F_begins_in : Fun K "begins_in" "begins_in" s_begins_in f_begins_in d_begins_in
  b_begins_in : Binds K d_begins_in ["names", "front"] []
  g_begins_in : mg "begins_in" = some (.ref f_begins_in)
  f_is_conversion : Addr
  d_is_conversion : FuncData
  F_is_conversion : Fun K "is_conversion" "is_conversion" s_is_conversion f_is_conversion d_is_conversion
  b_is_conversion : Binds K d_is_conversion ["value"] []
  g_is_conversion : mg "is_conversion" = some (.ref f_is_conversion)
  f_is_pattern : Addr
  d_is_pattern : FuncData
  F_is_pattern : Fun K "is_pattern" "is_pattern" s_is_pattern f_is_pattern d_is_pattern
  b_is_pattern : Binds K d_is_pattern ["value"] []
  g_is_pattern : mg "is_pattern" = some (.ref f_is_pattern)
  f_is_result : Addr
  d_is_result : FuncData
  F_is_result : Fun K "is_result" "is_result" s_is_result f_is_result d_is_result
  b_is_result : Binds K d_is_result ["value", "patterns"] []
  g_is_result : mg "is_result" = some (.ref f_is_result)
  f_are_patterns : Addr
  d_are_patterns : FuncData
  F_are_patterns : Fun K "are_patterns" "are_patterns" s_are_patterns f_are_patterns d_are_patterns
  b_are_patterns : Binds K d_are_patterns ["value"] []
  g_are_patterns : mg "are_patterns" = some (.ref f_are_patterns)
  f_names_in_candidate : Addr
  d_names_in_candidate : FuncData
  F_names_in_candidate : Fun K "names_in_candidate" "names_in_candidate" s_names_in_candidate f_names_in_candidate d_names_in_candidate
  b_names_in_candidate : Binds K d_names_in_candidate ["candidate"] []
  g_names_in_candidate : mg "names_in_candidate" = some (.ref f_names_in_candidate)
  f_names_in_conversion : Addr
  d_names_in_conversion : FuncData
  F_names_in_conversion : Fun K "names_in_conversion" "names_in_conversion" s_names_in_conversion f_names_in_conversion d_names_in_conversion
  b_names_in_conversion : Binds K d_names_in_conversion ["conversion"] []
  g_names_in_conversion : mg "names_in_conversion" = some (.ref f_names_in_conversion)
  f_names_in : Addr
  d_names_in : FuncData
  F_names_in : Fun K "names_in" "names_in" s_names_in f_names_in d_names_in
  b_names_in : Binds K d_names_in ["item"] []
  g_names_in : mg "names_in" = some (.ref f_names_in)
  f_are_items : Addr
  d_are_items : FuncData
  F_are_items : Fun K "are_items" "are_items" s_are_items f_are_items d_are_items
  b_are_items : Binds K d_are_items ["conversions", "candidates"] []
  g_are_items : mg "are_items" = some (.ref f_are_items)
  f_is_library_of : Addr
  d_is_library_of : FuncData
  F_is_library_of : Fun K "is_library_of" "is_library_of" s_is_library_of f_is_library_of d_is_library_of
  b_is_library_of : Binds K d_is_library_of ["marks", "bases", "conversions", "candidates"] []
  g_is_library_of : mg "is_library_of" = some (.ref f_is_library_of)
  f_require_library : Addr
  d_require_library : FuncData
  F_require_library : Fun K "require_library" "require_library" s_require_library f_require_library d_require_library
  b_require_library : Binds K d_require_library ["value"] []
  g_require_library : mg "require_library" = some (.ref f_require_library)
  f_is_over : Addr
  d_is_over : FuncData
  F_is_over : FunD K "is_over" "is_over" (defArgs s_is_over) (defBody s_is_over) (defScope s_is_over) [.non] [] f_is_over d_is_over
  b_is_over : Binds K d_is_over ["library", "value", "most"] []
  g_is_over : mg "is_over" = some (.ref f_is_over)
  f_require_type : Addr
  d_require_type : FuncData
  F_require_type : Fun K "require_type" "require_type" s_require_type f_require_type d_require_type
  b_require_type : Binds K d_require_type ["library", "names"] []
  g_require_type : mg "require_type" = some (.ref f_require_type)
  f_step_in : Addr
  d_step_in : FuncData
  F_step_in : Fun K "step_in" "step_in" s_step_in f_step_in d_step_in
  b_step_in : Binds K d_step_in ["conversion", "given"] []
  g_step_in : mg "step_in" = some (.ref f_step_in)
  f_usable : Addr
  d_usable : FuncData
  F_usable : Fun K "usable" "usable" s_usable f_usable d_usable
  b_usable : Binds K d_usable ["library", "most"] []
  g_usable : mg "usable" = some (.ref f_usable)
  f_steps : Addr
  d_steps : FuncData
  F_steps : Fun K "steps" "steps" s_steps f_steps d_steps
  b_steps : Binds K d_steps ["library", "given"] []
  g_steps : mg "steps" = some (.ref f_steps)
  f_step_rank : Addr
  d_step_rank : FuncData
  F_step_rank : Fun K "step_rank" "step_rank" s_step_rank f_step_rank d_step_rank
  b_step_rank : Binds K d_step_rank ["library", "one", "other"] []
  g_step_rank : mg "step_rank" = some (.ref f_step_rank)
  f_ranks_along : Addr
  d_ranks_along : FuncData
  F_ranks_along : Fun K "ranks_along" "ranks_along" s_ranks_along f_ranks_along d_ranks_along
  b_ranks_along : Binds K d_ranks_along ["library", "types"] []
  g_ranks_along : mg "ranks_along" = some (.ref f_ranks_along)
  f_are_linked : Addr
  d_are_linked : FuncData
  F_are_linked : Fun K "are_linked" "are_linked" s_are_linked f_are_linked d_are_linked
  b_are_linked : Binds K d_are_linked ["library", "value"] []
  g_are_linked : mg "are_linked" = some (.ref f_are_linked)
  f_is_chain : Addr
  d_is_chain : FuncData
  F_is_chain : Fun K "is_chain" "is_chain" s_is_chain f_is_chain d_is_chain
  b_is_chain : Binds K d_is_chain ["library", "value"] []
  g_is_chain : mg "is_chain" = some (.ref f_is_chain)
  f_chain_rank : Addr
  d_chain_rank : FuncData
  F_chain_rank : Fun K "chain_rank" "chain_rank" s_chain_rank f_chain_rank d_chain_rank
  b_chain_rank : Binds K d_chain_rank ["library", "chain"] []
  g_chain_rank : mg "chain_rank" = some (.ref f_chain_rank)
  f_found_within : Addr
  d_found_within : FuncData
  F_found_within : Fun K "found_within" "found_within" s_found_within f_found_within d_found_within
  t_found_within_most : Tok
  kb0_found_within : KBn K d_found_within ["library", "given", "many", "most"] 3 [] (fun us ws => us ++ (ws ++ [.int (9) t_found_within_most])) (fun vs zs => vs ++ (zs ++ [.int (9)]))
  kb1_found_within : KBn K d_found_within ["library", "given", "many", "most"] 3 ["most"] (fun us ws => us ++ (ws ++ [])) (fun vs zs => vs ++ (zs ++ []))
  g_found_within : mg "found_within" = some (.ref f_found_within)
  f__law_feed : Addr
  d__law_feed : FuncData
  F__law_feed : Fun K "_law_feed" "_law_feed" s_law_feed f__law_feed d__law_feed
  b__law_feed : Binds K d__law_feed ["_law_script", "_law_at"] []
  g__law_feed : mg "_law_feed" = some (.ref f__law_feed)
  f__law_draw : Addr
  d__law_draw : FuncData
  F__law_draw : Fun K "_law_draw" "_law_draw" s_law_draw f__law_draw d__law_draw
  b__law_draw : Binds K d__law_draw ["_law_feed_here", "_law_count"] []
  g__law_draw : mg "_law_draw" = some (.ref f__law_draw)
  f__law_pick : Addr
  d__law_pick : FuncData
  F__law_pick : Fun K "_law_pick" "_law_pick" s_law_pick f__law_pick d__law_pick
  b__law_pick : Binds K d__law_pick ["_law_feed_here", "_law_items"] []
  g__law_pick : mg "_law_pick" = some (.ref f__law_pick)
  f__law_mixed : Addr
  d__law_mixed : FuncData
  F__law_mixed : Fun K "_law_mixed" "_law_mixed" s_law_mixed f__law_mixed d__law_mixed
  b__law_mixed : Binds K d__law_mixed ["_law_feed_here", "_law_items"] []
  g__law_mixed : mg "_law_mixed" = some (.ref f__law_mixed)
  f__law_words : Addr
  d__law_words : FuncData
  F__law_words : Fun K "_law_words" "_law_words" s_law_words f__law_words d__law_words
  b__law_words : Binds K d__law_words ["_law_feed_here", "_law_many"] []
  g__law_words : mg "_law_words" = some (.ref f__law_words)
  f__law_front : Addr
  d__law_front : FuncData
  F__law_front : Fun K "_law_front" "_law_front" s_law_front f__law_front d__law_front
  b__law_front : Binds K d__law_front ["_law_feed_here", "_law_plain_here", "_law_size"] []
  g__law_front : mg "_law_front" = some (.ref f__law_front)
  f__law_names : Addr
  d__law_names : FuncData
  F__law_names : Fun K "_law_names" "_law_names" s_law_names f__law_names d__law_names
  b__law_names : Binds K d__law_names ["_law_feed_here", "_law_plain_here", "_law_size"] []
  g__law_names : mg "_law_names" = some (.ref f__law_names)
  f__law_conversion : Addr
  d__law_conversion : FuncData
  F__law_conversion : Fun K "_law_conversion" "_law_conversion" s_law_conversion f__law_conversion d__law_conversion
  b__law_conversion : Binds K d__law_conversion ["_law_feed_here", "_law_plain_here", "_law_longer"] []
  g__law_conversion : mg "_law_conversion" = some (.ref f__law_conversion)
  f__law_drawn_rows : Addr
  d__law_drawn_rows : FuncData
  F__law_drawn_rows : Fun K "_law_drawn_rows" "_law_drawn_rows" s_law_drawn_rows f__law_drawn_rows d__law_drawn_rows
  b__law_drawn_rows : Binds K d__law_drawn_rows ["_law_feed_here", "_law_plain_here", "_law_many", "_law_longer"] []
  g__law_drawn_rows : mg "_law_drawn_rows" = some (.ref f__law_drawn_rows)
  f__law_plain : Addr
  d__law_plain : FuncData
  F__law_plain : Fun K "_law_plain" "_law_plain" s_law_plain f__law_plain d__law_plain
  b__law_plain : Binds K d__law_plain ["_law_feed_here", "_law_many", "_law_longer"] []
  g__law_plain : mg "_law_plain" = some (.ref f__law_plain)
  f__law_library : Addr
  d__law_library : FuncData
  F__law_library : Fun K "_law_library" "_law_library" s_law_library f__law_library d__law_library
  b__law_library : Binds K d__law_library ["_law_plain_here"] []
  g__law_library : mg "_law_library" = some (.ref f__law_library)
  f__law_after : Addr
  d__law_after : FuncData
  F__law_after : Fun K "_law_after" "_law_after" s_law_after f__law_after d__law_after
  b__law_after : Binds K d__law_after ["_law_conversion_here", "_law_names_here"] []
  g__law_after : mg "_law_after" = some (.ref f__law_after)
  f__law_within : Addr
  d__law_within : FuncData
  F__law_within : Fun K "_law_within" "_law_within" s_law_within f__law_within d__law_within
  b__law_within : Binds K d__law_within ["_law_plain_here", "_law_start", "_law_many", "_law_top", "_law_limit"] []
  g__law_within : mg "_law_within" = some (.ref f__law_within)
  f__law_long_row : Addr
  d__law_long_row : FuncData
  F__law_long_row : Fun K "_law_long_row" "_law_long_row" s_law_long_row f__law_long_row d__law_long_row
  b__law_long_row : Binds K d__law_long_row ["_law_script", "_law_plain_here", "_law_start"] []
  g__law_long_row : mg "_law_long_row" = some (.ref f__law_long_row)
  f__law_parts_right : Addr
  d__law_parts_right : FuncData
  F__law_parts_right : Fun K "_law_parts_right" "_law_parts_right" s_law_parts_right f__law_parts_right d__law_parts_right
  b__law_parts_right : Binds K d__law_parts_right ["_law_library_here", "_law_row"] []
  g__law_parts_right : mg "_law_parts_right" = some (.ref f__law_parts_right)
  f__law_reached_right : Addr
  d__law_reached_right : FuncData
  F__law_reached_right : Fun K "_law_reached_right" "_law_reached_right" s_law_reached_right f__law_reached_right d__law_reached_right
  b__law_reached_right : Binds K d__law_reached_right ["_law_feed_here", "_law_plain_here", "_law_library_here", "_law_start"] []
  g__law_reached_right : mg "_law_reached_right" = some (.ref f__law_reached_right)
  f_law : Addr
  d_law : FuncData
  F_law : Fun K "law" "law" s_law f_law d_law
  b_law : Binds K d_law ["_law_script"] []
  g_law : mg "law" = some (.ref f_law)
  f_Candidate___init__ : Addr
  d_Candidate___init__ : FuncData
  F_Candidate___init__ : Fun K "__init__" "Candidate.__init__" s_Candidate___init__ f_Candidate___init__ d_Candidate___init__
  b_Candidate___init__ : Binds K d_Candidate___init__ ["self", "name", "patterns", "result"] []
  f_Library___init__ : Addr
  d_Library___init__ : FuncData
  F_Library___init__ : Fun K "__init__" "Library.__init__" s_Library___init__ f_Library___init__ d_Library___init__
  e_Library___init___conversions : Addr
  q_Library___init___conversions : ∀ H : Hp, SqT K H e_Library___init___conversions []
  e_Library___init___candidates : Addr
  q_Library___init___candidates : ∀ H : Hp, SqT K H e_Library___init___candidates []
  kb0_Library___init__ : KBn K d_Library___init__ ["self", "marks", "bases", "conversions", "candidates"] 3 [] (fun us ws => us ++ (ws ++ [.ref e_Library___init___conversions, .ref e_Library___init___candidates])) (fun vs zs => vs ++ (zs ++ [.ref e_Library___init___conversions, .ref e_Library___init___candidates]))
  kb1_Library___init__ : KBn K d_Library___init__ ["self", "marks", "bases", "conversions", "candidates"] 3 ["conversions"] (fun us ws => us ++ (ws ++ [.ref e_Library___init___candidates])) (fun vs zs => vs ++ (zs ++ [.ref e_Library___init___candidates]))
  kb2_Library___init__ : KBn K d_Library___init__ ["self", "marks", "bases", "conversions", "candidates"] 3 ["conversions", "candidates"] (fun us ws => us ++ (ws ++ [])) (fun vs zs => vs ++ (zs ++ []))
  f_Library_conversions : Addr
  d_Library_conversions : FuncData
  F_Library_conversions : Fun K "conversions" "Library.conversions" s_Library_conversions f_Library_conversions d_Library_conversions
  b_Library_conversions : Binds K d_Library_conversions ["self"] []
  t_MAX_DEPTH : Tok
  m_MAX_DEPTH : mg "MAX_DEPTH" = some (.int (400) t_MAX_DEPTH)
  t_MAX_RANK : Tok
  m_MAX_RANK : mg "MAX_RANK" = some (.int (9) t_MAX_RANK)
  t_MAX_LETTERS : Tok
  m_MAX_LETTERS : mg "MAX_LETTERS" = some (.int (8) t_MAX_LETTERS)
  a_KEYWORDS : Addr
  m_KEYWORDS : mg "KEYWORDS" = some (.ref a_KEYWORDS)
  q_KEYWORDS : ∀ H : Hp, SqT K H a_KEYWORDS [.str "gives", .str "to"]
  t_MAX_MARKS : Tok
  m_MAX_MARKS : mg "MAX_MARKS" = some (.int (8) t_MAX_MARKS)
  t_MAX_BASES : Tok
  m_MAX_BASES : mg "MAX_BASES" = some (.int (8) t_MAX_BASES)
  t_MAX_CONVERSIONS : Tok
  m_MAX_CONVERSIONS : mg "MAX_CONVERSIONS" = some (.int (16) t_MAX_CONVERSIONS)
  t_MAX_CANDIDATES : Tok
  m_MAX_CANDIDATES : mg "MAX_CANDIDATES" = some (.int (16) t_MAX_CANDIDATES)
  t_MAX_PATTERNS : Tok
  m_MAX_PATTERNS : mg "MAX_PATTERNS" = some (.int (3) t_MAX_PATTERNS)
  t_MAX_NAMES : Tok
  m_MAX_NAMES : mg "MAX_NAMES" = some (.int (5) t_MAX_NAMES)
  t_MAX_LEFT : Tok
  m_MAX_LEFT : mg "MAX_LEFT" = some (.int (2) t_MAX_LEFT)
  t_MAX_FRONT : Tok
  m_MAX_FRONT : mg "MAX_FRONT" = some (.int (3) t_MAX_FRONT)
  t_MAX_FOUND : Tok
  m_MAX_FOUND : mg "MAX_FOUND" = some (.int (2000) t_MAX_FOUND)
  t_MAX_STEPS : Tok
  m_MAX_STEPS : mg "MAX_STEPS" = some (.int (20) t_MAX_STEPS)
  n_abs : mg "abs" = none
  n_all : mg "all" = none
  n_any : mg "any" = none
  n_bool : mg "bool" = none
  n_enumerate : mg "enumerate" = none
  n_int : mg "int" = none
  n_isinstance : mg "isinstance" = none
  n_len : mg "len" = none
  n_list : mg "list" = none
  n_max : mg "max" = none
  n_min : mg "min" = none
  n_one : mg "one" = none
  n_property : mg "property" = none
  n_range : mg "range" = none
  n_set : mg "set" = none
  n_sorted : mg "sorted" = none
  n_str : mg "str" = none
  n_tuple : mg "tuple" = none
  n_zip : mg "zip" = none
  c_Library___init__ : Addr
  P_Library___init__ : Addr
  k_Library___init__ : d_Library___init__.code = .ref c_Library___init__
  C_InvalidWord : Addr
  m_InvalidWord : mg "InvalidWord" = some (.ref C_InvalidWord)
  C_InvalidLibrary : Addr
  m_InvalidLibrary : mg "InvalidLibrary" = some (.ref C_InvalidLibrary)
  C_InvalidOperation : Addr
  m_InvalidOperation : mg "InvalidOperation" = some (.ref C_InvalidOperation)
  C_Candidate : Addr
  m_Candidate : mg "Candidate" = some (.ref C_Candidate)
  C_Library : Addr
  m_Library : mg "Library" = some (.ref C_Library)
  C_TooMany : Addr
  m_TooMany : mg "TooMany" = some (.ref C_TooMany)
  C_InvalidNumber : Addr
  m_InvalidNumber : mg "InvalidNumber" = some (.ref C_InvalidNumber)
  cl_Candidate : Cls K C_Candidate
  kp_Candidate : PySem.W.keepIn K (.ref C_Candidate) = true
  ha_Candidate : PySem.W.findIn K (.ref C_Candidate) "__class__" = some (some (.builtin "object.__class__"))
  ob_Candidate : PySem.W.mroIn K C_Candidate (.type "object") = some true
  ne_Candidate : PySem.W.findIn K (.ref C_Candidate) "__ne__" = some (some (.builtin "object.__ne__"))
  zs_Candidate : PySem.W.kitOne K (.type "str") (.ref C_Candidate) = some false
  zt_Candidate : PySem.W.kitOne K (.type "tuple") (.ref C_Candidate) = some false
  zn_Candidate : PySem.W.kitOne K (.type "NoneType") (.ref C_Candidate) = some false
  zi_Candidate : PySem.W.kitOne K (.type "int") (.ref C_Candidate) = some false
  zc_Candidate : PySem.W.kitOne K (.ref C_Candidate) (.type "str") = some false
  zl_Candidate : PySem.W.kitOne K (.type "list") (.ref C_Candidate) = some false
  zd_Candidate : PySem.W.kitOne K (.type "dict") (.ref C_Candidate) = some false
  zb_Candidate : PySem.W.kitOne K (.type "bool") (.ref C_Candidate) = some false
  zu_Candidate : PySem.W.kitOne K (.ref C_Candidate) (.type "tuple") = some false
  hn_Candidate : PySem.W.specialIn K (.builtin "object.__class__") "__get__" = some (some (.builtin "getset_descriptor.__get__"))
  ht_Candidate : PySem.W.takesIn K (.builtin "object.__class__") = some true
  no_Candidate_own_name : NoAttr K C_Candidate "own_name"
  no_Candidate_own_patterns : NoAttr K C_Candidate "own_patterns"
  no_Candidate_own_result : NoAttr K C_Candidate "own_result"
  no_Candidate_own_key : NoAttr K C_Candidate "own_key"
  mk_Candidate : Mk K C_Candidate f_Candidate___init__
  cl_Library : Cls K C_Library
  kp_Library : PySem.W.keepIn K (.ref C_Library) = true
  ha_Library : PySem.W.findIn K (.ref C_Library) "__class__" = some (some (.builtin "object.__class__"))
  ob_Library : PySem.W.mroIn K C_Library (.type "object") = some true
  ne_Library : PySem.W.findIn K (.ref C_Library) "__ne__" = some (some (.builtin "object.__ne__"))
  zs_Library : PySem.W.kitOne K (.type "str") (.ref C_Library) = some false
  zt_Library : PySem.W.kitOne K (.type "tuple") (.ref C_Library) = some false
  zn_Library : PySem.W.kitOne K (.type "NoneType") (.ref C_Library) = some false
  zi_Library : PySem.W.kitOne K (.type "int") (.ref C_Library) = some false
  zc_Library : PySem.W.kitOne K (.ref C_Library) (.type "str") = some false
  zl_Library : PySem.W.kitOne K (.type "list") (.ref C_Library) = some false
  zd_Library : PySem.W.kitOne K (.type "dict") (.ref C_Library) = some false
  zb_Library : PySem.W.kitOne K (.type "bool") (.ref C_Library) = some false
  zu_Library : PySem.W.kitOne K (.ref C_Library) (.type "tuple") = some false
  hn_Library : PySem.W.specialIn K (.builtin "object.__class__") "__get__" = some (some (.builtin "getset_descriptor.__get__"))
  ht_Library : PySem.W.takesIn K (.builtin "object.__class__") = some true
  no_Library_own_marks : NoAttr K C_Library "own_marks"
  no_Library_own_bases : NoAttr K C_Library "own_bases"
  no_Library_own_conversions : NoAttr K C_Library "own_conversions"
  no_Library_own_candidates : NoAttr K C_Library "own_candidates"
  no_Library_own_tables : NoAttr K C_Library "own_tables"
  mk_Library : Mk K C_Library f_Library___init__
  pa_Library_conversions : Addr
  pr_Library_conversions : PropOf K C_Library "conversions" pa_Library_conversions f_Library_conversions
  x_InvalidWord : XCl K mg "InvalidWord" C_InvalidWord
  x_InvalidLibrary : XCl K mg "InvalidLibrary" C_InvalidLibrary
  x_InvalidOperation : XCl K mg "InvalidOperation" C_InvalidOperation
  fI_TooMany : Addr
  p_TooMany : PySem.PeB.TxB P K mg "TooMany" "TooMany.__init__" "limit" "there are more than " "" C_TooMany fI_TooMany PySem.PeB.bOE PySem.PeB.iB2
  ec_TooMany : ExcC K C_TooMany
  fI_InvalidNumber : Addr
  p_InvalidNumber : PySem.PeB.TxB P K mg "InvalidNumber" "InvalidNumber.__init__" "value" "" " is not a number in the range" C_InvalidNumber fI_InvalidNumber PySem.PeB.bRE PySem.PeB.iB1
  ec_InvalidNumber : ExcC K C_InvalidNumber
  exm_InvalidWord_InvalidWord : PySem.W.exmOne K (.ref C_InvalidWord) (.ref C_InvalidWord) = some true
  exm_InvalidLibrary_InvalidWord : PySem.W.exmOne K (.ref C_InvalidLibrary) (.ref C_InvalidWord) = some false
  exm_InvalidLibrary_InvalidLibrary : PySem.W.exmOne K (.ref C_InvalidLibrary) (.ref C_InvalidLibrary) = some true
  exm_InvalidOperation_InvalidWord : PySem.W.exmOne K (.ref C_InvalidOperation) (.ref C_InvalidWord) = some false
  exm_InvalidOperation_InvalidLibrary : PySem.W.exmOne K (.ref C_InvalidOperation) (.ref C_InvalidLibrary) = some false
  exm_InvalidOperation_InvalidOperation : PySem.W.exmOne K (.ref C_InvalidOperation) (.ref C_InvalidOperation) = some true
  kit_Candidate_Library : PySem.W.kitOne K (.ref C_Candidate) (.ref C_Library) = some false
  kit_Library_Library : PySem.W.kitOne K (.ref C_Library) (.ref C_Library) = some true

open PySem PySem.Spec PyProof.Rows L2 Lv
local macro_rules | `(tactic| walk_at "rd") => `(tactic| simp only [cxOf, Cx.nox, Cx.wish, tSeq, tIfS, tOr, tAnd, tB, tTest, tCB, tCons, tVar, tC, tNil, tNot, tNotV, tRet, tOp, tUn, tNext, tDrop, tAsg, gName, gSub, gCons, gNil, gSub, gCons, gNil, tYes, wipe, tFor_eq, tLc_eq, iStr, iTup, iList, iRng1, tBM, tBM0, tM0, tM1, tSl, tPart, tNoPart, tDisp, tPairs, tDNewK, rU, and_assoc, tIf, tAndV, tOrV, tChain, tTup, tLst, tCall, tPar, rI0, rI, rEq, rNe, L2.start,
  List.map_cons, List.map_nil, List.length_cons, List.length_nil, Nat.reduceAdd, Nat.reduceSub, Nat.zero_add, Nat.sub_self, Nat.add_one_sub_one, List.replicate_zero, List.replicate_succ, List.append_nil, List.cons_append, List.nil_append, List.set_cons_zero, List.set_cons_succ,
  List.getElem?_cons_zero, List.getElem?_cons_succ, Option.some.injEq, exists_eq_left', exists_eq_left, exists_eq_right, exists_and_left, exists_and_right, V.bl.injEq, V.int.injEq, V.str.injEq, V.ref.injEq, List.cons.injEq, and_true, true_and, Bool.false_eq_true, Bool.true_eq_false, if_true, if_false, ite_true, ite_false, decide_true, decide_false, Bool.not_false, Bool.not_true, if_pos, reduceIte])
local macro_rules | `(tactic| walk_at "kn") => `(tactic| first | exact Kn.non | exact Kn.bl _ | exact Kn.int _ | exact Kn.str _ | exact Kn.lst (by assumption) | exact Kn.tup (by assumption) | exact Kn.dK (by assumption))
local macro_rules | `(tactic| walk_at "isi") => `(tactic| first | refine isi_kn (b := true) (by walk_at "kn") (by decide +kernel) ?_ | refine isi_kn (b := false) (by walk_at "kn") (by decide +kernel) ?_)

section
variable {w : World} {K : PySem.W.Frag} {mg : Str → Option Value} {base : Heap}
theorem ok_is_integer (T : Tx K mg) : FnOk P w K mg base CX0 1 T.f_is_integer T.d_is_integer ["value"] sp_is_integer := by
  refine T.F_is_integer.ok sc_is_integer (fun vs H Q E h => ?_) (fun cdv A outer s H vs Q E hr h => ?_)
  · obtain ⟨v, t, rfl, _⟩ := h
    rfl
  · obtain ⟨v, t, rfl, k, q⟩ := h
    refine ⟨_, (pss_cons (ps_if (PW.pt (pw_or (pt_val (pe_callB call_isi (by rfl) T.n_isinstance (by decide +kernel) (pa_cons (pv 0) (pa_cons (pe_bltn (v := .ty "bool") (by rfl) T.n_bool (by decide +kernel) rfl) pa_nil)))) (pw_or1 (pt_not (pt_val (pe_callB call_isi (by rfl) T.n_isinstance (by decide +kernel) (pa_cons (pv 0) (pa_cons (pe_bltn (v := .ty "int") (by rfl) T.n_int (by decide +kernel) rfl) pa_nil)))))))) (pss_one (ps_ret pe_bl)) pss_nil)
      (pss_one (ps_ret (pe_cmpR op_lt (pe_callB call_abs (by rfl) T.n_abs (by decide +kernel) (pa_cons (pv 0) pa_nil)) (pe_op op_pow pe_int pe_int) (nomark _))))), ?_⟩
    walk_at "rd"
    cases k
    all_goals (walk_at "isi"; walk_at "rd")
    all_goals try exact q
    all_goals (walk_at "isi"; walk_at "rd")
    all_goals try exact q
    exact ⟨⟨by decide, by decide, by decide⟩, q⟩
theorem ok_is_name (T : Tx K mg) : FnOk P w K mg base CX0 1 T.f_is_name T.d_is_name ["value"] sp_is_name := by
  refine T.F_is_name.ok sc_is_name (fun vs H Q E h => ?_) (fun cdv A outer s H vs Q E hr h => ?_)
  · obtain ⟨v, t, rfl, _⟩ := h
    rfl
  · obtain ⟨v, t, rfl, k, hz, q⟩ := h
    refine ⟨_, (pss_cons (ps_if (PW.pt (pw_or (pt_not (pt_val (pe_callB call_isi (by rfl) T.n_isinstance (by decide +kernel) (pa_cons (pv 0) (pa_cons (pe_bltn (v := .ty "str") (by rfl) T.n_str (by decide +kernel) rfl) pa_nil))))) (pw_or (pt_not (pt_chain op_le op_le pe_int (pe_callB call_len_str (by rfl) T.n_len (by decide +kernel) (pa_cons (pv 0) pa_nil)) (pe_glob (v := .int (8)) (by rfl) T.m_MAX_LETTERS ⟨_, rfl⟩))) (pw_or1 (pt_cmpR op_in_seq (pv 0) (pe_glob (v := .ref T.a_KEYWORDS) (by rfl) T.m_KEYWORDS rfl) (by rfl)))))) (pss_one (ps_ret pe_bl)) pss_nil)
      (pss_one (ps_ret (pe_callB (cr_all rfl) (by rfl) T.n_all (by decide +kernel) (pa_cons (pe_lc (own := [("sign", 1)]) (g := gName 1) (by rfl) sc_is_name.nd (pi_str (pv 0)) (blkOk_by (own := [("sign", 1)]) (N := ["value", "sign"]) (sc := defScope s_is_name) (by decide +kernel)) (fun _ _ _ _ _ => (pg_name (i := 1) sc_is_name.nd rfl (Or.inl rfl))) (fun _ _ _ _ _ => pts_nil) (fun _ _ _ _ _ => (pe_chain op_le_str op_le_str pe_str (pv 1) pe_str))) pa_nil))))), ?_⟩
    walk_at "rd"
    cases k
    all_goals (walk_at "isi"; walk_at "rd")
    all_goals try exact q _ (Same.refl _)
    rename_i z
    have hl := hz z rfl
    have q' : ∀ (b : Bool) H', isNm z = b → Same H H' → Q (V.bl b) H' := fun b H' e s => e ▸ q H' s
    refine ⟨hl, ite2 (fun h1 => ite2 (fun h2 => ?_) (fun h2 => ?_)) (fun h1 => ?_)⟩
    · refine q' _ _ ?_ (Same.refl _)
      unfold isNm
      have h2' : decide ((z.length : Int) ≤ 8) = false := by simpa using h2
      simp only [h2', Bool.and_false, Bool.false_and]
    · refine ⟨T.a_KEYWORDS, _, rfl, .inr (T.q_KEYWORDS H), rfl, rfl, _, rfl, ite2 (fun h3 => ?_) (fun h3 => ?_)⟩
      · refine q' _ _ ?_ (Same.refl _)
        unfold isNm
        simp only [Bool.false_eq_true, if_false] at h3
        simp [h3]
      · refine lc_same walk_str (fun i => .bl (lowC (z.cps.toList[i]?.getD 0))) hl (fun _ _ => trivial) ?_ mono_name mono_yes ?_
        · rintro i x H1 H2 hi hS ⟨rfl, c, hc, rfl⟩ R hR
          walk_at "rd"
          have e : z.cps.toList[i]?.getD 0 = c := by
            rw [Array.getElem?_toList, hc]
            rfl
          have hR' := hR H2 (Same.refl _)
          rw [e] at hR'
          unfold lowC at hR'
          refine ite2 (fun h4 => ?_) (fun h4 => ?_)
          · rw [show (!decide ([c] < (Str.ofString "a").cps.toList)) = true from h4, Bool.true_and] at hR'
            exact hR'
          · rw [Bool.not_eq_true] at h4
            rw [show (!decide ([c] < (Str.ofString "a").cps.toList)) = false from h4, Bool.false_and] at hR'
            exact hR'
        · intro H2 D hS hD hL
          have e : ((List.range z.cps.size).map fun i => V.bl (lowC (z.cps.toList[i]?.getD 0))) = (z.cps.toList.map lowC).map V.bl := by
            rw [← range_map lowC z.cps.toList, List.map_map]
            rfl
          rw [e] at hL
          refine ⟨D, z.cps.toList.map lowC, rfl, .inl (.inl hL), q' _ _ ?_ hS⟩
          unfold isNm
          simp only [Bool.false_eq_true, if_false] at h3
          simp at h1 h2 h3
          simp [h1, h2, h3]
    · refine q' _ _ ?_ (Same.refl _)
      unfold isNm
      have h1' : decide ((1 : Int) ≤ z.length) = false := by simpa using h1
      simp only [h1', Bool.false_and]
theorem ok_is_names (T : Tx K mg) : FnOk P w K mg base CX0 2 T.f_is_names T.d_is_names ["value", "least", "most"] sp_is_names := by
  refine T.F_is_names.ok sc_is_names (fun vs H Q E h => ?_) (fun cdv A outer s H vs Q E hr h => ?_)
  · obtain ⟨v, xs, b, lo, hi, rfl, _⟩ := h
    rfl
  · obtain ⟨v, xs, b, lo, hi, rfl, hh, k, q⟩ := h
    refine ⟨_, (pss_one (ps_ret (pe_and (pe_callB call_isi (by rfl) T.n_isinstance (by decide +kernel) (pa_cons (pv 0) (pa_cons (pe_bltn (v := .ty "tuple") (by rfl) T.n_tuple (by decide +kernel) rfl) pa_nil))) (pe_and (pe_chain op_le op_le (pv 1) (pe_callB call_lenQ (by rfl) T.n_len (by decide +kernel) (pa_cons (pv 0) pa_nil)) (pv 2)) (pe_one (pe_callB (cr_all rfl) (by rfl) T.n_all (by decide +kernel) (pa_cons (pe_lc (own := [("name", 3)]) (g := gName 3) (by rfl) sc_is_names.nd (pi_tup (pv 0)) (blkOk_by (own := [("name", 3)]) (N := ["value", "least", "most", "name"]) (sc := defScope s_is_names) (by decide +kernel)) (fun _ _ _ _ _ => (pg_name (i := 3) sc_is_names.nd rfl (Or.inl rfl))) (fun _ _ _ _ _ => pts_nil) (fun _ _ _ _ _ => (pe_call (ok_is_name T) (hr.mono (by decide)) (by rfl) T.g_is_name T.F_is_name.kp T.b_is_name .nil pass0 (pa_cons (pv 3) pa_nil)))) pa_nil))))))), ?_⟩
    walk_at "rd"
    cases k with
    | oth k n =>
      refine isi_kn k (kit_ntup k n) ?_
      walk_at "rd"
      exact q _ (Same.refl _)
    | tup h k z =>
      walk_at "isi"
      walk_at "rd"
      rename_i a
      have hT : SqT K H a xs := .inl (.inl h)
      have q' : ∀ (b : Bool) H', namesV xs lo hi = b → Same H H' → Q (V.bl b) H' := fun b H' e s => by
        have := q H' s
        rw [Bool.true_and, e] at this
        exact this
      refine lenT hT ?_
      walk_at "rd"
      refine ite2 (fun h1 => ite2 (fun h2 => ?_) (fun h2 => ?_)) (fun h1 => ?_)
      · refine ⟨⟨xs, hT⟩, lc_same walk_tup (fun i => .bl (nameV (xs[i]?.getD .non))) (Nat.le_of_lt (small1000 (by have := of_decide_eq_true h2; omega))) (fun H' s => Evl.ex_t s hT) ?_ mono_name mono_yes ?_⟩
        · rintro i x H1 H2 hi hS ⟨rfl, hx⟩ R hR
          walk_at "rd"
          have hm : x ∈ xs := List.mem_of_getElem? hx
          obtain ⟨t, kt⟩ := k x hm
          rw [hx] at hR
          exact ⟨x, t, rfl, kt.same hS, fun y e => z y (e ▸ hm), hR⟩
        · intro H2 D hS hD hL
          have e : ((List.range xs.length).map fun i => V.bl (nameV (xs[i]?.getD .non))) = (xs.map nameV).map V.bl := by
            rw [List.map_map]
            apply List.ext_getElem
            · simp
            · intro i h1 h2
              have h3 : i < xs.length := by simpa using h2
              simp [h3]
          rw [e] at hL
          refine ⟨D, xs.map nameV, rfl, .inl (.inl hL), q' _ _ ?_ hS⟩
          unfold namesV
          rw [h1, h2]
          simp
      · refine q' _ _ ?_ (Same.refl _)
        unfold namesV
        have h2' : decide ((xs.length : Int) ≤ hi) = false := by simpa using h2
        rw [h2', Bool.and_false, Bool.false_and]
      · refine q' _ _ ?_ (Same.refl _)
        unfold namesV
        have h1' : decide (lo ≤ (xs.length : Int)) = false := by simpa using h1
        rw [h1', Bool.false_and, Bool.false_and]
theorem ok_law_feed (T : Tx K mg) : FnOk P w K mg base CX0 1 T.f__law_feed T.d__law_feed ["_law_script", "_law_at"] (sp_law_dice K) := by
  refine T.F__law_feed.ok sc_law_feed (fun vs H Q E h => ?_) (fun cdv A outer s H vs Q E hr h => ?_)
  · obtain ⟨a, ns, k, rfl, _⟩ := h
    rfl
  · obtain ⟨a, ns, k, rfl, hS, hk, q⟩ := h
    refine ⟨_, (pss_cons (ps_set (i := 2) sc_law_feed.nd rfl (Or.inl rfl) (pe_ifExp (pt_cmpR op_lt (pv 1) (pe_callB call_lenQ (by rfl) T.n_len (by decide +kernel) (pa_cons (pv 0) pa_nil)) (nomark _)) (pe_ix ix_list (pv 0) (pv 1) (fun _ _ => rfl)) (pe_op op_add (pe_op op_mul pe_int (pv 1)) pe_int)))
      (pss_cons (ps_set (i := 3) sc_law_feed.nd rfl (Or.inl rfl) (pe_op op_mod (pe_callTy call_intI (by rfl) T.n_int (by decide +kernel) (pa_cons (pe_callB call_abs (by rfl) T.n_abs (by decide +kernel) (pa_cons (pv 2) pa_nil)) pa_nil)) (pe_op op_powW (pe_op op_pow pe_int pe_int) pe_int)))
      (pss_cons (ps_set (i := 4) sc_law_feed.nd rfl (Or.inl rfl) (pe_op op_add (pe_op op_add (pe_op op_add (pe_op op_mul (pv 3) pe_int) (pe_op op_mul pe_int (pv 1))) (pe_op op_mul pe_int (pe_callTy call_intB (by rfl) T.n_int (by decide +kernel) (pa_cons (pe_cmpR op_lt (pv 2) pe_int (nomark _)) pa_nil)))) pe_int))
      (pss_one (ps_ret (pe_lst (pa_cons (pe_callB (call_max2 rfl) (by rfl) T.n_max (by decide +kernel) (pa_cons pe_int (pa_cons (pe_op op_sub (pv 3) (pe_op op_pow pe_int pe_int)) pa_nil))) (pa_cons (pe_op op_mod (pe_callTy call_intI (by rfl) T.n_int (by decide +kernel) (pa_cons (pv 4) pa_nil)) pe_int) (pa_cons pe_int pa_nil))))))))), ?_⟩
    walk_at "rd"
    have big : ((10 : Int) ^ Int.toNat 59).natAbs < 2 ^ 197 := by decide +kernel
    have pw : CPowW ((10 : Int) ^ Int.toNat 59) 10 := ⟨by decide, by
      have := bits_le big (by decide)
      omega⟩
    have pos : (0 : Int) < ((10 : Int) ^ Int.toNat 59) ^ Int.toNat 10 := by decide +kernel
    have p0 : CPow 10 59 := ⟨by decide, by decide, by decide⟩
    have p1 : CPow 10 18 := ⟨by decide, by decide, by decide⟩
    have fin : ∀ i j k : Int, CMul i 1000579 ∧ CMul 6121 j ∧ CMul 43 k ∧ CPow 10 18 ∧ (0 : Int) < 2305843009213693973 ∧ 3 ≤ sizeLine := fun i j k => ⟨.inr ⟨by decide, by decide⟩, .inl ⟨by decide, by decide⟩, .inl ⟨by decide, by decide⟩, p1, by decide, by decide⟩
    refine lenL hS ?_
    walk_at "rd"
    refine ite2 (fun h1 => ?_) (fun h1 => ?_)
    · have h2 : k < ns.length := by
        have := of_decide_eq_true h1
        rw [List.length_map] at this
        omega
      refine ixl_nat hS (by rw [List.getElem?_map, List.getElem?_eq_getElem h2]; rfl) ?_
      walk_at "rd"
      exact ⟨p0, pw, pos, (fin _ 0 0).1, (fin 0 _ 0).2.1, (fin 0 0 _).2.2.1, p1, (fin 0 0 0).2.2.2.2.1, (fin 0 0 0).2.2.2.2.2, fun p hp => q p _ _ _ hp⟩
    · exact ⟨.inl ⟨by decide, by decide⟩, p0, pw, pos, (fin _ 0 0).1, (fin 0 _ 0).2.1, (fin 0 0 _).2.2.1, p1, (fin 0 0 0).2.2.2.2.1, (fin 0 0 0).2.2.2.2.2, fun p hp => q p _ _ _ hp⟩
theorem ok_law_draw (T : Tx K mg) : FnOk P w K mg base CX0 1 T.f__law_draw T.d__law_draw ["_law_feed_here", "_law_count"] sp_law_roll := by
  refine T.F__law_draw.ok sc_law_draw (fun vs H Q E h => ?_) (fun cdv A outer s H vs Q E hr h => ?_)
  · obtain ⟨d, n, rfl, _⟩ := h
    rfl
  · obtain ⟨d, n, rfl, h0, h1, ⟨x, y, z, hd⟩, q⟩ := h
    refine ⟨_, (pss_cons (ps_if (pt_cmpR op_gt (pe_ix ix_list (pv 0) pe_int (fun _ _ => rfl)) pe_int (nomark _)) (pss_cons (ps_set (i := 2) sc_law_draw.nd rfl (Or.inl rfl) (pe_op op_mod (pe_callTy call_intI (by rfl) T.n_int (by decide +kernel) (pa_cons (pe_ix ix_list (pv 0) pe_int (fun _ _ => rfl)) pa_nil)) (pv 1)))
      (pss_cons (ps_asg (pe_op op_fdiv (pe_ix ix_list (pv 0) pe_int (fun _ _ => rfl)) (pv 1)) (pg_sub (pv 0) pe_int set_list))
      (pss_one (ps_ret (pv 2))))) pss_nil)
      (pss_cons (ps_asg (pe_op op_add (pe_ix ix_list (pv 0) pe_int (fun _ _ => rfl)) pe_int) (pg_sub (pv 0) pe_int set_list))
      (pss_cons (ps_set (i := 3) sc_law_draw.nd rfl (Or.inl rfl) (pe_op op_mod (pe_callTy call_intI (by rfl) T.n_int (by decide +kernel) (pa_cons (pe_op op_add (pe_ix ix_list (pv 0) pe_int (fun _ _ => rfl)) (pe_op op_mul pe_int (pe_ix ix_list (pv 0) pe_int (fun _ _ => rfl)))) pa_nil)) pe_int))
      (pss_cons (ps_set (i := 4) sc_law_draw.nd rfl (Or.inl rfl) (pe_op op_add (pe_op op_mul (pe_op op_mod (pe_callTy call_intI (by rfl) T.n_int (by decide +kernel) (pa_cons (pe_op op_mul (pv 3) (pv 3)) pa_nil)) pe_int) (pv 3)) (pe_op op_mul pe_int (pe_ix ix_list (pv 0) pe_int (fun _ _ => rfl)))))
      (pss_one (ps_ret (pe_op op_mod (pe_callTy call_intI (by rfl) T.n_int (by decide +kernel) (pa_cons (pe_op op_fdiv (pe_op op_mod (pe_callTy call_intI (by rfl) T.n_int (by decide +kernel) (pa_cons (pe_op op_add (pv 4) (pe_ix ix_list (pv 0) pe_int (fun _ _ => rfl))) pa_nil)) pe_int) pe_int) pa_nil)) (pv 1)))))))), ?_⟩
    walk_at "rd"
    refine ixl (.inl (.inl hd)) rfl ?_
    walk_at "rd"
    refine ite2 (fun hx => ?_) (fun hx => ?_)
    · refine ixl (.inl (.inl hd)) rfl ?_
      walk_at "rd"
      refine ⟨h0, ixl (.inl (.inl hd)) rfl ?_⟩
      walk_at "rd"
      refine ⟨⟨h0, h1⟩, setl hd rfl ?_⟩
      exact q _ _ _ _ (Int.emod_nonneg _ (by omega)) (Int.emod_lt_of_pos _ h0)
    · refine ixl (.inl (.inl hd)) rfl ?_
      walk_at "rd"
      refine setl hd rfl ?_
      refine ixl (.inl (.inl upd_same)) rfl (ixl (.inl (.inl upd_same)) rfl ?_)
      walk_at "rd"
      refine ⟨.inl ⟨by decide, by decide⟩, by decide, ?_⟩
      generalize hone : (y + 941083987 * (z + 1)) % 2305843009213693951 = one
      have o1 : 0 ≤ one := hone ▸ Int.emod_nonneg _ (by decide)
      have o2 : one < 2305843009213693951 := hone ▸ Int.emod_lt_of_pos _ (by decide)
      refine ⟨.inl ⟨by omega, by omega⟩, by decide, ?_⟩
      generalize htwo : (one * one) % 1152921504606846883 = two
      have t1 : 0 ≤ two := htwo ▸ Int.emod_nonneg _ (by decide)
      have t2 : two < 1152921504606846883 := htwo ▸ Int.emod_lt_of_pos _ (by decide)
      refine ⟨.inl ⟨by omega, by omega⟩, ixl (.inl (.inl upd_same)) rfl ?_⟩
      walk_at "rd"
      refine ⟨.inl ⟨by decide, by decide⟩, ixl (.inl (.inl upd_same)) rfl ?_⟩
      walk_at "rd"
      refine ⟨by decide, ⟨by decide, by decide⟩, h0, ?_⟩
      exact q _ _ _ _ (Int.emod_nonneg _ (by omega)) (Int.emod_lt_of_pos _ h0)
/-- one of the items, of a list, a tuple or a text -/
def sp_pickA (K : PySem.W.Frag) : Sp := fun vs H Q E => sp_law_pick K vs H Q E ∨ ∃ (d p : Addr) (xs : List V), vs = [.ref d, .ref p] ∧ Dc H d ∧ SqT K H p xs ∧ xs ≠ [] ∧ xs.length < 1073741824 ∧ ∀ y H', y ∈ xs → Gr d H H' → Q y H'
theorem gr_sq {d p : Addr} {H H' : Hp} {xs : List V} (g : Gr d H H') (h : SqT K H p xs) : SqT K H' p xs := by
  rcases h with (h | ⟨u, h⟩) | h
  · exact .inl (.inl (g.keep _ _ (g.pre.ne_tup h) h))
  · exact .inl (.inr ⟨u, g.keep _ _ (fun e => by obtain ⟨x, y, z, hd⟩ := g.pre; rw [e, hd] at h; cases h) h⟩)
  · exact .inr h
theorem ok_law_pick (T : Tx K mg) : FnOk P w K mg base CX0 2 T.f__law_pick T.d__law_pick ["_law_feed_here", "_law_items"] (sp_pickA K) := by
  refine T.F__law_pick.ok sc_law_pick (fun vs H Q E h => ?_) (fun cdv A outer s H vs Q E hr h => ?_)
  · rcases h with ⟨d, v, rfl, _⟩ | ⟨d, p, xs, rfl, _⟩
    · rfl
    · rfl
  · rcases h with ⟨d, v, rfl, hd, h⟩ | ⟨d, p, xs, rfl, hd, hS, hne, hlen, q⟩
    · refine ⟨_, (pss_one (ps_ret (pe_ix ix_seq (pv 1) (pe_call (ok_law_draw T) (hr.mono (by decide)) (by rfl) T.g__law_draw T.F__law_draw.kp T.b__law_draw .nil pass0 (pa_cons (pv 0) (pa_cons (pe_callB call_len (by rfl) T.n_len (by decide +kernel) (pa_cons (pv 1) pa_nil)) pa_nil))) (fun _ _ => rfl)))), ?_⟩
      walk_at "rd"
      rcases h with ⟨p, xs, rfl, ne, hS, hne, hlen, q⟩ | ⟨z, rfl, hz, h0, h1, q⟩
      · have hpos : 0 < xs.length := List.length_pos_iff.mpr hne
        refine ⟨xs.length, .inl ⟨xs, hS, rfl⟩, d, _, rfl, by omega, by omega, hd, fun r x y z r0 r1 => ?_⟩
        obtain ⟨j, rfl⟩ := Int.eq_ofNat_of_zero_le r0
        have hj : j < xs.length := by omega
        have g : Gr d H _ := Gr.roll (x := x) (y := y) (z := z) hd
        exact .inl ⟨p, xs, _, xs[j], rfl, rfl, g.sql ne hS, atI_nat (List.getElem?_eq_getElem hj), q _ _ (List.getElem_mem hj) g⟩
      · refine ⟨z.length, ⟨hz, rfl⟩, d, _, rfl, by omega, by omega, hd, fun r x y z' r0 r1 => ?_⟩
        obtain ⟨j, rfl⟩ := Int.eq_ofNat_of_zero_le r0
        have hj : j < z.cps.toList.length := by
          have : (j : Int) < (z.cps.size : Nat) := r1
          rw [Array.length_toList]
          omega
        have g : Gr d H _ := Gr.roll (x := x) (y := y) (z := z') hd
        exact .inr (.inr ⟨z, _, z.cps.toList[j], rfl, rfl, hz, atI_nat (List.getElem?_eq_getElem hj), q _ _ (List.getElem_mem hj) g⟩)
    · refine ⟨_, (pss_one (ps_ret (pe_ix ix_seq (pv 1) (pe_call (ok_law_draw T) (hr.mono (by decide)) (by rfl) T.g__law_draw T.F__law_draw.kp T.b__law_draw .nil pass0 (pa_cons (pv 0) (pa_cons (pe_callB call_len (by rfl) T.n_len (by decide +kernel) (pa_cons (pv 1) pa_nil)) pa_nil))) (fun _ _ => rfl)))), ?_⟩
      walk_at "rd"
      have hpos : 0 < xs.length := List.length_pos_iff.mpr hne
      refine ⟨xs.length, .inr ⟨xs, hS, rfl⟩, d, _, rfl, by omega, by omega, hd, fun r x y z r0 r1 => ?_⟩
      obtain ⟨j, rfl⟩ := Int.eq_ofNat_of_zero_le r0
      have hj : j < xs.length := by omega
      have g : Gr d H _ := Gr.roll (x := x) (y := y) (z := z) hd
      exact .inr (.inl ⟨p, xs, _, xs[j], rfl, rfl, gr_sq g hS, atI_nat (List.getElem?_eq_getElem hj), q _ _ (List.getElem_mem hj) g⟩)
end

set_option pp.maxSteps 900

section
variable {w : World} {K : PySem.W.Frag} {mg : Str → Option Value} {base : Heap}
/-- an integer from lo to hi -/
def inV3 (v : V) (lo hi : Int) : Bool := match v with
  | .int i => intV (.int i) && (decide (lo ≤ i) && decide (i ≤ hi))
  | _ => false
def sp_within : Sp := fun vs H Q _ => ∃ (v : V) (t : String) (lo hi : Int), vs = [v, .int lo, .int hi] ∧ Kn H v t ∧ Q (.bl (inV3 v lo hi)) H
theorem ok_is_integer_within (T : Tx K mg) : FnOk P w K mg base CX0 2 T.f_is_integer_within T.d_is_integer_within ["value", "least", "most"] sp_within := by
  refine T.F_is_integer_within.ok sc_is_integer_within (fun vs H Q E h => ?_) (fun cdv A outer s H vs Q E hr h => ?_)
  · obtain ⟨v, t, lo, hi, rfl, _⟩ := h
    rfl
  · obtain ⟨v, t, lo, hi, rfl, k, q⟩ := h
    refine ⟨_, (pss_one (ps_ret (pe_and (pe_call (ok_is_integer T) (hr.mono (by decide)) (by rfl) T.g_is_integer T.F_is_integer.kp T.b_is_integer .nil pass0 (pa_cons (pv 0) pa_nil)) (pe_one (pe_chain op_le op_le (pv 1) (pv 0) (pv 2)))))), ?_⟩
    walk_at "rd"
    refine isint k ?_
    walk_at "rd"
    cases k with
    | int i =>
      have q' : Q (.bl (intV (.int i) && (decide (lo ≤ i) && decide (i ≤ hi)))) H := q
      refine ite2 (fun h1 => ⟨i, rfl, ite2 (fun h2 => ⟨i, rfl, ?_⟩) (fun h2 => ?_)⟩) (fun h1 => ?_)
      · rw [h1, h2, Bool.true_and, Bool.true_and] at q'
        exact q'
      · rw [Bool.not_eq_true] at h2
        rw [h2, Bool.false_and, Bool.and_false] at q'
        exact q'
      · rw [Bool.not_eq_true] at h1
        rw [h1, Bool.false_and] at q'
        exact q'
    | _ => exact iteF q
theorem kit_nstr {H : Hp} {v : V} {t : String} (k : Kn H v t) (n : t ≠ "str") : kitB t "str" = some false := by
  cases k
  all_goals first | exact absurd rfl n | decide +kernel
/-- whether v is a pattern -/
inductive PatIs (H : Hp) : V → Bool → Prop
  | oth {v : V} {t : String} (k : Kn H v t) (n : t ≠ "tuple") : PatIs H v false
  | len {a : Addr} {xs : List V} (h : H a = some (.tup xs)) (n : xs.length ≠ 2) (z : xs.length ≤ 1000) : PatIs H (.ref a) false
  | nostr {a : Addr} {x y : V} {t : String} (h : H a = some (.tup [x, y])) (k : Kn H x t) (n : t ≠ "str") : PatIs H (.ref a) false
  | word {a : Addr} {z : Str} {y : V} (h : H a = some (.tup [.str z, y])) (n1 : z ≠ Str.ofString "closed") (n2 : z ≠ Str.ofString "open") : PatIs H (.ref a) false
  | closed {a : Addr} {y : V} {ys : List V} {b : Bool} (h : H a = some (.tup [.str (Str.ofString "closed"), y])) (t : Told H y ys b) : PatIs H (.ref a) (b && namesV ys 1 5)
  | open_ {a : Addr} {y : V} {ys : List V} {b : Bool} (h : H a = some (.tup [.str (Str.ofString "open"), y])) (t : Told H y ys b) : PatIs H (.ref a) (b && namesV ys 0 3)
def sp_is_pattern : Sp := fun vs H Q _ => ∃ (v : V) (b : Bool), vs = [v] ∧ PatIs H v b ∧ ∀ H', Same H H' → Q (.bl b) H'
theorem Told.same {H H' : Hp} {v : V} {xs : List V} {b : Bool} (t : Told H v xs b) (s : Same H H') : Told H' v xs b := by
  cases t with
  | tup h k z => exact .tup (s _ _ h) (fun x hx => (k x hx).imp fun _ q => q.same s) z
  | oth k n => exact .oth (k.same s) n
theorem PatIs.same {H H' : Hp} {v : V} {b : Bool} (p : PatIs H v b) (s : Same H H') : PatIs H' v b := by
  cases p with
  | oth k n => exact .oth (k.same s) n
  | len h n z => exact .len (s _ _ h) n z
  | nostr h k n => exact .nostr (s _ _ h) (k.same s) n
  | word h n1 n2 => exact .word (s _ _ h) n1 n2
  | closed h t => exact .closed (s _ _ h) (Told.same t s)
  | open_ h t => exact .open_ (s _ _ h) (Told.same t s)
/-- whether v is a tuple of one to three patterns -/
inductive PatsIs (H : Hp) : V → Bool → Prop
  | oth {v : V} {t : String} (k : Kn H v t) (n : t ≠ "tuple") : PatsIs H v false
  | len {a : Addr} {xs : List V} (h : H a = some (.tup xs)) (n : ¬ (1 ≤ xs.length ∧ xs.length ≤ 3)) : PatsIs H (.ref a) false
  | tup {a : Addr} {xs : List V} {f : Nat → Bool} (h : H a = some (.tup xs)) (lo : 1 ≤ xs.length) (hi : xs.length ≤ 3) (ps : ∀ i x, xs[i]? = some x → PatIs H x (f i)) : PatsIs H (.ref a) ((List.range xs.length).all f)
def sp_are_patterns : Sp := fun vs H Q _ => ∃ (v : V) (b : Bool), vs = [v] ∧ PatsIs H v b ∧ ∀ H', Same H H' → Q (.bl b) H'
end

section
variable {w : World} {K : PySem.W.Frag} {mg : Str → Option Value} {base : Heap}
abbrev wOpen : Str := Str.ofString "open"
abbrev wClosed : Str := Str.ofString "closed"
abbrev wTail : Str := Str.ofString "tail"
/-- the kinds of the patterns in a tuple -/
def Kds (H : Hp) (b : Addr) (ks : List Bool) : Prop := ∃ xs : List V, H b = some (.tup xs) ∧ xs.length = ks.length ∧ ∀ (i : Nat) (k : Bool), ks[i]? = some k → ∃ (a : Addr) (y : V), xs[i]? = some (.ref a) ∧ H a = some (.tup [.str (if k then wOpen else wClosed), y])
theorem Kds.same {H H' : Hp} {b : Addr} {ks : List Bool} (k : Kds H b ks) (s : Same H H') : Kds H' b ks := by
  obtain ⟨xs, h, l, f⟩ := k
  exact ⟨xs, s _ _ h, l, fun i k e => let ⟨a, y, e1, e2⟩ := f i k e; ⟨a, y, e1, s _ _ e2⟩⟩
def atK (ks : List Bool) : V → Bool
  | .int i => ks.getD i.toNat false
  | _ => false
/-- whether v is a result beside such patterns -/
inductive ResIs (H : Hp) (ks : List Bool) : V → Bool → Prop
  | oth {v : V} {t : String} (k : Kn H v t) (n : t ≠ "tuple") : ResIs H ks v false
  | emp {a : Addr} (h : H a = some (.tup [])) : ResIs H ks (.ref a) false
  | nostr {a : Addr} {x : V} {xs : List V} {t : String} (h : H a = some (.tup (x :: xs))) (k : Kn H x t) (n : t ≠ "str") : ResIs H ks (.ref a) false
  | odd {a : Addr} {z : Str} {xs : List V} (h : H a = some (.tup (.str z :: xs))) (n1 : ¬ (xs.length = 1 ∧ z = wClosed)) (n2 : ¬ (xs.length = 2 ∧ z = wTail)) : ResIs H ks (.ref a) false
  | closed {a : Addr} {y : V} {ys : List V} {b : Bool} (h : H a = some (.tup [.str wClosed, y])) (t : Told H y ys b) : ResIs H ks (.ref a) (b && namesV ys 1 5)
  | tail {a : Addr} {y u : V} {ys : List V} {b : Bool} {t : String} (h : H a = some (.tup [.str wTail, y, u])) (td : Told H y ys b) (k : Kn H u t) : ResIs H ks (.ref a) (b && namesV ys 0 3 && (inV3 u 0 ((ks.length : Int) - 1) && atK ks u))
def sp_is_result : Sp := fun vs H Q _ => ∃ (v : V) (p : Addr) (ks : List Bool) (b : Bool), vs = [v, .ref p] ∧ Kds H p ks ∧ ks.length ≤ 3 ∧ ResIs H ks v b ∧ ∀ H', Same H H' → Q (.bl b) H'
end

section
variable {w : World} {K : PySem.W.Frag} {mg : Str → Option Value} {base : Heap}
abbrev star : Str := Str.ofString "*"
/-- the text of names, with a star behind them or not -/
def sideT (o : Bool) (ws : List Str) : Str := Txt.join blank (ws ++ if o then [star] else [])
def szW (ws : List Str) : Nat := (ws.map (·.length)).sum + ws.length
def sp_text_of_side : Sp := fun vs H Q _ => ∃ (o : Bool) (b : Addr) (ws : List Str), vs = [.bl o, .ref b] ∧ H b = some (.tup (ws.map V.str)) ∧ szW ws ≤ 10000 ∧ ∀ H', Same H H' → Q (.str (sideT o ws)) H'
/-- whether words end with a star, and the others -/
def sideC (ws : List Str) : Bool × List Str := if ws.getLast? = some star then (true, ws.dropLast) else (false, ws)
def sp_side_of : Sp := fun vs H Q _ => ∃ (l : Addr) (ws : List Str), vs = [.ref l] ∧ H l = some (.lst (ws.map V.str)) ∧ (∀ w ∈ ws, Pl w) ∧ ws.length ≤ 10000 ∧ ∀ p b H', Same H H' → H' b = some (.tup ((sideC ws).2.map V.str)) → H' p = some (.tup [.bl (sideC ws).1, .ref b]) → Q (.ref p) H'
/-- a pattern at a -/
def ptA (H : Hp) (a : Addr) (o : Bool) (ws : List Str) : Prop := ∃ b, H a = some (.tup [.str (if o then wOpen else wClosed), .ref b]) ∧ H b = some (.tup (ws.map V.str))
theorem ptA.same {H H' : Hp} {a : Addr} {o : Bool} {ws : List Str} (h : ptA H a o ws) (s : Same H H') : ptA H' a o ws := let ⟨b, h1, h2⟩ := h; ⟨b, s _ _ h1, s _ _ h2⟩
def patC (z : Str) : Bool × List Str := sideC (Txt.split z blank)
def sp_pattern_of : Sp := fun vs H Q _ => ∃ (z : Str), vs = [.str z] ∧ Pl z ∧ z.length ≤ 9000 ∧ ∀ p H', Same H H' → ptA H' p (patC z).1 (patC z).2 → Q (.ref p) H'
/-- the index behind a star -/
def tailAt (z : Str) : Option Nat := if z = Str.ofString "*0" then some 0 else if z = Str.ofString "*1" then some 1 else if z = Str.ofString "*2" then some 2 else none
def resC (z : Str) : List Str × Option Nat := match tailAt ((Txt.split z blank).getLast?.getD none') with
  | some n => ((Txt.split z blank).dropLast, some n)
  | none => (Txt.split z blank, none)
/-- a result at a -/
def rsA (H : Hp) (a : Addr) (ws : List Str) (t : Option Nat) : Prop := ∃ b, H b = some (.tup (ws.map V.str)) ∧ H a = some (.tup (.str (if t.isSome then wTail else wClosed) :: .ref b :: t.toList.map fun n : Nat => V.int n))
theorem rsA.same {H H' : Hp} {a : Addr} {ws : List Str} {t : Option Nat} (h : rsA H a ws t) (s : Same H H') : rsA H' a ws t := let ⟨b, h1, h2⟩ := h; ⟨b, s _ _ h1, s _ _ h2⟩
def sp_result_of_text : Sp := fun vs H Q _ => ∃ (z : Str), vs = [.str z] ∧ Pl z ∧ z.length ≤ 9000 ∧ ∀ p H', Same H H' → rsA H' p (resC z).1 (resC z).2 → Q (.ref p) H'
end

set_option pp.maxSteps 2500

section
variable {w : World} {K : PySem.W.Frag} {mg : Str → Option Value} {base : Heap}
local macro_rules | `(tactic| walk_at "rdx") => `(tactic| ((try simp only [tFld, gTup, gStar, tJs, tFmt]); try walk_at "rd"))
theorem range_mapD {α β : Type} (d : α) (f : α → β) (l : List α) : ((List.range l.length).map fun i => f (l.getD i d)) = l.map f := by
  apply List.ext_getElem
  · simp
  · intro i h1 h2
    simp at h1
    simp [List.getD, List.getElem?_eq_getElem h1]
theorem mono_pair {i j : Nat} (x : V) (σ' : L2.St) (H' : Hp) (A B : L2.St → Hp → Prop) (h : ∀ s h, A s h → B s h) (q : gTup K 2 (gCons (gName i) (gCons (gName j) gNil)) x σ' H' A) : gTup K 2 (gCons (gName i) (gCons (gName j) gNil)) x σ' H' B := by
  obtain ⟨a, xs, e, hs, hl, v, r, e1, v2, r2, e2, e3, hA⟩ := q
  exact ⟨a, xs, e, hs, hl, v, r, e1, v2, r2, e2, e3, h _ _ hA⟩
theorem names_of {ws : List Str} {lo hi : Int} (h : namesV (ws.map V.str) lo hi = true) : (∀ w ∈ ws, isNm w = true) ∧ lo ≤ ws.length ∧ (ws.length : Int) ≤ hi := by
  unfold namesV at h
  simp only [Bool.and_eq_true, decide_eq_true_eq, List.length_map] at h
  refine ⟨fun w hw => ?_, h.1.1, h.1.2⟩
  exact List.all_eq_true.mp h.2 _ (List.mem_map_of_mem hw)
/-- what a candidate is made of -/
structure Cd where
  nm : Str
  ps : List (Bool × List Str)
  rs : List Str × Option Nat
deriving DecidableEq
def ptOk (p : Bool × List Str) : Bool := if p.1 then namesV (p.2.map V.str) 0 3 else namesV (p.2.map V.str) 1 5
def rsOk (ps : List (Bool × List Str)) (r : List Str × Option Nat) : Bool := match r.2 with
  | none => namesV (r.1.map V.str) 1 5
  | some n => namesV (r.1.map V.str) 0 3 && ((ps.map (·.1)).getD n false)
/-- a candidate, by its parts -/
structure CdOk (c : Cd) : Prop where
  nm : isNm c.nm = true
  lo : 1 ≤ c.ps.length
  hi : c.ps.length ≤ 3
  pt : ∀ p ∈ c.ps, ptOk p = true
  rs : rsOk c.ps c.rs = true
/-- the patterns at a -/
def ptsA (H : Hp) (a : Addr) (ps : List (Bool × List Str)) : Prop := ∃ xs, H a = some (.tup xs) ∧ xs.length = ps.length ∧ ∀ (i : Nat) p, ps[i]? = some p → ∃ b, xs[i]? = some (.ref b) ∧ ptA H b p.1 p.2
theorem ptsA.same {H H' : Hp} {a : Addr} {ps : List (Bool × List Str)} (h : ptsA H a ps) (s : Same H H') : ptsA H' a ps := by
  obtain ⟨xs, h1, h2, h3⟩ := h
  exact ⟨xs, s _ _ h1, h2, fun i p e => let ⟨b, e1, e2⟩ := h3 i p e; ⟨b, e1, e2.same s⟩⟩
/-- the candidate c at a -/
structure CdA (H : Hp) (C a : Addr) (c : Cd) (dx pa ra ka : Addr) (fs : List (Str × V)) : Prop where
  at_ : H a = some (.ins C dx fs)
  f1 : fs.lookup ("own_name" : Str) = some (.str c.nm)
  f2 : fs.lookup ("own_patterns" : Str) = some (.ref pa)
  f3 : fs.lookup ("own_result" : Str) = some (.ref ra)
  f4 : fs.lookup ("own_key" : Str) = some (.ref ka)
  ps : ptsA H pa c.ps
  rs : rsA H ra c.rs.1 c.rs.2
  ky : H ka = some (.tup [.str c.nm, .ref pa, .ref ra])
theorem CdA.same {H H' : Hp} {C a dx pa ra ka : Addr} {c : Cd} {fs : List (Str × V)} (h : CdA H C a c dx pa ra ka fs) (s : Same H H') : CdA H' C a c dx pa ra ka fs := ⟨s _ _ h.at_, h.f1, h.f2, h.f3, h.f4, h.ps.same s, h.rs.same s, s _ _ h.ky⟩
def Cnd (H : Hp) (C a : Addr) (c : Cd) : Prop := ∃ dx pa ra ka fs, CdA H C a c dx pa ra ka fs
theorem Cnd.same {H H' : Hp} {C a : Addr} {c : Cd} (h : Cnd H C a c) (s : Same H H') : Cnd H' C a c := let ⟨dx, pa, ra, ka, fs, x⟩ := h; ⟨dx, pa, ra, ka, fs, x.same s⟩
abbrev comma : Str := Str.ofString ", "
def patsT (ps : List (Bool × List Str)) : Str := Txt.join comma (ps.map fun p => sideT p.1 p.2)
def numT (n : Nat) : Str := Str.ofString (toString (n : Int))
def endT (r : List Str × Option Nat) : Str := sideT r.2.isSome r.1 ++ Txt.join none' (r.2.toList.map numT)
def lineT (c : Cd) : Str := Str.empty ++ c.nm ++ Str.ofString "(" ++ patsT c.ps ++ Str.ofString ") gives " ++ endT c.rs
theorem ptOk_sz {p : Bool × List Str} (h : ptOk p = true) : (∀ w ∈ p.2, isNm w = true) ∧ p.2.length ≤ 5 := by
  unfold ptOk at h
  split at h
  · have := names_of h
    exact ⟨this.1, by omega⟩
  · have := names_of h
    exact ⟨this.1, by omega⟩
def sp_line_of_candidate (C : Addr) : Sp := fun vs H Q _ => ∃ (a : Addr) (c : Cd), vs = [.ref a] ∧ Cnd H C a c ∧ CdOk c ∧ ∀ H', Same H H' → Q (.str (lineT c)) H'
end

local macro_rules | `(tactic| walk_at "rdx") => `(tactic| ((try simp only [tFld, gTup, gStar, tJs, tFmt, sFld]); try walk_at "rd"))
section
variable {w : World} {K : PySem.W.Frag} {mg : Str → Option Value} {base : Heap}
/-! ### as data -/
def ptD (p : Bool × List Str) : PyData := .tuple [.str (if p.1 then wOpen else wClosed), dS p.2]
def rsD (r : List Str × Option Nat) : PyData := .tuple (.str (if r.2.isSome then wTail else wClosed) :: dS r.1 :: r.2.toList.map fun n : Nat => .int n)
def cdD (c : Cd) : PyData := .tuple [.str c.nm, .tuple (c.ps.map ptD), rsD c.rs]
/-- a tuple of the parts of a candidate -/
def cdT (H : Hp) (a : Addr) (c : Cd) : Prop := ∃ pa ra, H a = some (.tup [.str c.nm, .ref pa, .ref ra]) ∧ ptsA H pa c.ps ∧ rsA H ra c.rs.1 c.rs.2
theorem cdT.same {H H' : Hp} {a : Addr} {c : Cd} (h : cdT H a c) (s : Same H H') : cdT H' a c := let ⟨pa, ra, h1, h2, h3⟩ := h; ⟨pa, ra, s _ _ h1, h2.same s, h3.same s⟩
end

local macro_rules | `(tactic| walk_at "rdx") => `(tactic| ((try simp only [tFld, gTup, gStar, tJs, tFmt, sFld]); try walk_at "rd"))
section
variable {w : World} {K : PySem.W.Frag} {mg : Str → Option Value} {base : Heap}
theorem Tx.tyC (T : Tx K mg) {H : Hp} {a dx : Addr} {fs : List (Str × V)} (h : H a = some (.ins T.C_Candidate dx fs)) : TyX K H (.ref a) (.ref T.C_Candidate) := .base (.ins h T.cl_Candidate T.ha_Candidate T.hn_Candidate T.ht_Candidate T.ob_Candidate)
theorem CdA.t {H : Hp} {C a dx pa ra ka : Addr} {c : Cd} {fs : List (Str × V)} (h : CdA H C a c dx pa ra ka fs) : cdT H ka c := ⟨pa, ra, h.ky, h.ps, h.rs⟩
/-- the object at x is made: its fields stand there, all else stays -/
def Made (H H' : Hp) (C x dx : Addr) (n p r : V) : Prop := ∃ ka fs, (∀ b o, b ≠ x → H b = some o → H' b = some o) ∧ H' x = some (.ins C dx fs) ∧ fs.lookup ("own_name" : Str) = some n ∧ fs.lookup ("own_patterns" : Str) = some p ∧ fs.lookup ("own_result" : Str) = some r ∧ fs.lookup ("own_key" : Str) = some (.ref ka) ∧ H' ka = some (.tup [n, p, r])
def spx_init (CW CL C : Addr) : Sp := fun vs H Q E => ∃ (x dx : Addr) (n p r : V) (t : String), vs = [.ref x, n, p, r] ∧ H x = some (.ins C dx []) ∧ Kn H n t ∧ (∀ z, n = .str z → z.length ≤ sizeLine) ∧
  (nameV n = false → ∀ H', Same H H' → E (.ref CW) none H') ∧ (nameV n = true → ∃ b, PatsIs H p b ∧ (b = false → ∀ H', Same H H' → E (.ref CL) none H') ∧
    (b = true → ∃ pa ks b', p = .ref pa ∧ Kds H pa ks ∧ ks.length ≤ 3 ∧ ResIs H ks r b' ∧ (b' = false → ∀ H', Same H H' → E (.ref CL) none H') ∧ (b' = true → ∀ H', Made H H' C x dx n p r → Q .non H')))
theorem ResIs.same {H H' : Hp} {ks : List Bool} {v : V} {b : Bool} (r : ResIs H ks v b) (s : Same H H') : ResIs H' ks v b := by
  cases r with
  | oth k n => exact .oth (k.same s) n
  | emp h => exact .emp (s _ _ h)
  | nostr h k n => exact .nostr (s _ _ h) (k.same s) n
  | odd h n1 n2 => exact .odd (s _ _ h) n1 n2
  | closed h t => exact .closed (s _ _ h) (Told.same t s)
  | tail h t k => exact .tail (s _ _ h) (Told.same t s) (k.same s)
theorem PatsIs.same {H H' : Hp} {v : V} {b : Bool} (r : PatsIs H v b) (s : Same H H') : PatsIs H' v b := by
  cases r with
  | oth k n => exact .oth (k.same s) n
  | len h n => exact .len (s _ _ h) n
  | tup h lo hi ps => exact .tup (s _ _ h) lo hi fun i x e => (ps i x e).same s
/-! ### a candidate is made -/
theorem told_st {H : Hp} {b : Addr} {ws : List Str} (h : H b = some (.tup (ws.map V.str))) (n : ∀ w ∈ ws, w.length ≤ 100000) : Told H (.ref b) (ws.map V.str) true := by
  refine .tup h (fun x hx => ?_) (fun y hy => ?_)
  · obtain ⟨z, _, rfl⟩ := List.mem_map.mp hx
    exact ⟨_, .str z⟩
  · obtain ⟨z, hz, e⟩ := List.mem_map.mp hy
    cases e
    exact sz100 (n _ hz)
theorem nm_sz {ws : List Str} (n : ∀ w ∈ ws, isNm w = true) : ∀ w ∈ ws, w.length ≤ 100000 := fun w h => by have := isNm_len (n w h); omega
theorem ptA.is {H : Hp} {a : Addr} {p : Bool × List Str} (h : ptA H a p.1 p.2) (n : ∀ w ∈ p.2, w.length ≤ 100000) : PatIs H (.ref a) (ptOk p) := by
  obtain ⟨b, h1, h2⟩ := h
  obtain ⟨o, ws⟩ := p
  cases o with
  | true => exact .open_ h1 (told_st h2 n)
  | false => exact .closed h1 (told_st h2 n)
theorem ptsA.is {H : Hp} {a : Addr} {ps : List (Bool × List Str)} (h : ptsA H a ps) (lo : 1 ≤ ps.length) (hi : ps.length ≤ 3) (n : ∀ p ∈ ps, ∀ w ∈ p.2, w.length ≤ 100000) : PatsIs H (.ref a) ((List.range ps.length).all fun i => ptOk (ps.getD i (false, []))) := by
  obtain ⟨xs, h1, h2, h3⟩ := h
  rw [← h2]
  refine .tup h1 (by omega) (by omega) fun i x hx => ?_
  have hi' : i < ps.length := by
    rw [← h2]
    exact (List.getElem?_eq_some_iff.mp hx).1
  have e : ps[i]? = some ps[i] := List.getElem?_eq_getElem hi'
  obtain ⟨b, e1, e2⟩ := h3 i _ e
  rw [hx] at e1
  cases e1
  have := e2.is (n _ (List.getElem_mem hi'))
  simp only [List.getD, e, Option.getD_some]
  exact this
theorem all_range {α : Type} (d : α) (f : α → Bool) (l : List α) : ((List.range l.length).all fun i => f (l.getD i d)) = l.all f := by
  have h := range_mapD d f l
  have h2 : ((List.range l.length).map fun i => f (l.getD i d)).all id = (l.map f).all id := by rw [h]
  rw [List.all_map, List.all_map] at h2
  exact h2
theorem ptsA.ok {H : Hp} {a : Addr} {c : Cd} (h : ptsA H a c.ps) (ok : CdOk c) : PatsIs H (.ref a) true := by
  have h1 := h.is ok.lo ok.hi fun p hp => nm_sz (ptOk_sz (ok.pt p hp)).1
  rw [all_range, List.all_eq_true.mpr ok.pt] at h1
  exact h1
theorem int_small {m : Nat} (h : m < 3) : intV (.int m) = true := by
  match m, h with
  | 0, _ => decide +kernel
  | 1, _ => decide +kernel
  | 2, _ => decide +kernel
theorem rsA.is {H : Hp} {a : Addr} {ps : List (Bool × List Str)} {r : List Str × Option Nat} (h : rsA H a r.1 r.2) (n : ∀ w ∈ r.1, w.length ≤ 100000) (hp : ps.length ≤ 3) : ResIs H (ps.map (·.1)) (.ref a) (rsOk ps r) := by
  obtain ⟨b, h1, h2⟩ := h
  obtain ⟨ws, t⟩ := r
  cases t with
  | none => exact .closed h2 (told_st h1 n)
  | some m =>
    have h3 : ResIs H (ps.map (·.1)) (.ref a) (true && namesV (ws.map V.str) 0 3 && (inV3 (.int m) 0 (((ps.map (·.1)).length : Int) - 1) && atK (ps.map (·.1)) (.int m))) := .tail h2 (told_st h1 n) (.int _)
    have e : (true && namesV (ws.map V.str) 0 3 && (inV3 (.int m) 0 (((ps.map (·.1)).length : Int) - 1) && atK (ps.map (·.1)) (.int m))) = rsOk ps (ws, some m) := by
      unfold rsOk
      show _ = (namesV (ws.map V.str) 0 3 && (ps.map (·.1)).getD m false)
      rw [Bool.true_and]
      refine congrArg (fun z => namesV (ws.map V.str) 0 3 && z) ?_
      show (inV3 (.int m) 0 (((ps.map (·.1)).length : Int) - 1) && (ps.map (·.1)).getD m false) = _
      by_cases hm : m < ps.length
      · have : inV3 (.int m) 0 (((ps.map (·.1)).length : Int) - 1) = true := by
          show (intV (.int m) && (decide ((0 : Int) ≤ m) && decide ((m : Int) ≤ ((ps.map (·.1)).length : Int) - 1))) = true
          rw [List.length_map, decide_eq_true (by omega), decide_eq_true (by omega), Bool.and_true, Bool.and_true]
          exact int_small (by omega)
        rw [this, Bool.true_and]
      · rw [List.getD, List.getElem?_eq_none (by rw [List.length_map]; omega)]
        simp
    rw [e] at h3
    exact h3
end

local macro_rules | `(tactic| walk_at "rdx") => `(tactic| ((try simp only [tFld, gTup, gStar, tJs, tFmt, sFld, tMake]); try walk_at "rd"))
section
variable {w : World} {K : PySem.W.Frag} {mg : Str → Option Value} {base : Heap}
abbrev brack : Str := Str.ofString "("
abbrev gives : Str := Str.ofString ") gives "
/-- what a line would be -/
def readC (z : Str) : Cd := ⟨(Txt.partition z brack).1, (Txt.split (Txt.partition (Txt.partition z brack).2.2 gives).1 comma).map patC, resC (Txt.partition (Txt.partition z brack).2.2 gives).2.2⟩
def cdOk (c : Cd) : Bool := isNm c.nm && (decide (1 ≤ c.ps.length ∧ c.ps.length ≤ 3) && c.ps.all ptOk) && rsOk c.ps c.rs
/-- the candidate with a line -/
def parseC (z : Str) : Option Cd := if cdOk (readC z) = true ∧ lineT (readC z) = z then some (readC z) else none
def sp_candidate_of (K : PySem.W.Frag) (C : Addr) : Sp := fun vs H Q _ => ∃ v, vs = [v] ∧ ((∃ t, TyX K H v t ∧ PySem.W.kitOne K t (.type "str") = some false ∧ Q .non H) ∨
  ∃ z, v = .str z ∧ Pl z ∧ z.length ≤ 9000 ∧ (parseC z = none → ∀ H', Same H H' → Q .non H') ∧ ∀ c, parseC z = some c → ∀ x H', Same H H' → Cnd H' C x c → Q (.ref x) H')
end

local macro_rules | `(tactic| walk_at "rdx") => `(tactic| ((try simp only [tFld, gTup, gStar, tJs, tFmt, sFld, tMake, tMakeL]); try walk_at "rd"))
section
variable {w : World} {K : PySem.W.Frag} {mg : Str → Option Value} {base : Heap}
/-- the dict of ParseError(None) -/
abbrev PN : HO := .xd [(("line" : Str), .non)]
/-- no text -/
def NoStr (K : PySem.W.Frag) (H : Hp) (v : V) : Prop := ∃ t, TyX K H v t ∧ PySem.W.kitOne K t (.type "str") = some false
end

local macro_rules | `(tactic| walk_at "rdx") => `(tactic| ((try simp only [tFld, gTup, gStar, tJs, tFmt, sFld]); try walk_at "rd"))
section
variable {w : World} {K : PySem.W.Frag} {mg : Str → Option Value} {base : Heap}
abbrev wDrop : Str := Str.ofString "drop"
inductive Kd where
  | closed
  | open_
  | drop
deriving DecidableEq
def wK : Kd → Str
  | .closed => wClosed
  | .open_ => wOpen
  | .drop => wDrop
/-- a conversion -/
structure Cv where
  kd : Kd
  lf : List Str
  rt : List Str
  rk : Nat
deriving DecidableEq
def sidesV (k : Kd) (b1 b2 : Bool) (xs ys : List V) : Bool := match k with
  | .closed => b1 && namesV xs 1 5 && (b2 && namesV ys 1 5 && !decide (xs = ys))
  | .open_ => b1 && namesV xs 0 2 && (b2 && namesV ys 0 3 && !decide (xs = ys))
  | .drop => b1 && namesV xs 0 2 && (b2 && namesV ys 1 5)
theorem namesV_str {xs : List V} {lo hi : Int} (h : namesV xs lo hi = true) : ∃ ws : List Str, xs = ws.map V.str ∧ ∀ w ∈ ws, isNm w = true := by
  unfold namesV at h
  rw [Bool.and_eq_true] at h
  have h2 := List.all_eq_true.mp h.2
  clear h
  induction xs with
  | nil => exact ⟨[], rfl, (fun w hw => nomatch hw)⟩
  | cons x xs ih =>
    obtain ⟨ws, e, n⟩ := ih fun y hy => h2 y (.tail _ hy)
    have hx := h2 x (.head _)
    cases x with
    | str z => exact ⟨z :: ws, by rw [e]; rfl, fun w hw => (List.mem_cons.mp hw).elim (fun q => q ▸ hx) fun q => n w q⟩
    | _ => cases hx
theorem told_at {H : Hp} {v : V} {xs : List V} (t : Told H v xs true) : ∃ a, v = .ref a ∧ H a = some (.tup xs) := by
  generalize hb : true = b at t
  cases t with
  | tup h k z => exact ⟨_, rfl, h⟩
  | oth k n => cases hb
theorem iteP {c A B : Prop} [Decidable c] (h : c) (a : A) : if c then A else B := by
  rw [if_pos h]
  exact a
theorem iteN {c A B : Prop} [Decidable c] (h : ¬ c) (b : B) : if c then A else B := by
  rw [if_neg h]
  exact b
theorem str_inj : Function.Injective V.str := fun a b h => by injection h
theorem strs_eq {ws us : List Str} : decide (ws.map V.str = us.map V.str) = decide (ws = us) := by
  by_cases h : ws = us
  · rw [h]
    simp
  · rw [decide_eq_false h, decide_eq_false]
    exact fun e => h ((List.map_inj_right fun _ _ q => str_inj q).mp e)
/-- whether v is a conversion -/
inductive CvIs (H : Hp) : V → Bool → Prop
  | oth {v : V} {t : String} (k : Kn H v t) (n : t ≠ "tuple") : CvIs H v false
  | len {a : Addr} {xs : List V} (h : H a = some (.tup xs)) (n : xs.length ≠ 4) (z : xs.length ≤ 1000) : CvIs H (.ref a) false
  | rank {a : Addr} {x y z u : V} {t : String} (h : H a = some (.tup [x, y, z, u])) (k : Kn H u t) (n : inV3 u 1 9 = false) : CvIs H (.ref a) false
  | nostr {a : Addr} {x y z u : V} {t t2 : String} (h : H a = some (.tup [x, y, z, u])) (k : Kn H u t) (k2 : Kn H x t2) (n : t2 ≠ "str") : CvIs H (.ref a) false
  | word {a : Addr} {y z u : V} {t : String} {x : Str} (h : H a = some (.tup [.str x, y, z, u])) (k : Kn H u t) (n : ∀ k, x ≠ wK k) : CvIs H (.ref a) false
  | sides {a : Addr} {kd : Kd} {y z u : V} {ys zs : List V} {b1 b2 : Bool} {t : String} (h : H a = some (.tup [.str (wK kd), y, z, u])) (k : Kn H u t) (t1 : Told H y ys b1) (t2 : Told H z zs b2) : CvIs H (.ref a) (inV3 u 1 9 && sidesV kd b1 b2 ys zs)
def sp_is_conversion : Sp := fun vs H Q _ => ∃ (v : V) (b : Bool), vs = [v] ∧ CvIs H v b ∧ ∀ H', Same H H' → Q (.bl b) H'
theorem ok_is_conversion (T : Tx K mg) : FnOk P w K mg base CX0 3 T.f_is_conversion T.d_is_conversion ["value"] sp_is_conversion := by
  refine T.F_is_conversion.ok sc_is_conversion (fun vs H Q E h => ?_) (fun cdv A outer s H vs Q E hr h => ?_)
  · obtain ⟨v, b, rfl, _⟩ := h
    rfl
  · obtain ⟨v, b, rfl, k, q⟩ := h
    refine ⟨_, (pss_cons (ps_if (PW.pt (pw_or (pt_not (pt_val (pe_callB call_isi (by rfl) T.n_isinstance (by decide +kernel) (pa_cons (pv 0) (pa_cons (pe_bltn (v := .ty "tuple") (by rfl) T.n_tuple (by decide +kernel) rfl) pa_nil))))) (pw_or (pt_cmpR op_ne (pe_callB call_lenQ (by rfl) T.n_len (by decide +kernel) (pa_cons (pv 0) pa_nil)) pe_int (nomark _)) (pw_or1 (pt_not (pt_val (pe_call (ok_is_integer_within T) (hr.mono (by decide)) (by rfl) T.g_is_integer_within T.F_is_integer_within.kp T.b_is_integer_within .nil pass0 (pa_cons (pe_ix ix_tup (pv 0) pe_int (fun _ _ => rfl)) (pa_cons pe_int (pa_cons (pe_glob (v := .int (9)) (by rfl) T.m_MAX_RANK ⟨_, rfl⟩) pa_nil)))))))))) (pss_one (ps_ret pe_bl)) pss_nil)
      (pss_cons (ps_asg (pe_slice sl_tupA (pv 0) po_none (po_some pe_int)) (pg_tup (n := 3) rfl (pgs_cons (pg_name (i := 1) sc_is_conversion.nd rfl (Or.inl rfl)) (pgs_cons (pg_name (i := 2) sc_is_conversion.nd rfl (Or.inl rfl)) (pgs_cons (pg_name (i := 3) sc_is_conversion.nd rfl (Or.inl rfl)) pgs_nil)))))
      (pss_cons (ps_if (pt_not (pt_val (pe_callB call_isi (by rfl) T.n_isinstance (by decide +kernel) (pa_cons (pv 1) (pa_cons (pe_bltn (v := .ty "str") (by rfl) T.n_str (by decide +kernel) rfl) pa_nil))))) (pss_one (ps_ret pe_bl)) pss_nil)
      (pss_cons (ps_if (pt_cmpR op_eq (pv 1) pe_str (nomark _)) (pss_one (ps_ret (pe_and (pe_call (ok_is_names T) (hr.mono (by decide)) (by rfl) T.g_is_names T.F_is_names.kp T.b_is_names .nil pass0 (pa_cons (pv 2) (pa_cons pe_int (pa_cons (pe_glob (v := .int (5)) (by rfl) T.m_MAX_NAMES ⟨_, rfl⟩) pa_nil)))) (pe_and (pe_call (ok_is_names T) (hr.mono (by decide)) (by rfl) T.g_is_names T.F_is_names.kp T.b_is_names .nil pass0 (pa_cons (pv 3) (pa_cons pe_int (pa_cons (pe_glob (v := .int (5)) (by rfl) T.m_MAX_NAMES ⟨_, rfl⟩) pa_nil)))) (pe_one (pe_cmpR (op_neD hr.units) (pv 2) (pv 3) (nomark _))))))) pss_nil)
      (pss_cons (ps_if (pt_cmpR op_eq (pv 1) pe_str (nomark _)) (pss_one (ps_ret (pe_and (pe_call (ok_is_names T) (hr.mono (by decide)) (by rfl) T.g_is_names T.F_is_names.kp T.b_is_names .nil pass0 (pa_cons (pv 2) (pa_cons pe_int (pa_cons (pe_glob (v := .int (2)) (by rfl) T.m_MAX_LEFT ⟨_, rfl⟩) pa_nil)))) (pe_and (pe_call (ok_is_names T) (hr.mono (by decide)) (by rfl) T.g_is_names T.F_is_names.kp T.b_is_names .nil pass0 (pa_cons (pv 3) (pa_cons pe_int (pa_cons (pe_glob (v := .int (3)) (by rfl) T.m_MAX_FRONT ⟨_, rfl⟩) pa_nil)))) (pe_one (pe_cmpR (op_neD hr.units) (pv 2) (pv 3) (nomark _))))))) pss_nil)
      (pss_one (ps_ret (pe_and (pe_cmpR op_eq (pv 1) pe_str (nomark _)) (pe_and (pe_call (ok_is_names T) (hr.mono (by decide)) (by rfl) T.g_is_names T.F_is_names.kp T.b_is_names .nil pass0 (pa_cons (pv 2) (pa_cons pe_int (pa_cons (pe_glob (v := .int (2)) (by rfl) T.m_MAX_LEFT ⟨_, rfl⟩) pa_nil)))) (pe_one (pe_call (ok_is_names T) (hr.mono (by decide)) (by rfl) T.g_is_names T.F_is_names.kp T.b_is_names .nil pass0 (pa_cons (pv 3) (pa_cons pe_int (pa_cons (pe_glob (v := .int (5)) (by rfl) T.m_MAX_NAMES ⟨_, rfl⟩) pa_nil)))))))))))))), ?_⟩
    walk_at "rd"
    cases k with
    | oth k n =>
      refine isi_kn k (kit_ntup k n) ?_
      walk_at "rd"
      exact q _ (Same.refl _)
    | @len a xs h n z =>
      walk_at "isi"
      walk_at "rd"
      refine lenT (sqt_of h) ⟨rfl, ?_⟩
      rw [decide_eq_false (fun e => n (by injection e with e; omega))]
      exact iteT (q _ (Same.refl _))
    | @rank a x y z u t h k n =>
      walk_at "isi"
      walk_at "rd"
      refine lenT (sqt_of h) ⟨rfl, iteF (ixt_nat (j := 3) (sqt_of h) rfl ⟨_, _, _, _, rfl, k, ?_⟩)⟩
      walk_at "rd"
      rw [n]
      walk_at "rd"
      exact q _ (Same.refl _)
    | @nostr a x y z u t t2 h k k2 n =>
      walk_at "isi"
      walk_at "rd"
      refine lenT (sqt_of h) ⟨rfl, iteF (ixt_nat (j := 3) (sqt_of h) rfl ⟨_, _, _, _, rfl, k, ?_⟩)⟩
      walk_at "rd"
      refine ite2 (fun h1 => q _ (Same.refl _)) (fun h1 => ?_)
      walk_at "rdx"
      refine slT h fun p H1 s1 hp => ⟨p, rfl, _, (show SqT K H1 p [x, y, z] from sqt_of hp), rfl, _, _, rfl, _, _, rfl, _, _, rfl, rfl, isi_kn (k2.same s1) (kit_nstr k2 n) ?_⟩
      walk_at "rd"
      exact q _ s1
    | @word a y z u t x h k n =>
      walk_at "isi"
      walk_at "rd"
      refine lenT (sqt_of h) ⟨rfl, iteF (ixt_nat (j := 3) (sqt_of h) rfl ⟨_, _, _, _, rfl, k, ?_⟩)⟩
      walk_at "rd"
      refine ite2 (fun h1 => q _ (Same.refl _)) (fun h1 => ?_)
      walk_at "rdx"
      refine slT h fun p H1 s1 hp => ⟨p, rfl, _, (show SqT K H1 p [.str x, y, z] from sqt_of hp), rfl, _, _, rfl, _, _, rfl, _, _, rfl, rfl, ?_⟩
      walk_at "isi"
      walk_at "rd"
      refine ⟨rfl, ?_⟩
      rw [decide_eq_false (show ¬ x = Str.ofString "closed" from n .closed)]
      refine iteF ⟨rfl, ?_⟩
      rw [decide_eq_false (show ¬ x = Str.ofString "open" from n .open_)]
      refine iteF ⟨rfl, ?_⟩
      rw [decide_eq_false (show ¬ x = Str.ofString "drop" from n .drop)]
      exact iteF (q _ s1)
    | @sides a kd y z u ys zs b1 b2 t h k t1 t2 =>
      walk_at "isi"
      walk_at "rd"
      refine lenT (sqt_of h) ⟨rfl, iteF (ixt_nat (j := 3) (sqt_of h) rfl ⟨_, _, _, _, rfl, k, ?_⟩)⟩
      walk_at "rd"
      refine ite2 (fun h1 => ?_) (fun h1 => ?_)
      · have e : inV3 u 1 9 = false := by simpa using h1
        rw [e, Bool.false_and] at q
        exact q _ (Same.refl _)
      have e : inV3 u 1 9 = true := by simpa using h1
      rw [e, Bool.true_and] at q
      clear h1 e
      walk_at "rdx"
      refine slT h fun p H1 s1 hp => ⟨p, rfl, _, (show SqT K H1 p [.str (wK kd), y, z] from sqt_of hp), rfl, _, _, rfl, _, _, rfl, _, _, rfl, rfl, ?_⟩
      walk_at "isi"
      walk_at "rd"
      have q1 : ∀ H', Same H1 H' → Q (.bl (sidesV kd b1 b2 ys zs)) H' := fun H' s => q H' (s1.trans s)
      have ne : ∀ (H' : Hp) (lo hi lo' hi' : Int) (R : VK), Same H1 H' → (b1 && namesV ys lo hi) = true → (b2 && namesV zs lo' hi') = true → R (.bl (!decide (ys = zs))) H' → rNeD K y z H' R := by
        intro H' lo hi lo' hi' R s' e1 e2 r
        rw [Bool.and_eq_true] at e1 e2
        obtain ⟨ws, rfl, nw⟩ := namesV_str e1.2
        obtain ⟨us, rfl, nu⟩ := namesV_str e2.2
        have r' : R (.bl (!decide (ws = us))) H' := by
          rw [strs_eq] at r
          exact r
        have e1' := e1.1
        have e2' := e2.1
        subst e1' e2'
        obtain ⟨a1, rfl, h1⟩ := told_at t1
        obtain ⟨a2, rfl, h2⟩ := told_at t2
        exact neT (sqt_of (s' _ _ (s1 _ _ h1))) (sqt_of (s' _ _ (s1 _ _ h2))) (fun w hw => pl_of (nw w hw)) (fun w hw => pl_of (nu w hw)) r'
      cases kd with
      | closed =>
        refine ⟨rfl, iteP (by decide) ⟨y, ys, b1, 1, 5, rfl, by decide, Told.same t1 s1, fun H2 s2 => ?_⟩⟩
        walk_at "rd"
        have q2 : ∀ H', Same H1 H' → Q (.bl (b1 && namesV ys 1 5 && (b2 && namesV zs 1 5 && !decide (ys = zs)))) H' := q1
        refine ite2 (fun e1 => ?_) (fun e1 => ?_)
        · refine ⟨z, zs, b2, 1, 5, rfl, by decide, Told.same t2 (s1.trans s2), fun H3 s3 => ?_⟩
          walk_at "rd"
          refine ite2 (fun e2 => ne _ 1 5 1 5 _ (s2.trans s3) e1 e2 ?_) (fun e2 => ?_)
          · have := q2 _ (s2.trans s3)
            rw [e1, e2, Bool.true_and, Bool.true_and] at this
            exact this
          · have := q2 _ (s2.trans s3)
            rw [Bool.not_eq_true] at e2
            rw [e2, Bool.false_and, Bool.and_false] at this
            exact this
        · have := q2 _ s2
          rw [Bool.not_eq_true] at e1
          rw [e1, Bool.false_and] at this
          exact this
      | open_ =>
        refine ⟨rfl, iteN (by decide) ⟨rfl, iteP (by decide) ⟨y, ys, b1, 0, 2, rfl, by decide, Told.same t1 s1, fun H2 s2 => ?_⟩⟩⟩
        walk_at "rd"
        have q2 : ∀ H', Same H1 H' → Q (.bl (b1 && namesV ys 0 2 && (b2 && namesV zs 0 3 && !decide (ys = zs)))) H' := q1
        refine ite2 (fun e1 => ?_) (fun e1 => ?_)
        · refine ⟨z, zs, b2, 0, 3, rfl, by decide, Told.same t2 (s1.trans s2), fun H3 s3 => ?_⟩
          walk_at "rd"
          refine ite2 (fun e2 => ne _ 0 2 0 3 _ (s2.trans s3) e1 e2 ?_) (fun e2 => ?_)
          · have := q2 _ (s2.trans s3)
            rw [e1, e2, Bool.true_and, Bool.true_and] at this
            exact this
          · have := q2 _ (s2.trans s3)
            rw [Bool.not_eq_true] at e2
            rw [e2, Bool.false_and, Bool.and_false] at this
            exact this
        · have := q2 _ s2
          rw [Bool.not_eq_true] at e1
          rw [e1, Bool.false_and] at this
          exact this
      | drop =>
        have q2 : ∀ H', Same H1 H' → Q (.bl (b1 && namesV ys 0 2 && (b2 && namesV zs 1 5))) H' := q1
        refine ⟨rfl, iteN (by decide) ⟨rfl, iteN (by decide) ⟨rfl, iteP (by decide) ⟨y, ys, b1, 0, 2, rfl, by decide, Told.same t1 s1, fun H2 s2 => ?_⟩⟩⟩⟩
        walk_at "rd"
        refine ite2 (fun e1 => ⟨z, zs, b2, 1, 5, rfl, by decide, Told.same t2 (s1.trans s2), fun H3 s3 => ?_⟩) (fun e1 => ?_)
        · have := q2 _ (s2.trans s3)
          rw [e1, Bool.true_and] at this
          exact this
        · have := q2 _ s2
          rw [Bool.not_eq_true] at e1
          rw [e1, Bool.false_and] at this
          exact this
end

local macro_rules | `(tactic| walk_at "rdx") => `(tactic| ((try simp only [tFld, gTup, gStar, tJs, tFmt, sFld]); try walk_at "rd"))
section
variable {w : World} {K : PySem.W.Frag} {mg : Str → Option Value} {base : Heap}
def ascB (ws : List Str) : Bool := (ws.zip ws.tail).all fun p => decide (p.1.cps.toList < p.2.cps.toList)
def sp_is_ascending : Sp := fun vs H Q _ => ∃ (a : Addr) (ws : List Str), vs = [.ref a] ∧ H a = some (.tup (ws.map V.str)) ∧ ws.length ≤ 1000 ∧ ∀ H', Same H H' → Q (.bl (ascB ws)) H'
theorem ok_is_ascending (T : Tx K mg) : FnOk P w K mg base CX0 1 T.f_is_ascending T.d_is_ascending ["values"] sp_is_ascending := by
  refine T.F_is_ascending.ok sc_is_ascending (fun vs H Q E h => ?_) (fun cdv A outer s H vs Q E hr h => ?_)
  · obtain ⟨a, ws, rfl, _⟩ := h
    rfl
  · obtain ⟨a, ws, rfl, ha, hl, q⟩ := h
    refine ⟨_, (pss_one (ps_ret (pe_callB (cr_all rfl) (by rfl) T.n_all (by decide +kernel) (pa_cons (pe_lc (own := [("one", 1), ("other", 2)]) (g := gTup K 2 (gCons (gName 1) (gCons (gName 2) gNil))) (by rfl) sc_is_ascending.nd (RZ.pi_zipA (by rfl) T.n_zip (pa_cons (pv 0) (pa_cons (pe_slice sl_tupA (pv 0) (po_some pe_int) po_none) pa_nil))) (blkOk_by (own := [("one", 1), ("other", 2)]) (N := ["values", "one", "other"]) (sc := defScope s_is_ascending) (by decide +kernel)) (fun _ _ _ _ _ => (pg_tup (n := 2) rfl (pgs_cons (pg_name (i := 1) sc_is_ascending.nd rfl (Or.inl rfl)) (pgs_cons (pg_name (i := 2) sc_is_ascending.nd rfl (Or.inl rfl)) pgs_nil)))) (fun _ _ _ _ _ => pts_nil) (fun _ _ _ _ _ => (pe_cmpR op_lt_str (pv 1) (pv 2) (nomark _)))) pa_nil)))), ?_⟩
    walk_at "rd"
    simp only [RZ.iZipA]
    walk_at "rd"
    refine slFrom 1 ha fun p H1 s1 hp => ⟨p, rfl, _, _, .inr ⟨sqt_of (s1 _ _ ha), sqt_of hp, ?_⟩⟩
    have hz : (ws.drop 1).length = ws.length - 1 := by rw [List.length_drop]
    refine lc_same (walk_zipT (n := ws.length - 1) (by rw [List.length_map, List.length_map, hz]; omega)) (fun i => .bl (((ws.zip ws.tail)[i]?.map fun p => decide (p.1.cps.toList < p.2.cps.toList)).getD false)) (sz100 (by omega)) (fun H' s => ⟨sqt_of (s _ _ (s1 _ _ ha)), sqt_of (s _ _ hp)⟩) ?_ mono_pair mono_yes ?_
    · rintro i x H2 H3 hi hS ⟨T', x', y', rfl, hT, rfl, hx, hy⟩ R hR
      have hx : (ws.map V.str)[i]? = some x' := hx
      have hy : ((ws.drop 1).map V.str)[i]? = some y' := hy
      rw [List.getElem?_map] at hx hy
      have e1 : i < ws.length := by omega
      have e2 : i < (ws.drop 1).length := by omega
      rw [List.getElem?_eq_getElem e1] at hx
      rw [List.getElem?_eq_getElem e2] at hy
      cases hx
      cases hy
      simp only [gTup]
      walk_at "rd"
      refine ⟨_, sqt_of upd_same, rfl, _, _, rfl, _, _, rfl, rfl, ?_⟩
      have e3 : (ws.zip ws.tail)[i]? = some (ws[i], (ws.drop 1)[i]) := by
        rw [List.getElem?_zip_eq_some]
        refine ⟨List.getElem?_eq_getElem e1, ?_⟩
        rw [← List.drop_one]
        exact List.getElem?_eq_getElem e2
      have := hR _ (same_new (o := .tup [V.str ws[i], V.str (ws.drop 1)[i]]) hT)
      rw [e3] at this
      exact ⟨_, rfl, _, rfl, this⟩
    · intro H2 D hS hD hL
      have zl : (ws.zip ws.tail).length = ws.length - 1 := by rw [List.length_zip, List.length_tail]; omega
      have e : ((List.range (ws.length - 1)).map fun i => V.bl (((ws.zip ws.tail)[i]?.map fun p => decide (p.1.cps.toList < p.2.cps.toList)).getD false)) = ((ws.zip ws.tail).map fun p => decide (p.1.cps.toList < p.2.cps.toList)).map V.bl := by
        rw [← zl, List.map_map]
        apply List.ext_getElem
        · simp
        · intro i h1 h2
          have h3 : i < (ws.zip ws.tail).length := by simpa using h2
          simp only [List.getElem_map, List.getElem_range, Function.comp_apply]
          rw [List.getElem?_eq_getElem h3]
          rfl
      rw [e] at hL
      refine ⟨D, _, rfl, .inl (.inl hL), ?_⟩
      rw [List.all_map]
      exact q _ (s1.trans hS)
theorem pick_all {α : Type} {P : Nat → α → Addr → Prop} : ∀ (l : List α), (∀ (i : Nat) k, l[i]? = some k → ∃ b, P i k b) → ∃ bs : List Addr, bs.length = l.length ∧ ∀ (i : Nat) k, l[i]? = some k → ∃ b, bs[i]? = some b ∧ P i k b := by
  intro l
  induction l generalizing P with
  | nil => exact fun _ => ⟨[], rfl, fun i k e => by cases e⟩
  | cons x l ih =>
    intro h
    obtain ⟨b, hb⟩ := h 0 x rfl
    obtain ⟨bs, hl, hbs⟩ := ih (P := fun i => P (i + 1)) fun i k e => h (i + 1) k e
    refine ⟨b :: bs, congrArg Nat.succ hl, fun i k e => ?_⟩
    cases i with
    | zero =>
      cases e
      exact ⟨b, rfl, hb⟩
    | succ i => exact hbs i k e
theorem repB {H : Hp} {p : Addr} {xs : List V} {b : Bool} {Q : VK} (h : H p = some (.lst xs)) (q : ∀ p' H', Same H H' → H' p' = some (.lst (if b = true then xs else [])) → Q (.ref p') H') : rRepB K (.ref p) (.bl b) H Q := ⟨p, xs, b, rfl, rfl, sql_of h, fun p' hp' => q p' _ (same_new hp') upd_same⟩
theorem catL {H : Hp} {p1 p2 : Addr} {xs ys : List V} {Q : VK} (h1 : H p1 = some (.lst xs)) (h2 : H p2 = some (.lst ys)) (hl : xs.length + ys.length ≤ 10000) (q : ∀ p H', Same H H' → H' p = some (.lst (xs ++ ys)) → Q (.ref p) H') : rCat (.ref p1) (.ref p2) H Q := ⟨p1, p2, xs, ys, rfl, rfl, h1, h2, sz100 (by omega), fun p hp => q p _ (same_new hp) upd_same⟩
theorem eC {k : Kd} : decide (V.str (wK k) = V.str (Str.ofString "closed")) = decide (k = .closed) := by cases k <;> decide
theorem eO {k : Kd} : decide (V.str (wK k) = V.str (Str.ofString "open")) = decide (k = .open_) := by cases k <;> decide
/-- the sides of a candidate: whether each is a front -/
def sidesC (c : Cd) : List (Bool × List Str) := c.ps ++ [(c.rs.2.isSome, c.rs.1)]
def frontsOf (ss : List (Bool × List Str)) : List (List Str) := ss.filterMap fun p => if p.1 then some p.2 else none
def typesOf (ss : List (Bool × List Str)) : List (List Str) := ss.filterMap fun p => if p.1 then none else some p.2
def sp_names_in_candidate (C : Addr) : Sp := fun vs H Q _ => ∃ (a : Addr) (c : Cd), vs = [.ref a] ∧ Cnd H C a c ∧ CdOk c ∧ ∀ H' p f t fs ts, Same H H' → H' p = some (.tup [.ref f, .ref t]) → H' f = some (.lst fs) → H' t = some (.lst ts) → FrA H' fs (frontsOf (sidesC c)) → FrA H' ts (typesOf (sidesC c)) → Q (.ref p) H'
theorem ok_names_in_candidate (T : Tx K mg) : FnOk P w K mg base CX0 1 T.f_names_in_candidate T.d_names_in_candidate ["candidate"] (sp_names_in_candidate T.C_Candidate) := by
  refine T.F_names_in_candidate.ok sc_names_in_candidate (fun vs H Q E h => ?_) (fun cdv A outer s H vs Q E hr h => ?_)
  · obtain ⟨a, c, rfl, _⟩ := h
    rfl
  · obtain ⟨a, c, rfl, ⟨dx, pa, ra, ka, fs, hc⟩, ok, q⟩ := h
    refine ⟨_, (pss_cons (ps_set (i := 1) sc_names_in_candidate.nd rfl (Or.inl rfl) (pe_lst (StX.pa_star (pe_fld (pv 0) rfl) (pa_cons (pe_slice sl_tupA (pe_fld (pv 0) rfl) po_none (po_some pe_int)) pa_nil))))
      (pss_one (ps_ret (pe_tup (pa_cons (pe_lc (own := [("kind", 2), ("names", 3)]) (g := gTup K 2 (gCons (gName 2) (gCons (gName 3) gNil))) (by rfl) sc_names_in_candidate.nd (pi_list (pv 1)) (blkOk_by (own := [("kind", 2), ("names", 3)]) (N := ["candidate", "sides", "kind", "names"]) (sc := defScope s_names_in_candidate) (by decide +kernel)) (fun _ _ _ _ _ => (pg_tup (n := 2) rfl (pgs_cons (pg_name (i := 2) sc_names_in_candidate.nd rfl (Or.inl rfl)) (pgs_cons (pg_name (i := 3) sc_names_in_candidate.nd rfl (Or.inl rfl)) pgs_nil)))) (fun _ _ _ _ _ => (pts_one (pt_cmpR op_ne (pv 2) pe_str (nomark _)))) (fun _ _ _ _ _ => (pv 3))) (pa_cons (pe_lc (own := [("kind", 2), ("names", 3)]) (g := gTup K 2 (gCons (gName 2) (gCons (gName 3) gNil))) (by rfl) sc_names_in_candidate.nd (pi_list (pv 1)) (blkOk_by (own := [("kind", 2), ("names", 3)]) (N := ["candidate", "sides", "kind", "names"]) (sc := defScope s_names_in_candidate) (by decide +kernel)) (fun _ _ _ _ _ => (pg_tup (n := 2) rfl (pgs_cons (pg_name (i := 2) sc_names_in_candidate.nd rfl (Or.inl rfl)) (pgs_cons (pg_name (i := 3) sc_names_in_candidate.nd rfl (Or.inl rfl)) pgs_nil)))) (fun _ _ _ _ _ => (pts_one (pt_cmpR op_eq (pv 2) pe_str (nomark _)))) (fun _ _ _ _ _ => (pv 3))) pa_nil)))))), ?_⟩
    walk_at "rd"
    walk_at "rdx"
    simp only [StX.tStar]
    walk_at "rdx"
    obtain ⟨xs, hx, lx, fx⟩ := hc.ps
    obtain ⟨rb, hrb, hra⟩ := hc.rs
    refine ⟨_, _, _, hc.at_, T.cl_Candidate, T.no_Candidate_own_patterns, ?_⟩
    refine ⟨_, hc.f2, _, rfl, _, .inl (sqt_of hx), ?_⟩
    walk_at "rdx"
    refine ⟨_, _, _, hc.at_, T.cl_Candidate, T.no_Candidate_own_result, _, hc.f3, ?_⟩
    refine slT hra fun p1 H1 s1 hp1 => ?_
    have hp1' : H1 p1 = some (.tup [.str (if c.rs.2.isSome then wTail else wClosed), .ref rb]) := by
      rw [hp1]
      cases c.rs.2 <;> rfl
    have hl := ok.hi
    refine ⟨sz100 (by rw [List.length_append, lx]; simp; omega), fun p2 hp2 => ?_⟩
    have s2 := same_new (o := .lst (xs ++ [V.ref p1])) hp2
    have f2 : upd H1 p2 (.lst (xs ++ [V.ref p1])) p2 = some (.lst (xs ++ [V.ref p1])) := upd_same
    generalize upd H1 p2 (.lst (xs ++ [V.ref p1])) = H2 at *
    refine ⟨⟨_, sql_of f2⟩, ?_⟩
    -- the sides
    have sd : ∀ (i : Nat) (x : V), (xs ++ [V.ref p1])[i]? = some x → ∃ (k : Bool × List Str) (z : Str) (a b : Addr), (sidesC c)[i]? = some k ∧ x = .ref a ∧ H2 a = some (.tup [.str z, .ref b]) ∧ H2 b = some (.tup (k.2.map V.str)) ∧ decide (z = wClosed) = !k.1 := by
      intro i x e
      unfold sidesC
      by_cases hi : i < xs.length
      · rw [List.getElem?_append_left hi] at e
        rw [List.getElem?_append_left (by omega)]
        have e2 : c.ps[i]? = some c.ps[i] := List.getElem?_eq_getElem (by omega)
        obtain ⟨b, e3, b2, e4, e5⟩ := fx i _ e2
        rw [e] at e3
        cases e3
        refine ⟨_, _, _, _, e2, rfl, s2 _ _ (s1 _ _ e4), s2 _ _ (s1 _ _ e5), ?_⟩
        cases (c.ps[i]).1 <;> decide
      · rw [List.getElem?_append_right (by omega)] at e
        rw [List.getElem?_append_right (by omega), ← lx]
        have i0 : i - xs.length = 0 := by
          by_cases h0 : i - xs.length = 0
          · exact h0
          · rw [List.getElem?_eq_none (by simp; omega)] at e
            cases e
        rw [i0] at e ⊢
        cases e
        refine ⟨_, _, _, _, rfl, rfl, s2 _ _ hp1', s2 _ _ (s1 _ _ hrb), ?_⟩
        show decide ((if c.rs.2.isSome = true then wTail else wClosed) = wClosed) = !c.rs.2.isSome
        cases c.rs.2.isSome <;> decide
    have ln : (xs ++ [V.ref p1]).length = (sidesC c).length := by
      unfold sidesC
      simp [lx]
    have ln4 : (xs ++ [V.ref p1]).length ≤ 4 := by
      simp [lx]
      omega
    generalize xs ++ [V.ref p1] = ys at *
    generalize sidesC c = ss at *
    have ad : ∃ bs : List Addr, bs.length = ss.length ∧ ∀ (i : Nat) k, ss[i]? = some k → ∃ b, bs[i]? = some b ∧ ∃ a z, ys[i]? = some (.ref a) ∧ H2 a = some (.tup [.str z, .ref b]) ∧ H2 b = some (.tup (k.2.map V.str)) ∧ decide (z = wClosed) = !k.1 := by
      refine pick_all (P := fun i k b => ∃ a z, ys[i]? = some (.ref a) ∧ H2 a = some (.tup [.str z, .ref b]) ∧ H2 b = some (.tup (k.2.map V.str)) ∧ decide (z = wClosed) = !k.1) ss fun i k e => ?_
      have hi : i < ys.length := by
        rw [ln]
        exact (List.getElem?_eq_some_iff.mp e).1
      obtain ⟨k', z, a, b, e1, e2, e3, e4, e5⟩ := sd i _ (List.getElem?_eq_getElem hi)
      rw [e] at e1
      cases e1
      exact ⟨b, a, z, (List.getElem?_eq_getElem hi).trans (congrArg some e2), e3, e4, e5⟩
    clear sd
    obtain ⟨bs, lb, hb⟩ := ad
    have lz : (ss.zip bs).length = ys.length := by rw [List.length_zip, lb, ln, Nat.min_self]
    -- what is chosen, by a test
    let G : Bool → (Bool × List Str) × Addr → Option V := fun t p => if p.1.1 = t then some (.ref p.2) else none
    have chosen : ∀ (t : Bool) (H3 : Hp), Same H2 H3 → FrA H3 ((ss.zip bs).filterMap (G t)) (ss.filterMap fun p => if p.1 = t then some p.2 else none) := by
      intro t H3 s3
      have : ∀ (ss : List (Bool × List Str)) (bs : List Addr), bs.length = ss.length → (∀ (i : Nat) k, ss[i]? = some k → ∃ b, bs[i]? = some b ∧ H3 b = some (.tup (k.2.map V.str))) → FrA H3 ((ss.zip bs).filterMap (G t)) (ss.filterMap fun p => if p.1 = t then some p.2 else none) := by
        intro ss
        induction ss with
        | nil => intro bs _ _; exact .nil
        | cons k ss ih =>
          intro bs lb h
          cases bs with
          | nil => cases lb
          | cons b bs =>
            have h0 := h 0 k rfl
            obtain ⟨b', e1, e2⟩ := h0
            cases e1
            have tl := ih bs (by simpa using lb) fun i k e => h (i + 1) k e
            rw [List.zip_cons_cons, List.filterMap_cons, List.filterMap_cons]
            by_cases ht : k.1 = t
            · simp only [G, if_pos ht]
              exact .cons e2 tl
            · simp only [G, if_neg ht]
              exact tl
      refine this ss bs lb fun i k e => ?_
      obtain ⟨b, e1, a, z, e2, e3, e4, e5⟩ := hb i k e
      exact ⟨b, e1, s3 _ _ e4⟩
    have step : ∀ (t : Bool) (i : Nat) (x : V) (H3 : Hp), i < ys.length → Same H2 H3 → ys[i]? = some x → ∃ (a b : Addr) (z : Str), x = .ref a ∧ SqT K H3 a [.str z, .ref b] ∧ ((ss.zip bs)[i]?.bind (G t)) = if decide (z = wClosed) = !t then some (.ref b) else none := by
      intro t i x H3 hi s3 e
      have hk : ss[i]? = some ss[i] := List.getElem?_eq_getElem (by omega)
      obtain ⟨b, e1, a, z, e2, e3, e4, e5⟩ := hb i _ hk
      rw [e] at e2
      cases e2
      refine ⟨a, b, z, rfl, sqt_of (s3 _ _ e3), ?_⟩
      have ez : (ss.zip bs)[i]? = some (ss[i], b) := by rw [List.getElem?_zip_eq_some]; exact ⟨hk, e1⟩
      rw [ez, Option.bind_some, e5]
      show (if (ss[i]).1 = t then some (V.ref b) else none) = _
      cases (ss[i]).1 <;> cases t <;> rfl
    refine lc_sel walk_list (fun i => (ss.zip bs)[i]?.bind (G true)) (sz100 (by omega)) (fun H' s => sql_of (s _ _ f2)) ?_ ?_
    · rintro i x H3 H4 hi hS ⟨e4, hx⟩ R N hR hN
      subst e4
      obtain ⟨a', b', z', rfl, hq, hf⟩ := step true i x H4 hi hS hx
      walk_at "rdx"
      refine ⟨_, hq, rfl, _, _, rfl, _, _, rfl, rfl, rfl, ?_⟩
      rw [hf] at hR hN
      have ed : decide (V.str z' = V.str (Str.ofString "closed")) = decide (z' = wClosed) := by simp
      rw [ed]
      cases hz : decide (z' = wClosed)
      · rw [hz] at hR
        exact iteP rfl (hR _ _ (if_pos rfl) (Same.refl _))
      · rw [hz] at hN
        exact iteN (by simp) (hN _ (if_neg (by simp)) (Same.refl _))
    intro H3 D3 s3 hD3 hL3
    rw [← lz, range_fm] at hL3
    refine ⟨⟨_, sql_of (s3 _ _ f2)⟩, ?_⟩
    refine lc_sel walk_list (fun i => (ss.zip bs)[i]?.bind (G false)) (sz100 (by omega)) (fun H' s => sql_of (s _ _ (s3 _ _ f2))) ?_ ?_
    · rintro i x H5 H4 hi hS ⟨e4, hx⟩ R N hR hN
      subst e4
      obtain ⟨a', b', z', rfl, hq, hf⟩ := step false i x H4 hi (s3.trans hS) hx
      walk_at "rdx"
      refine ⟨_, hq, rfl, _, _, rfl, _, _, rfl, rfl, rfl, ?_⟩
      rw [hf] at hR hN
      have ed : decide (V.str z' = V.str (Str.ofString "closed")) = decide (z' = wClosed) := by simp
      rw [ed]
      cases hz : decide (z' = wClosed)
      · rw [hz] at hN
        exact iteN (by simp) (hN _ (if_neg (by simp)) (Same.refl _))
      · rw [hz] at hR
        exact iteP rfl (hR _ _ (if_pos rfl) (Same.refl _))
    intro H5 D5 s5 hD5 hL5
    rw [← lz, range_fm] at hL5
    refine ⟨by decide, fun p6 hp6 => ?_⟩
    have s6 := same_new (o := .tup [V.ref D3, V.ref D5]) hp6
    have f6 : upd H5 p6 (.tup [V.ref D3, V.ref D5]) p6 = some (.tup [V.ref D3, V.ref D5]) := upd_same
    generalize upd H5 p6 (.tup [V.ref D3, V.ref D5]) = H6 at *
    refine q H6 p6 D3 D5 _ _ ((((s1.trans s2).trans s3).trans s5).trans s6) f6 (s6 _ _ (s5 _ _ hL3)) (s6 _ _ hL5) ?_ ?_
    · exact chosen true H6 ((s3.trans s5).trans s6)
    · have e : typesOf ss = ss.filterMap fun p => if p.1 = false then some p.2 else none := by
        unfold typesOf
        congr 1
        funext p
        cases p.1 <;> rfl
      rw [e]
      exact chosen false H6 ((s3.trans s5).trans s6)
def sidesK (c : Cv) : List (Bool × List Str) := [(decide (c.kd ≠ .closed), c.lf), (decide (c.kd = .open_), c.rt)]
/-- the conversion c at a -/
def cvA (H : Hp) (a : Addr) (c : Cv) : Prop := ∃ l r, H a = some (.tup [.str (wK c.kd), .ref l, .ref r, .int c.rk]) ∧ H l = some (.tup (c.lf.map V.str)) ∧ H r = some (.tup (c.rt.map V.str))
theorem cvA.same {H H' : Hp} {a : Addr} {c : Cv} (h : cvA H a c) (s : Same H H') : cvA H' a c := let ⟨l, r, h1, h2, h3⟩ := h; ⟨l, r, s _ _ h1, s _ _ h2, s _ _ h3⟩
def sp_names_in_conversion : Sp := fun vs H Q _ => ∃ (a : Addr) (c : Cv), vs = [.ref a] ∧ cvA H a c ∧ ∀ H' p f t fs ts, Same H H' → H' p = some (.tup [.ref f, .ref t]) → H' f = some (.lst fs) → H' t = some (.lst ts) → FrA H' fs (frontsOf (sidesK c)) → FrA H' ts (typesOf (sidesK c)) → Q (.ref p) H'
theorem ok_names_in_conversion (T : Tx K mg) : FnOk P w K mg base CX0 1 T.f_names_in_conversion T.d_names_in_conversion ["conversion"] sp_names_in_conversion := by
  refine T.F_names_in_conversion.ok sc_names_in_conversion (fun vs H Q E h => ?_) (fun cdv A outer s H vs Q E hr h => ?_)
  · obtain ⟨a, c, rfl, _⟩ := h
    rfl
  · obtain ⟨a, c, rfl, ⟨l, r, h1, h2, h3⟩, q⟩ := h
    refine ⟨_, (pss_cons (ps_asg (pv 0) (pg_tup (n := 4) rfl (pgs_cons (pg_name (i := 1) sc_names_in_conversion.nd rfl (Or.inl rfl)) (pgs_cons (pg_name (i := 2) sc_names_in_conversion.nd rfl (Or.inl rfl)) (pgs_cons (pg_name (i := 3) sc_names_in_conversion.nd rfl (Or.inl rfl)) (pgs_cons (pg_name (i := 4) sc_names_in_conversion.nd rfl (Or.inl rfl)) pgs_nil))))))
      (pss_cons (ps_set (i := 5) sc_names_in_conversion.nd rfl (Or.inl rfl) (pe_op op_cat (pe_op op_repB (pe_lst (pa_cons (pv 2) pa_nil)) (pe_cmpR op_ne (pv 1) pe_str (nomark _))) (pe_op op_repB (pe_lst (pa_cons (pv 3) pa_nil)) (pe_cmpR op_eq (pv 1) pe_str (nomark _)))))
      (pss_one (ps_ret (pe_tup (pa_cons (pv 5) (pa_cons (pe_op op_cat (pe_op op_repB (pe_lst (pa_cons (pv 2) pa_nil)) (pe_cmpR op_eq (pv 1) pe_str (nomark _))) (pe_op op_repB (pe_lst (pa_cons (pv 3) pa_nil)) (pe_cmpR op_ne (pv 1) pe_str (nomark _)))) pa_nil))))))), ?_⟩
    walk_at "rd"
    walk_at "rdx"
    refine ⟨_, sqt_of h1, rfl, _, _, rfl, _, _, rfl, _, _, rfl, _, _, rfl, rfl, by decide, fun p1 hp1 => ⟨rfl, ?_⟩⟩
    have s1 := same_new (o := .lst [V.ref l]) hp1
    have f1 : upd H p1 (.lst [V.ref l]) p1 = some (.lst [V.ref l]) := upd_same
    generalize upd H p1 (.lst [V.ref l]) = H1 at *
    refine repB f1 fun p2 H2 s2 f2 => ⟨by decide, fun p3 hp3 => ⟨rfl, ?_⟩⟩
    have s3 := same_new (o := .lst [V.ref r]) hp3
    have f3 : upd H2 p3 (.lst [V.ref r]) p3 = some (.lst [V.ref r]) := upd_same
    generalize upd H2 p3 (.lst [V.ref r]) = H3 at *
    refine repB f3 fun p4 H4 s4 f4 => catL (s4 _ _ (s3 _ _ f2)) f4 (by simp only [apply_ite List.length, List.length_cons, List.length_nil]; split <;> split <;> decide) fun p5 H5 s5 f5 => ⟨by decide, fun p6 hp6 => ⟨rfl, ?_⟩⟩
    have s6 := same_new (o := .lst [V.ref l]) hp6
    have f6 : upd H5 p6 (.lst [V.ref l]) p6 = some (.lst [V.ref l]) := upd_same
    generalize upd H5 p6 (.lst [V.ref l]) = H6 at *
    refine repB f6 fun p7 H7 s7 f7 => ⟨by decide, fun p8 hp8 => ⟨rfl, ?_⟩⟩
    have s8 := same_new (o := .lst [V.ref r]) hp8
    have f8 : upd H7 p8 (.lst [V.ref r]) p8 = some (.lst [V.ref r]) := upd_same
    generalize upd H7 p8 (.lst [V.ref r]) = H8 at *
    refine repB f8 fun p9 H9 s9 f9 => catL (s9 _ _ (s8 _ _ f7)) f9 (by simp only [apply_ite List.length, List.length_cons, List.length_nil]; split <;> split <;> decide) fun p10 H10 s10 f10 => ⟨by decide, fun p11 hp11 => ?_⟩
    have s11 := same_new (o := .tup [V.ref p5, V.ref p10]) hp11
    have f11 : upd H10 p11 (.tup [V.ref p5, V.ref p10]) p11 = some (.tup [V.ref p5, V.ref p10]) := upd_same
    generalize upd H10 p11 (.tup [V.ref p5, V.ref p10]) = H11 at *
    have s5e := ((((s6.trans s7).trans s8).trans s9).trans s10).trans s11
    have sA := ((((s1.trans s2).trans s3).trans s4).trans s5).trans s5e
    refine q H11 p11 p5 p10 _ _ sA f11 (s5e _ _ f5) (s11 _ _ f10) ?_ ?_
    · rw [eC, eO]
      obtain ⟨k, lf, rt, rk⟩ := c
      cases k
      · exact .nil
      · exact .cons (sA _ _ h2) (.cons (sA _ _ h3) .nil)
      · exact .cons (sA _ _ h2) .nil
    · rw [eC, eO]
      obtain ⟨k, lf, rt, rk⟩ := c
      cases k
      · exact .cons (sA _ _ h2) (.cons (sA _ _ h3) .nil)
      · exact .nil
      · exact .cons (sA _ _ h3) .nil
end

local macro_rules | `(tactic| walk_at "rdx") => `(tactic| ((try simp only [tFld, gTup, gStar, tJs, tFmt, sFld]); try walk_at "rd"))
section
variable {w : World} {K : PySem.W.Frag} {mg : Str → Option Value} {base : Heap}
/-- conversions and candidates -/
inductive Itm where
  | cv (c : Cv)
  | cd (c : Cd)
def cvOk (c : Cv) : Bool := (decide (1 ≤ c.rk) && decide (c.rk ≤ 9)) && sidesV c.kd true true (c.lf.map V.str) (c.rt.map V.str)
def sidesI : Itm → List (Bool × List Str)
  | .cv c => sidesK c
  | .cd c => sidesC c
def ItmOk : Itm → Prop
  | .cv c => cvOk c = true
  | .cd c => CdOk c
def ItmA (H : Hp) (C a : Addr) : Itm → Prop
  | .cv c => cvA H a c
  | .cd c => Cnd H C a c
theorem ItmA.same {H H' : Hp} {C a : Addr} {it : Itm} (h : ItmA H C a it) (s : Same H H') : ItmA H' C a it := by
  cases it with
  | cv c => exact cvA.same h s
  | cd c => exact Cnd.same h s
/-- a side: its names, how many there may be -/
def sdOk (p : Bool × List Str) : Prop := (∀ w ∈ p.2, isNm w = true) ∧ p.2.length ≤ 5 ∧ (p.1 = false → p.2 ≠ [])
theorem sd_names {o : Bool} {ws : List Str} {lo hi : Int} (h : namesV (ws.map V.str) lo hi = true) (h1 : hi ≤ 5) (h2 : o = false → 1 ≤ lo) : sdOk (o, ws) := by
  obtain ⟨a, b, c⟩ := names_of h
  refine ⟨a, by show ws.length ≤ 5; omega, fun e z => ?_⟩
  have := h2 e
  rw [show ws = [] from z] at b
  simp at b
  omega
theorem sides_ok {it : Itm} (ok : ItmOk it) : (sidesI it).length ≤ 4 ∧ ∀ p ∈ sidesI it, sdOk p := by
  cases it with
  | cv c =>
    have ok : cvOk c = true := ok
    unfold cvOk at ok
    rw [Bool.and_eq_true] at ok
    obtain ⟨k, lf, rt, rk⟩ := c
    have h := ok.2
    refine ⟨(show 2 ≤ 4 by decide), fun p hp => ?_⟩
    rcases List.mem_cons.mp (show p ∈ [(decide (k ≠ .closed), lf), (decide (k = .open_), rt)] from hp) with rfl | hp
    · cases k <;> simp only [sidesV, Bool.true_and, Bool.and_eq_true] at h <;> exact sd_names h.1 (by decide) (by decide)
    · cases List.mem_singleton.mp hp
      cases k <;> simp only [sidesV, Bool.true_and, Bool.and_eq_true] at h
      · exact sd_names h.2.1 (by decide) (by decide)
      · exact sd_names h.2.1 (by decide) (by decide)
      · exact sd_names h.2 (by decide) (by decide)
  | cd c =>
    have ok : CdOk c := ok
    have hi := ok.hi
    refine ⟨by show (c.ps ++ [_]).length ≤ 4; simp; omega, fun p hp => ?_⟩
    rcases List.mem_append.mp (show p ∈ c.ps ++ [_] from hp) with hp | hp
    · have := ok.pt p hp
      obtain ⟨o, ws⟩ := p
      unfold ptOk at this
      cases o
      · exact sd_names this (by decide) (by decide)
      · exact sd_names this (by decide) (by decide)
    · cases List.mem_singleton.mp hp
      have := ok.rs
      unfold rsOk at this
      split at this
      · rename_i e
        rw [e]
        exact sd_names this (by decide) (by decide)
      · rename_i m e
        rw [e]
        rw [Bool.and_eq_true] at this
        exact sd_names this.1 (by decide) (fun z => nomatch z)
theorem fr_mem {ss : List (Bool × List Str)} {ws : List Str} (h : ws ∈ frontsOf ss) : (true, ws) ∈ ss := by
  obtain ⟨p, hp, e⟩ := List.mem_filterMap.mp h
  obtain ⟨o, us⟩ := p
  cases o
  · cases e
  · cases e
    exact hp
theorem ty_mem {ss : List (Bool × List Str)} {ws : List Str} (h : ws ∈ typesOf ss) : (false, ws) ∈ ss := by
  obtain ⟨p, hp, e⟩ := List.mem_filterMap.mp h
  obtain ⟨o, us⟩ := p
  cases o
  · cases e
    exact hp
  · cases e
theorem flat_le {α : Type} {k n : Nat} {f : List α → List α} : ∀ {l : List (List α)}, l.length ≤ n → (∀ ws ∈ l, (f ws).length ≤ k) → (l.flatMap f).length ≤ n * k
  | [], _, _ => Nat.zero_le _
  | x :: l, hl, h => by
    cases n with
    | zero => cases hl
    | succ n =>
      rw [List.flatMap_cons, List.length_append, Nat.succ_mul]
      have h1 := flat_le (n := n) (f := f) (l := l) (Nat.le_of_succ_le_succ hl) fun ws hw => h ws (.tail _ hw)
      have h2 := h x (.head _)
      omega
def mksS (ss : List (Bool × List Str)) : List Str := (frontsOf ss).flatten ++ (typesOf ss).flatMap List.dropLast
def bssS (ss : List (Bool × List Str)) : List Str := (typesOf ss).map fun ws => ws.getLast?.getD Str.empty
def mksI (it : Itm) : List Str := mksS (sidesI it)
def bssI (it : Itm) : List Str := bssS (sidesI it)
def sp_names_in (C : Addr) : Sp := fun vs H Q _ => ∃ (a : Addr) (it : Itm), vs = [.ref a] ∧ ItmA H C a it ∧ ItmOk it ∧ ∀ H' p m b, Same H H' → H' p = some (.tup [.ref m, .ref b]) → H' m = some (.lst ((mksI it).map V.str)) → H' b = some (.lst ((bssI it).map V.str)) → Q (.ref p) H'
theorem ok_names_in (T : Tx K mg) : FnOk P w K mg base CX0 2 T.f_names_in T.d_names_in ["item"] (sp_names_in T.C_Candidate) := by
  refine T.F_names_in.ok sc_names_in (fun vs H Q E h => ?_) (fun cdv A outer s H vs Q E hr h => ?_)
  · obtain ⟨a, it, rfl, _⟩ := h
    rfl
  · obtain ⟨a, it, rfl, ha, ok, q⟩ := h
    refine ⟨_, (pss_cons (ps_asg (pe_ifExp (pt_val (pe_callB call_isi (by rfl) T.n_isinstance (by decide +kernel) (pa_cons (pv 0) (pa_cons (pe_glob (v := .ref T.C_Candidate) (by rfl) T.m_Candidate rfl) pa_nil)))) (pe_call (ok_names_in_candidate T) (hr.mono (by decide)) (by rfl) T.g_names_in_candidate T.F_names_in_candidate.kp T.b_names_in_candidate .nil pass0 (pa_cons (pv 0) pa_nil)) (pe_call (ok_names_in_conversion T) (hr.mono (by decide)) (by rfl) T.g_names_in_conversion T.F_names_in_conversion.kp T.b_names_in_conversion .nil pass0 (pa_cons (pv 0) pa_nil))) (pg_tup (n := 2) rfl (pgs_cons (pg_name (i := 1) sc_names_in.nd rfl (Or.inl rfl)) (pgs_cons (pg_name (i := 2) sc_names_in.nd rfl (Or.inl rfl)) pgs_nil))))
      (pss_cons (ps_set (i := 3) sc_names_in.nd rfl (Or.inl rfl) (pe_op op_cat (pe_lc2 (own := [("front", 4), ("mark", 5)]) (vs1 := [5]) (g := gName 4) (g1 := gName 5) (by rfl) sc_names_in.nd (pi_list (pv 1)) (blkOk_by (own := [("front", 4), ("mark", 5)]) (N := ["item", "fronts", "types", "marks", "front", "mark", "names"]) (sc := defScope s_names_in) (by decide +kernel)) (by decide) (fun _ _ _ _ _ => (pg_name (i := 4) sc_names_in.nd rfl (Or.inl rfl))) (fun _ _ _ _ _ => pts_nil) (fun _ _ _ _ _ => ((pi_tup (pv 4)) : PI _ _ _ (iTup K _))) (fun _ _ _ _ _ => (pg_name (i := 5) sc_names_in.nd rfl (Or.inl rfl))) (fun _ _ _ _ _ => pts_nil) (fun _ _ _ _ _ => (pv 5))) (pe_lc2 (own := [("names", 6), ("mark", 5)]) (vs1 := [5]) (g := gName 6) (g1 := gName 5) (by rfl) sc_names_in.nd (pi_list (pv 2)) (blkOk_by (own := [("names", 6), ("mark", 5)]) (N := ["item", "fronts", "types", "marks", "front", "mark", "names"]) (sc := defScope s_names_in) (by decide +kernel)) (by decide) (fun _ _ _ _ _ => (pg_name (i := 6) sc_names_in.nd rfl (Or.inl rfl))) (fun _ _ _ _ _ => pts_nil) (fun _ _ _ _ _ => ((pi_tup (pe_slice (sl_tupA : SlR _ (rSlA K)) (pv 6) po_none (po_some (pe_un un_neg pe_int)))) : PI _ _ _ (iTup K _))) (fun _ _ _ _ _ => (pg_name (i := 5) sc_names_in.nd rfl (Or.inl rfl))) (fun _ _ _ _ _ => pts_nil) (fun _ _ _ _ _ => (pv 5)))))
      (pss_one (ps_ret (pe_tup (pa_cons (pv 3) (pa_cons (pe_lc (own := [("names", 6)]) (g := gName 6) (by rfl) sc_names_in.nd (pi_list (pv 2)) (blkOk_by (own := [("names", 6)]) (N := ["item", "fronts", "types", "marks", "front", "mark", "names"]) (sc := defScope s_names_in) (by decide +kernel)) (fun _ _ _ _ _ => (pg_name (i := 6) sc_names_in.nd rfl (Or.inl rfl))) (fun _ _ _ _ _ => pts_nil) (fun _ _ _ _ _ => (pe_ix (ix_tup : IxR _ (rIxT K)) (pv 6) (pe_un un_neg pe_int) (fun _ _ => rfl)))) pa_nil))))))), ?_⟩
    obtain ⟨s4, sk⟩ := sides_ok ok
    refine seqN fun N hN => ?_
    have main : ∀ H1 p f t fs ts, Same H H1 → H1 p = some (.tup [.ref f, .ref t]) → H1 f = some (.lst fs) → H1 t = some (.lst ts) → FrA H1 fs (frontsOf (sidesI it)) → FrA H1 ts (typesOf (sidesI it)) → N [some (V.ref a), some (V.ref f), some (V.ref t), none, none, none, none] H1 := by
      intro H1 p f t fs ts s1 _ hf ht ff ft
      have nf : (frontsOf (sidesI it)).length ≤ 4 := Nat.le_trans (List.length_filterMap_le ..) s4
      have nt : (typesOf (sidesI it)).length ≤ 4 := Nat.le_trans (List.length_filterMap_le ..) s4
      have bf : ∀ ws ∈ frontsOf (sidesI it), ws.length ≤ 5 := fun ws h => (sk _ (fr_mem h)).2.1
      have bt : ∀ ws ∈ typesOf (sidesI it), ws.length ≤ 5 ∧ ws ≠ [] := fun ws h => ⟨(sk _ (ty_mem h)).2.1, (sk _ (ty_mem h)).2.2 rfl⟩
      refine hN _ _ ?_
      unfold mksI bssI mksS bssS at q
      generalize frontsOf (sidesI it) = F at *
      generalize typesOf (sidesI it) = Y at *
      have zf : (F.flatMap id).length ≤ 20 := flat_le (k := 5) nf fun ws h => bf ws h
      have zt : (Y.flatMap List.dropLast).length ≤ 20 := flat_le (k := 5) nt fun ws h => by rw [List.length_dropLast]; have := (bt ws h).1; omega
      walk_at "rd"
      simp only [tLc2_eq]
      walk_at "rd"
      refine ⟨⟨_, sql_of hf⟩, lc2_words (f := id) hf ff (small1000 (by omega)) (fun _ => rfl) (fun _ _ => rfl) (fun _ _ => rfl) (fun H2 b ws R _ hb r => ⟨_, rfl, r b H2 (Same.refl _) hb⟩) fun D2 H2 s2 h2 => ?_⟩
      refine ⟨⟨_, sql_of (s2 _ _ ht)⟩, lc2_words (f := List.dropLast) (s2 _ _ ht) (ft.same s2) (small1000 (by omega)) (fun _ => rfl) (fun _ _ => rfl) (fun _ _ => rfl) (fun H3 b ws R hw hb r => ?_) fun D3 H3 s3 h3 => ?_⟩
      · walk_at "rd"
        refine slT hb fun p4 H4 s4 hp4 => r _ _ s4 ?_
        rw [hp4, cut_last, List.map_dropLast]
      · refine catL (s3 _ _ h2) h3 (by rw [List.length_map, List.length_map]; omega) fun p4 H4 s4' h4 => ?_
        refine ⟨⟨_, sql_of (s4' _ _ (s3 _ _ (s2 _ _ ht)))⟩, lc_same walk_list (fun i => .str ((Y[i]?.map fun ws => ws.getLast?.getD Str.empty).getD Str.empty)) (sz100 (by rw [ft.1]; omega)) (fun H' s => sql_of (s _ _ (s4' _ _ (s3 _ _ (s2 _ _ ht))))) ?_ mono_name mono_yes ?_⟩
        · rintro i x H5 H6 hi hS ⟨rfl, hx⟩ R hR
          have hiy : i < Y.length := by rw [← ft.1]; exact hi
          have hY : Y[i]? = some Y[i] := List.getElem?_eq_getElem hiy
          have hm : Y[i] ∈ Y := List.getElem_mem _
          obtain ⟨b, e1, e2⟩ := ft.2 i _ hY
          rw [hx] at e1
          cases e1
          rw [hY] at hR
          generalize Y[i] = ws at *
          have e3 := hS _ _ (s4' _ _ (s3 _ _ (s2 _ _ e2)))
          obtain ⟨z, hz⟩ : ∃ z, ws.getLast? = some z := by
            cases ws with
            | nil => exact absurd rfl (bt _ hm).2
            | cons x ws => exact ⟨_, List.getLast?_cons ..⟩
          walk_at "rd"
          have hR' := hR H6 (Same.refl _)
          simp only [Option.map_some, Option.getD_some, hz] at hR'
          refine ⟨_, _, _, _, rfl, rfl, sqt_of e3, ?_, hR'⟩
          rw [at_last (by simpa using (bt ws hm).2), List.getLast?_map, hz]
          rfl
        · intro H5 D5 s5 hD5 h5
          have e5 : ((List.range ts.length).map fun i => V.str ((Y[i]?.map fun ws => ws.getLast?.getD Str.empty).getD Str.empty)) = (Y.map fun ws => ws.getLast?.getD Str.empty).map V.str := by
            rw [ft.1, List.map_map]
            apply List.ext_getElem
            · simp
            · intro i h1 h2
              have h3 : i < Y.length := by simpa using h2
              simp [h3]
          rw [e5] at h5
          refine ⟨by decide, fun p6 hp6 => ?_⟩
          have s6 := same_new (o := .tup [V.ref p4, V.ref D5]) hp6
          have f6 : upd H5 p6 (.tup [V.ref p4, V.ref D5]) p6 = some (.tup [V.ref p4, V.ref D5]) := upd_same
          generalize upd H5 p6 (.tup [V.ref p4, V.ref D5]) = H6 at *
          refine q H6 p6 p4 D5 (((((s1.trans s2).trans s3).trans s4').trans s5).trans s6) f6 ?_ (s6 _ _ h5)
          rw [s6 _ _ (s5 _ _ h4), ← List.map_append, List.flatMap_id]
    cases it with
    | cv c =>
      walk_at "rd"
      walk_at "rdx"
      obtain ⟨l, r, h1, h2, h3⟩ := id (show cvA H a c from ha)
      refine ⟨_, _, _, _, false, rfl, .own _, .base (.tup h1), T.zt_Candidate, ?_⟩
      walk_at "rd"
      refine ⟨a, c, rfl, ha, fun H1 p f t fs ts s1 hp hf ht ff ft => ⟨_, rfl, _, sqt_of hp, rfl, _, _, rfl, _, _, rfl, rfl, main H1 p f t fs ts s1 hp hf ht ff ft⟩⟩
    | cd c =>
      walk_at "rd"
      walk_at "rdx"
      obtain ⟨dx, pa, ra, ka, fs, hc⟩ := id (show Cnd H T.C_Candidate a c from ha)
      refine ⟨_, _, _, _, true, rfl, .own _, T.tyC hc.at_, kit_same, ?_⟩
      walk_at "rd"
      refine ⟨a, c, rfl, ha, ok, fun H1 p f t fs ts s1 hp hf ht ff ft => ⟨_, rfl, _, sqt_of hp, rfl, _, _, rfl, _, _, rfl, rfl, main H1 p f t fs ts s1 hp hf ht ff ft⟩⟩
end

local macro_rules | `(tactic| walk_at "rdx") => `(tactic| ((try simp only [tFld, gTup, gStar, tJs, tFmt, sFld, tSc_eq]); try walk_at "rd"))
section
variable {w : World} {K : PySem.W.Frag} {mg : Str → Option Value} {base : Heap}
theorem ty_sqt {H : Hp} {a : Addr} {xs : List V} (h : SqT K H a xs) : TyX K H (.ref a) (.type "tuple") := by
  rcases h with (h | ⟨u, h⟩) | ⟨o, its, n, h1, h2, _⟩
  · exact .base (.tup h)
  · exact .fTuple h
  · exact .kTuple h1 h2
theorem isi_sqt {H : Hp} {a : Addr} {xs : List V} {Q : VK} (h : SqT K H a xs) (q : Q (.bl true) H) : rIsi K [.ref a, .ty "tuple"] H Q := ⟨_, .ty "tuple", _, .type "tuple", true, rfl, .ty _, ty_sqt h, kit_ty (by decide +kernel), q⟩
/-- the keys of conversions and candidates -/
def wordsK (ws : List Str) : NestedKey := .tup (ws.map .text)
def cvK (c : Cv) : NestedKey := .tup [.text (wK c.kd), wordsK c.lf, wordsK c.rt]
def ptK (p : Bool × List Str) : NestedKey := .tup [.text (if p.1 then wOpen else wClosed), wordsK p.2]
def cdK (c : Cd) : NestedKey := .tup [.text c.nm, .tup (c.ps.map ptK)]
theorem nk_words {H : Hp} {b : Addr} {ws : List Str} (h : H b = some (.tup (ws.map V.str))) : NkV K H (wordsK ws) (.ref b) := by
  refine .tup (sqt_of h) ?_
  clear h
  induction ws with
  | nil => exact .nil
  | cons w ws ih => exact .cons (.str w) ih
theorem nk_pt {H : Hp} {a : Addr} {p : Bool × List Str} (h : ptA H a p.1 p.2) : NkV K H (ptK p) (.ref a) := by
  obtain ⟨b, h1, h2⟩ := h
  exact .tup (sqt_of h1) (.cons (.str _) (.cons (nk_words h2) .nil))
theorem nk_pts {H : Hp} {a : Addr} {ps : List (Bool × List Str)} (h : ptsA H a ps) : NkV K H (.tup (ps.map ptK)) (.ref a) := by
  obtain ⟨xs, h1, h2, h3⟩ := h
  refine .tup (sqt_of h1) ?_
  clear h1
  induction ps generalizing xs with
  | nil =>
    cases xs with
    | nil => exact .nil
    | cons => cases h2
  | cons p ps ih =>
    cases xs with
    | nil => cases h2
    | cons x xs =>
      obtain ⟨b, e1, e2⟩ := h3 0 p rfl
      cases e1
      exact .cons (nk_pt e2) (ih xs (by simpa using h2) fun i p e => h3 (i + 1) p e)
theorem dep_all {ks : List NestedKey} {n : Nat} (h : ∀ k ∈ ks, k.depth ≤ n) : NestedKey.depthAll ks ≤ n := by
  induction ks with
  | nil => exact Nat.zero_le _
  | cons k ks ih =>
    show max k.depth (NestedKey.depthAll ks) ≤ n
    have h1 := h k (.head _)
    have h2 := ih fun k hk => h k (.tail _ hk)
    omega
theorem dep_tup {ks : List NestedKey} {n : Nat} (h : ∀ k ∈ ks, k.depth ≤ n) : (NestedKey.tup ks).depth ≤ n + 1 := by
  show NestedKey.depthAll ks + 1 ≤ n + 1
  have := dep_all h
  omega
theorem dep_words {ws : List Str} : (wordsK ws).depth ≤ 1 := dep_tup fun k hk => by
  obtain ⟨w, _, rfl⟩ := List.mem_map.mp hk
  exact Nat.le_refl _
theorem dep_cv {c : Cv} : (cvK c).depth ≤ 8 := Nat.le_trans (dep_tup (n := 1) fun k hk => by
  simp only [List.mem_cons, List.not_mem_nil, or_false] at hk
  rcases hk with rfl | rfl | rfl
  · exact Nat.zero_le _
  · exact dep_words
  · exact dep_words) (by decide)
theorem dep_cd {c : Cd} : (cdK c).depth ≤ 8 := Nat.le_trans (dep_tup (n := 3) fun k hk => by
  simp only [List.mem_cons, List.not_mem_nil, or_false] at hk
  rcases hk with rfl | rfl
  · exact Nat.zero_le _
  · refine dep_tup (n := 2) fun k hk => ?_
    obtain ⟨p, _, rfl⟩ := List.mem_map.mp hk
    refine dep_tup (n := 1) fun k hk => ?_
    simp only [List.mem_cons, List.not_mem_nil, or_false] at hk
    rcases hk with rfl | rfl
    · exact Nat.zero_le _
    · exact dep_words) (by decide)
/-- the conversions in the tuple at a -/
def CvsA (K : PySem.W.Frag) (H : Hp) (a : Addr) (cs : List Cv) : Prop := ∃ xs, SqT K H a xs ∧ xs.length = cs.length ∧ ∀ (i : Nat) c, cs[i]? = some c → ∃ b, xs[i]? = some (.ref b) ∧ cvA H b c
def CdsA (K : PySem.W.Frag) (C : Addr) (H : Hp) (a : Addr) (cs : List Cd) : Prop := ∃ xs, SqT K H a xs ∧ xs.length = cs.length ∧ ∀ (i : Nat) c, cs[i]? = some c → ∃ b, xs[i]? = some (.ref b) ∧ Cnd H C b c
theorem CvsA.same {H H' : Hp} {a : Addr} {cs : List Cv} (h : CvsA K H a cs) (s : Same H H') : CvsA K H' a cs := let ⟨xs, h1, h2, h3⟩ := h; ⟨xs, Evl.ex_t s h1, h2, fun i c e => let ⟨b, e1, e2⟩ := h3 i c e; ⟨b, e1, e2.same s⟩⟩
theorem CdsA.same {C : Addr} {H H' : Hp} {a : Addr} {cs : List Cd} (h : CdsA K C H a cs) (s : Same H H') : CdsA K C H' a cs := let ⟨xs, h1, h2, h3⟩ := h; ⟨xs, Evl.ex_t s h1, h2, fun i c e => let ⟨b, e1, e2⟩ := h3 i c e; ⟨b, e1, e2.same s⟩⟩
/-- whether v is a candidate -/
inductive CdIs (C : Addr) (H : Hp) : V → Bool → Prop
  | non : CdIs C H .non false
  | int (i : Int) : CdIs C H (.int i) false
  | str (z : Str) : CdIs C H (.str z) false
  | cd {a : Addr} {c : Cd} (h : Cnd H C a c) : CdIs C H (.ref a) true
theorem CdIs.same {C : Addr} {H H' : Hp} {v : V} {b : Bool} (h : CdIs C H v b) (s : Same H H') : CdIs C H' v b := by
  cases h with
  | non => exact .non
  | int i => exact .int i
  | str z => exact .str z
  | cd h => exact .cd (h.same s)
theorem CvIs.same {H H' : Hp} {v : V} {b : Bool} (h : CvIs H v b) (s : Same H H') : CvIs H' v b := by
  cases h with
  | oth k n => exact .oth (k.same s) n
  | len h n z => exact .len (s _ _ h) n z
  | rank h k n => exact .rank (s _ _ h) (k.same s) n
  | nostr h k k2 n => exact .nostr (s _ _ h) (k.same s) (k2.same s) n
  | word h k n => exact .word (s _ _ h) (k.same s) n
  | sides h k t1 t2 => exact .sides (s _ _ h) (k.same s) (Told.same t1 s) (Told.same t2 s)
theorem int_small9 {m : Nat} (h : m ≤ 9) : intV (.int m) = true := by
  match m, h with
  | 0, _ => decide +kernel
  | 1, _ => decide +kernel
  | 2, _ => decide +kernel
  | 3, _ => decide +kernel
  | 4, _ => decide +kernel
  | 5, _ => decide +kernel
  | 6, _ => decide +kernel
  | 7, _ => decide +kernel
  | 8, _ => decide +kernel
  | 9, _ => decide +kernel
theorem cvA.is {H : Hp} {a : Addr} {c : Cv} (h : cvA H a c) (ok : cvOk c = true) : CvIs H (.ref a) true := by
  have sd := (sides_ok (it := .cv c) ok).2
  obtain ⟨l, r, h1, h2, h3⟩ := h
  have n1 := (sd (decide (c.kd ≠ .closed), c.lf) (.head _)).1
  have n2 := (sd (decide (c.kd = .open_), c.rt) (.tail _ (.head _))).1
  have := CvIs.sides h1 (.int c.rk) (told_st h2 (nm_sz n1)) (told_st h3 (nm_sz n2))
  unfold cvOk at ok
  rw [Bool.and_eq_true, Bool.and_eq_true, decide_eq_true_eq, decide_eq_true_eq] at ok
  have e : inV3 (.int c.rk) 1 9 = true := by
    show (intV (.int c.rk) && (decide ((1 : Int) ≤ c.rk) && decide ((c.rk : Int) ≤ 9))) = true
    rw [int_small9 ok.1.2, decide_eq_true (by omega), decide_eq_true (by omega)]
    rfl
  rw [e, ok.2] at this
  exact this
theorem range_opt {α β : Type} (f : α → β) (d : β) (l : List α) : ((List.range l.length).map fun i => (l[i]?.map f).getD d) = l.map f := by
  apply List.ext_getElem
  · simp
  · intro i h1 h2
    have h3 : i < l.length := by simpa using h2
    simp [h3]
/-- whether v and u are conversions and candidates, without what may not be twice -/
inductive ItsIs (K : PySem.W.Frag) (C : Addr) (H : Hp) : V → V → Bool → Prop
  | notL {v u : V} {t : String} (k : Kn H v t) (n : t ≠ "tuple") : ItsIs K C H v u false
  | notR {a : Addr} {xs : List V} {u : V} {t : String} (h : SqT K H a xs) (k : Kn H u t) (n : t ≠ "tuple") : ItsIs K C H (.ref a) u false
  | many {a b : Addr} {xs ys : List V} (h : SqT K H a xs) (h' : SqT K H b ys) (n : ¬ (xs.length ≤ 16 ∧ ys.length ≤ 16)) : ItsIs K C H (.ref a) (.ref b) false
  | bad {a b : Addr} {xs ys : List V} {f g : Nat → Bool} (h : SqT K H a xs) (h' : SqT K H b ys) (l : xs.length ≤ 16) (l' : ys.length ≤ 16) (cv : ∀ i x, xs[i]? = some x → CvIs H x (f i)) (cd : ∀ i x, ys[i]? = some x → CdIs C H x (g i)) (n : ((List.range xs.length).all f && (List.range ys.length).all g) = false) : ItsIs K C H (.ref a) (.ref b) false
  | ok {a b : Addr} {cvs : List Cv} {cds : List Cd} (h : CvsA K H a cvs) (h' : CdsA K C H b cds) (l : cvs.length ≤ 16) (l' : cds.length ≤ 16) (o : ∀ c ∈ cvs, cvOk c = true) : ItsIs K C H (.ref a) (.ref b) (decide (cvs.map cvK).Nodup && decide (cds.map cdK).Nodup)
def sp_are_items (K : PySem.W.Frag) (C : Addr) : Sp := fun vs H Q _ => ∃ (v u : V) (b : Bool), vs = [v, u] ∧ ItsIs K C H v u b ∧ ∀ H', Same H H' → Q (.bl b) H'
theorem ok_are_items (T : Tx K mg) : FnOk P w K mg base CX0 4 T.f_are_items T.d_are_items ["conversions", "candidates"] (sp_are_items K T.C_Candidate) := by
  refine T.F_are_items.ok sc_are_items (fun vs H Q E h => ?_) (fun cdv A outer s H vs Q E hr h => ?_)
  · obtain ⟨v, u, b, rfl, _⟩ := h
    rfl
  · obtain ⟨v, u, b, rfl, k, q⟩ := h
    refine ⟨_, (pss_cons (ps_if (PW.pt (pw_or (pt_not (pt_val (pe_callB call_isi (by rfl) T.n_isinstance (by decide +kernel) (pa_cons (pv 0) (pa_cons (pe_bltn (v := .ty "tuple") (by rfl) T.n_tuple (by decide +kernel) rfl) pa_nil))))) (pw_or1 (pt_not (pt_val (pe_callB call_isi (by rfl) T.n_isinstance (by decide +kernel) (pa_cons (pv 1) (pa_cons (pe_bltn (v := .ty "tuple") (by rfl) T.n_tuple (by decide +kernel) rfl) pa_nil)))))))) (pss_one (ps_ret pe_bl)) pss_nil)
      (pss_cons (ps_if (PW.pt (pw_or (pt_cmpR op_gt (pe_callB call_lenQ (by rfl) T.n_len (by decide +kernel) (pa_cons (pv 0) pa_nil)) (pe_glob (v := .int (16)) (by rfl) T.m_MAX_CONVERSIONS ⟨_, rfl⟩) (nomark _)) (pw_or1 (pt_cmpR op_gt (pe_callB call_lenQ (by rfl) T.n_len (by decide +kernel) (pa_cons (pv 1) pa_nil)) (pe_glob (v := .int (16)) (by rfl) T.m_MAX_CANDIDATES ⟨_, rfl⟩) (nomark _))))) (pss_one (ps_ret pe_bl)) pss_nil)
      (pss_cons (ps_if (pt_not (pt_val (pe_callB (cr_all rfl) (by rfl) T.n_all (by decide +kernel) (pa_cons (pe_lc (own := [("one", 2)]) (g := gName 2) (by rfl) sc_are_items.nd (pi_tup (pv 0)) (blkOk_by (own := [("one", 2)]) (N := ["conversions", "candidates", "one"]) (sc := defScope s_are_items) (by decide +kernel)) (fun _ _ _ _ _ => (pg_name (i := 2) sc_are_items.nd rfl (Or.inl rfl))) (fun _ _ _ _ _ => pts_nil) (fun _ _ _ _ _ => (pe_call (ok_is_conversion T) (hr.mono (by decide)) (by rfl) T.g_is_conversion T.F_is_conversion.kp T.b_is_conversion .nil pass0 (pa_cons (pv 2) pa_nil)))) pa_nil)))) (pss_one (ps_ret pe_bl)) pss_nil)
      (pss_cons (ps_if (pt_not (pt_val (pe_callB (cr_all rfl) (by rfl) T.n_all (by decide +kernel) (pa_cons (pe_lc (own := [("one", 2)]) (g := gName 2) (by rfl) sc_are_items.nd (pi_tup (pv 1)) (blkOk_by (own := [("one", 2)]) (N := ["conversions", "candidates", "one"]) (sc := defScope s_are_items) (by decide +kernel)) (fun _ _ _ _ _ => (pg_name (i := 2) sc_are_items.nd rfl (Or.inl rfl))) (fun _ _ _ _ _ => pts_nil) (fun _ _ _ _ _ => (pe_callB (call_isi : CallR _ _ (rIsi K)) (by rfl) T.n_isinstance (by decide +kernel) (pa_cons (pv 2) (pa_cons (pe_glob (v := .ref T.C_Candidate) (by rfl) T.m_Candidate rfl) pa_nil))))) pa_nil)))) (pss_one (ps_ret pe_bl)) pss_nil)
      (pss_cons (ps_if (pt_cmpR op_ne (pe_callB (call_lenN : CallR _ _ (rLenN w)) (by rfl) T.n_len (by decide +kernel) (pa_cons (pe_scG (new := fun a => SetNO w a []) (Add := AddN K w) (fun _ _ => setNO_new _ _ _ _) (fun _ _ _ _ => addR_n (u16 hr.units)) (own := [("one", 2)]) (g := gName 2) (by rfl) sc_are_items.nd (pi_tup (pv 0)) (blkOk_by (own := [("one", 2)]) (N := ["conversions", "candidates", "one"]) (sc := defScope s_are_items) (by decide +kernel)) (fun _ _ _ _ _ => (pg_name (i := 2) sc_are_items.nd rfl (Or.inl rfl))) (fun _ _ _ _ _ => pts_nil) (fun _ _ _ _ _ => (pe_slice (sl_tupA : SlR _ (rSlA K)) (pv 2) po_none (po_some pe_int)))) pa_nil)) (pe_callB call_lenQ (by rfl) T.n_len (by decide +kernel) (pa_cons (pv 0) pa_nil)) (nomark _)) (pss_one (ps_ret pe_bl)) pss_nil)
      (pss_one (ps_ret (pe_cmpR op_eq (pe_callB (call_lenN : CallR _ _ (rLenN w)) (by rfl) T.n_len (by decide +kernel) (pa_cons (pe_scG (new := fun a => SetNO w a []) (Add := AddN K w) (fun _ _ => setNO_new _ _ _ _) (fun _ _ _ _ => addR_n (u16 hr.units)) (own := [("one", 2)]) (g := gName 2) (by rfl) sc_are_items.nd (pi_tup (pv 1)) (blkOk_by (own := [("one", 2)]) (N := ["conversions", "candidates", "one"]) (sc := defScope s_are_items) (by decide +kernel)) (fun _ _ _ _ _ => (pg_name (i := 2) sc_are_items.nd rfl (Or.inl rfl))) (fun _ _ _ _ _ => pts_nil) (fun _ _ _ _ _ => (pe_slice (sl_tupA : SlR _ (rSlA K)) (pe_fld (pv 2) rfl : PE _ _ (tFld K _ _)) po_none (po_some pe_int)))) pa_nil)) (pe_callB call_lenQ (by rfl) T.n_len (by decide +kernel) (pa_cons (pv 1) pa_nil)) (nomark _))))))))), ?_⟩
    refine seqN fun N1 hN1 => ?_
    walk_at "rdx"
    -- both are short tuples
    have main : ∀ (a b' : Addr) (xs ys : List V) (f g : Nat → Bool), v = .ref a → u = .ref b' → SqT K H a xs → SqT K H b' ys → xs.length ≤ 16 → ys.length ≤ 16 → (∀ (i : Nat) x, xs[i]? = some x → CvIs H x (f i)) → (∀ (i : Nat) x, ys[i]? = some x → CdIs T.C_Candidate H x (g i)) →
        ((((List.range xs.length).all f && (List.range ys.length).all g) = false ∧ b = false) ∨ (((List.range xs.length).all f && (List.range ys.length).all g) = true ∧ ∃ (cvs : List Cv) (cds : List Cd), CvsA K H a cvs ∧ CdsA K T.C_Candidate H b' cds ∧ cvs.length ≤ 16 ∧ cds.length ≤ 16 ∧ b = (decide (cvs.map cvK).Nodup && decide (cds.map cdK).Nodup))) →
        N1 [some v, some u, none] H := by
      rintro a b' xs ys f g rfl rfl hx hy lx ly cv cd fin
      refine hN1 _ _ ?_
      refine seqN fun N2 hN2 => ?_
      walk_at "rdx"
      refine lenT hx ⟨_, rfl, iteN (by simp; omega) (lenT hy ⟨_, rfl, iteN (by simp; omega) (hN2 _ _ ?_)⟩)⟩
      refine seqN fun N3 hN3 => ?_
      walk_at "rdx"
      refine ⟨⟨_, hx⟩, lc_same walk_tup (fun i => .bl (f i)) (sz100 (by omega)) (fun H' s => Evl.ex_t s hx) ?_ mono_name mono_yes ?_⟩
      · rintro i x H1 H2 hi' hS ⟨rfl, hx'⟩ R hR
        walk_at "rd"
        exact ⟨x, f i, rfl, (cv i x hx').same hS, hR⟩
      intro H3 D3 s3 hD3 hL3
      have e3 : ((List.range xs.length).map fun i => V.bl (f i)) = ((List.range xs.length).map f).map V.bl := by rw [List.map_map]; rfl
      rw [e3] at hL3
      refine ⟨D3, _, rfl, .inl (.inl hL3), ?_⟩
      rw [List.all_map, show (id ∘ f) = f from rfl]
      refine ⟨_, rfl, ite2 (fun h => ?_) (fun h => hN3 _ _ ?_)⟩
      · have hf : (List.range xs.length).all f = false := by simpa using h
        rcases fin with ⟨_, rfl⟩ | ⟨e, _⟩
        · exact q _ s3
        · rw [hf] at e
          cases e
      have hf : (List.range xs.length).all f = true := by simpa using h
      refine seqN fun N4 hN4 => ?_
      walk_at "rdx"
      refine ⟨⟨_, Evl.ex_t s3 hy⟩, lc_same walk_tup (fun i => .bl (g i)) (sz100 (by omega)) (fun H' s => Evl.ex_t s (Evl.ex_t s3 hy)) ?_ mono_name mono_yes ?_⟩
      · rintro i x H1 H2 hi' hS ⟨rfl, hx'⟩ R hR
        walk_at "rd"
        have c := (cd i x hx').same (s3.trans hS)
        generalize g i = gi at *
        cases c with
        | non => exact ⟨_, _, _, _, false, rfl, .own _, .base .non, T.zn_Candidate, hR _ (Same.refl _)⟩
        | int i => exact ⟨_, _, _, _, false, rfl, .own _, .base (.int i), T.zi_Candidate, hR _ (Same.refl _)⟩
        | str z => exact ⟨_, _, _, _, false, rfl, .own _, .base (.str z), T.zs_Candidate, hR _ (Same.refl _)⟩
        | cd h =>
          obtain ⟨dx, pa, ra, ka, fs, hc⟩ := h
          exact ⟨_, _, _, _, true, rfl, .own _, T.tyC hc.at_, kit_same, hR _ (Same.refl _)⟩
      intro H4 D4 s4 hD4 hL4
      have e4 : ((List.range ys.length).map fun i => V.bl (g i)) = ((List.range ys.length).map g).map V.bl := by rw [List.map_map]; rfl
      rw [e4] at hL4
      refine ⟨D4, _, rfl, .inl (.inl hL4), ?_⟩
      rw [List.all_map, show (id ∘ g) = g from rfl]
      rw [hf, Bool.true_and] at fin
      refine ⟨_, rfl, ite2 (fun h => ?_) (fun h => hN4 _ _ ?_)⟩
      · have hg : (List.range ys.length).all g = false := by simpa using h
        rcases fin with ⟨_, rfl⟩ | ⟨e, _⟩
        · exact q _ (s3.trans s4)
        · rw [hg] at e
          cases e
      have hg : (List.range ys.length).all g = true := by simpa using h
      rcases fin with ⟨e, _⟩ | ⟨_, cvs, cds, hcv, hcd, lv, ld, rfl⟩
      · rw [hg] at e
        cases e
      clear hf hg cv cd hL3 hL4 hx hy lx ly
      have s04 := s3.trans s4
      obtain ⟨xs', hx, lx, fx⟩ := hcv
      obtain ⟨ys', hy, ly, fy⟩ := hcd
      refine seqN fun N5 hN5 => ?_
      walk_at "rdx"
      walk_at "rdx"
      have ek : cvs.map cvK = (List.range xs'.length).map fun i => (cvs[i]?.map cvK).getD .none := by rw [lx, range_opt]
      have ed : cds.map cdK = (List.range ys'.length).map fun i => (cds[i]?.map cdK).getD .none := by rw [ly, range_opt]
      rw [ek, ed] at q
      refine ⟨⟨_, Evl.ex_t s04 hx⟩, sc_nest walk_tup (fun i => (cvs[i]?.map cvK).getD .none) (by omega) (fun H' s => Evl.ex_t s (Evl.ex_t s04 hx)) ?_ mono_name mono_yes ?_⟩
      · rintro i x H1 H2 hi' hS ⟨rfl, hx'⟩ R hR
        have hc : i < cvs.length := by omega
        obtain ⟨b, e1, l, r, h1, h2, h3⟩ := fx i _ (List.getElem?_eq_getElem hc)
        rw [hx'] at e1
        cases e1
        rw [List.getElem?_eq_getElem hc] at hR
        generalize cvs[i] = c at *
        have sS := s04.trans hS
        walk_at "rdx"
        refine slT (sS _ _ h1) fun p H5 s5 hp => hR p H5 s5 ⟨.tup (sqt_of (show H5 p = some (.tup [.str (wK c.kd), .ref l, .ref r]) from hp)) (.cons (.str _) (.cons (nk_words (s5 _ _ (sS _ _ h2))) (.cons (nk_words (s5 _ _ (sS _ _ h3))) .nil))), dep_cv⟩
      intro H5 D5 L5 s5 hD5 hL5 k5
      have c5 := k5.count
      refine ⟨_, _, rfl, hL5, lenT (Evl.ex_t (s04.trans s5) hx) ⟨rfl, ?_⟩⟩
      have e5 : (!decide (V.int (L5.length : Int) = V.int (xs'.length : Int))) = !decide ((List.range xs'.length).map fun i => (cvs[i]?.map cvK).getD .none).Nodup := by
        congr 1
        rw [decide_eq_decide, ← c5]
        constructor
        · intro e
          injection e with e
          omega
        · intro e
          rw [e]
      rw [e5]
      refine ite2 (fun h => ?_) (fun h => hN5 _ _ ?_)
      · rw [Bool.not_eq_true'] at h
        rw [h, Bool.false_and] at q
        exact q _ (s04.trans s5)
      have h : decide ((List.range xs'.length).map fun i => (cvs[i]?.map cvK).getD .none).Nodup = true := by simpa using h
      rw [h, Bool.true_and] at q
      walk_at "rdx"
      walk_at "rdx"
      have s05 := s04.trans s5
      refine ⟨⟨_, Evl.ex_t s05 hy⟩, sc_nest walk_tup (fun i => (cds[i]?.map cdK).getD .none) (by omega) (fun H' s => Evl.ex_t s (Evl.ex_t s05 hy)) ?_ mono_name mono_yes ?_⟩
      · rintro i x H1 H2 hi' hS ⟨rfl, hx'⟩ R hR
        have hc : i < cds.length := by omega
        obtain ⟨b, e1, dx, pa, ra, ka, fs, h1⟩ := fy i _ (List.getElem?_eq_getElem hc)
        rw [hx'] at e1
        cases e1
        rw [List.getElem?_eq_getElem hc] at hR
        generalize cds[i] = c at *
        have sS := s05.trans hS
        walk_at "rdx"
        walk_at "rdx"
        refine ⟨_, _, _, sS _ _ h1.at_, T.cl_Candidate, T.no_Candidate_own_key, _, h1.f4, slT (sS _ _ h1.ky) fun p H5 s5 hp => hR p H5 s5 ⟨.tup (sqt_of (show H5 p = some (.tup [.str c.nm, .ref pa]) from hp)) (.cons (.str _) (.cons (nk_pts ((h1.ps.same sS).same s5)) .nil)), dep_cd⟩⟩
      intro H6 D6 L6 s6 hD6 hL6 k6
      have c6 := k6.count
      refine ⟨_, _, rfl, hL6, lenT (Evl.ex_t (s05.trans s6) hy) ⟨rfl, ?_⟩⟩
      have e6 : decide (V.int (L6.length : Int) = V.int (ys'.length : Int)) = decide ((List.range ys'.length).map fun i => (cds[i]?.map cdK).getD .none).Nodup := by
        rw [decide_eq_decide, ← c6]
        constructor
        · intro e
          injection e with e
          omega
        · intro e
          rw [e]
      rw [e6]
      exact q _ (s05.trans s6)
    cases k with
    | notL k n =>
      refine isi_kn k (kit_ntup k n) ?_
      walk_at "rd"
      exact q _ (Same.refl _)
    | notR h k n =>
      refine isi_sqt h ?_
      walk_at "rd"
      refine isi_kn k (kit_ntup k n) ?_
      walk_at "rd"
      exact q _ (Same.refl _)
    | many h h' n =>
      refine isi_sqt h ?_
      walk_at "rd"
      refine isi_sqt h' ?_
      walk_at "rd"
      refine hN1 _ _ (seqN fun N2 hN2 => ?_)
      walk_at "rdx"
      refine lenT h ⟨_, rfl, ite2 (fun _ => q _ (Same.refl _)) (fun e1 => lenT h' ⟨_, rfl, ite2 (fun _ => q _ (Same.refl _)) (fun e2 => absurd ⟨by simp at e1; omega, by simp at e2; omega⟩ n)⟩)⟩
    | bad h h' l l' cv cd n =>
      refine isi_sqt h ?_
      walk_at "rd"
      refine isi_sqt h' ?_
      walk_at "rd"
      exact main _ _ _ _ _ _ rfl rfl h h' l l' cv cd (.inl ⟨n, rfl⟩)
    | ok h h' l l' o =>
      obtain ⟨xs, hx, lx, fx⟩ := id h
      obtain ⟨ys, hy, ly, fy⟩ := id h'
      refine isi_sqt hx ?_
      walk_at "rd"
      refine isi_sqt hy ?_
      walk_at "rd"
      refine main _ _ _ _ (fun _ => true) (fun _ => true) rfl rfl hx hy (by omega) (by omega) (fun i x e => ?_) (fun i x e => ?_) (.inr ⟨by simp, _, _, h, h', l, l', rfl⟩)
      · rename_i cvs cds
        have hi : i < cvs.length := by rw [← lx]; exact (List.getElem?_eq_some_iff.mp e).1
        obtain ⟨b, e1, e2⟩ := fx i _ (List.getElem?_eq_getElem hi)
        rw [e] at e1
        cases e1
        exact e2.is (o _ (List.getElem_mem hi))
      · rename_i cvs cds
        have hi : i < cds.length := by rw [← ly]; exact (List.getElem?_eq_some_iff.mp e).1
        obtain ⟨b, e1, e2⟩ := fy i _ (List.getElem?_eq_getElem hi)
        rw [e] at e1
        cases e1
        exact .cd e2
end

local macro_rules | `(tactic| walk_at "rdx") => `(tactic| ((try simp only [tFld, gTup, gStar, tJs, tFmt, sFld, tSc_eq]); try walk_at "rd"))
section
variable {w : World} {K : PySem.W.Frag} {mg : Str → Option Value} {base : Heap}
/-- names in the tuple v -/
structure Nms (H : Hp) (v : V) (ws : List Str) (lo hi : Int) : Prop where
  at_ : ∃ a, v = .ref a ∧ H a = some (.tup (ws.map V.str))
  ok : namesV (ws.map V.str) lo hi = true
theorem Nms.same {H H' : Hp} {v : V} {ws : List Str} {lo hi : Int} (h : Nms H v ws lo hi) (s : Same H H') : Nms H' v ws lo hi := ⟨let ⟨a, e, h⟩ := h.at_; ⟨a, e, s _ _ h⟩, h.ok⟩
def apartB (ms bs : List Str) : Bool := !ms.any fun m => decide (m ∈ bs)
def withinB (ms bs : List Str) (it : Itm) : Bool := ((mksI it).all fun m => decide (m ∈ ms)) && (bssI it).all fun b => decide (b ∈ bs)
def itemsL (cvs : List Cv) (cds : List Cd) : List Itm := cvs.map .cv ++ cds.map .cd
theorem ItsIs.same {C : Addr} {H H' : Hp} {v u : V} {b : Bool} (h : ItsIs K C H v u b) (s : Same H H') : ItsIs K C H' v u b := by
  cases h with
  | notL k n => exact .notL (k.same s) n
  | notR h k n => exact .notR (Evl.ex_t s h) (k.same s) n
  | many h h' n => exact .many (Evl.ex_t s h) (Evl.ex_t s h') n
  | bad h h' l l' cv cd n => exact .bad (Evl.ex_t s h) (Evl.ex_t s h') l l' (fun i x e => (cv i x e).same s) (fun i x e => (cd i x e).same s) n
  | ok h h' l l' o => exact .ok (h.same s) (h'.same s) l l' o
/-- whether these are the parts of a library -/
inductive LibIs (K : PySem.W.Frag) (C : Addr) (H : Hp) : V → V → V → V → Bool → Prop
  | marks {m b v u : V} {xs : List V} {t : Bool} (h : Told H m xs t) (n : (t && namesV xs 0 8) = false) : LibIs K C H m b v u false
  | bases {m b v u : V} {ms : List Str} {xs : List V} {t : Bool} (hm : Nms H m ms 0 8) (h : Told H b xs t) (n : (t && namesV xs 1 8) = false) : LibIs K C H m b v u false
  | order {m b v u : V} {ms bs : List Str} (hm : Nms H m ms 0 8) (hb : Nms H b bs 1 8) (n : (ascB ms && ascB bs && apartB ms bs) = false) : LibIs K C H m b v u false
  | items {m b v u : V} {ms bs : List Str} (hm : Nms H m ms 0 8) (hb : Nms H b bs 1 8) (h : ItsIs K C H v u false) : LibIs K C H m b v u false
  | full {m b : V} {x y : Addr} {ms bs : List Str} {cvs : List Cv} {cds : List Cd} (hm : Nms H m ms 0 8) (hb : Nms H b bs 1 8) (o : (ascB ms && ascB bs && apartB ms bs) = true) (h : CvsA K H x cvs) (h' : CdsA K C H y cds) (l : cvs.length ≤ 16) (l' : cds.length ≤ 16) (o1 : ∀ c ∈ cvs, cvOk c = true) (o2 : ∀ c ∈ cds, CdOk c) :
      LibIs K C H m b (.ref x) (.ref y) (decide (cvs.map cvK).Nodup && decide (cds.map cdK).Nodup && (itemsL cvs cds).all (withinB ms bs))
theorem flat_words {ws : List Str} : (ws.map V.str).all flatV = true := by
  rw [List.all_map]
  exact List.all_eq_true.mpr fun _ _ => rfl
theorem in_words {z : Str} {ws : List Str} : inV (.str z) (ws.map V.str) = decide (z ∈ ws) := by
  induction ws with
  | nil => rfl
  | cons w ws ih =>
    show (eqV (.str w) (.str z) || inV (.str z) (ws.map V.str)) = _
    rw [ih]
    show ((w == z) || decide (z ∈ ws)) = _
    by_cases e : z = w
    · simp [e]
    · have : (w == z) = false := by simp; exact fun h => e h.symm
      rw [this, Bool.false_or, decide_eq_decide]
      simp [e]
theorem Nms.told {H : Hp} {v : V} {ws : List Str} {lo hi : Int} (h : Nms H v ws lo hi) : Told H v (ws.map V.str) true := by
  obtain ⟨a, rfl, e⟩ := h.at_
  exact told_st e (nm_sz (names_of h.ok).1)
theorem in_t {H : Hp} {a : Addr} {z : Str} {ws : List Str} {Q : VK} (h : H a = some (.tup (ws.map V.str))) (q : Q (.bl (decide (z ∈ ws))) H) : rIn K false (.str z) (.ref a) H Q := by
  refine ⟨a, _, rfl, .inr (sqt_of h), rfl, flat_words, ?_⟩
  show Q (.bl (inV (.str z) (ws.map V.str))) H
  rw [in_words]
  exact q
/-- [x in t for x in l], l and t texts: as a list of truths -/
theorem lc_in {J : It} {i : Nat} {te : TE} {σ : L2.St} {Q : VK} {H1 : Hp} {ws ts : List Str} {G : Hp → Prop} (wk : Walk J (ws.map V.str).length G (YAt (ws.map V.str))) (hG : ∀ H, Same H1 H → G H) (hl : ws.length ≤ 1000)
    (hw : ∀ x, wipe ((wipe σ [i]).set i x) [i] = wipe σ [i]) (ht : ∀ (z : Str) (H : Hp) (R : VK), Same H1 H → R (.bl (decide (z ∈ ts))) H → te ((wipe σ [i]).set i (some (.str z))) H R)
    (q : ∀ D H', Same H1 H' → H' D = some (.lst ((ws.map fun z => decide (z ∈ ts)).map V.bl)) → Q (.ref D) H') : LcB J (gName i) tYes te [i] σ Q H1 := by
  refine lc_same wk (fun n => .bl ((ws[n]?.map fun z => decide (z ∈ ts)).getD false)) (sz100 (by rw [List.length_map]; omega)) hG ?_ mono_name mono_yes ?_
  · rintro n x H H' hn hS ⟨rfl, hx⟩ R hR
    have hn' : n < ws.length := by rw [List.length_map] at hn; exact hn
    rw [List.getElem?_map, List.getElem?_eq_getElem hn'] at hx
    cases hx
    rw [List.getElem?_eq_getElem hn'] at hR
    refine ⟨hw _, rfl, ht _ _ _ hS (hR _ (Same.refl _))⟩
  · intro H D hS hD hL
    have e : ((List.range (ws.map V.str).length).map fun n => V.bl ((ws[n]?.map fun z => decide (z ∈ ts)).getD false)) = (ws.map fun z => decide (z ∈ ts)).map V.bl := by
      rw [List.length_map, ← range_opt (fun z => decide (z ∈ ts)) false, List.map_map]
      rfl
    rw [e] at hL
    exact q D H hS hL
def inv_lib (am ab x y : Addr) (ms bs : List Str) (its : List Itm) (H6 : Hp) : Nat → L2.St → Hp → Prop := fun i σ H' =>
  Same H6 H' ∧ (∃ a4 a5 a6, σ = [some (V.ref am), some (V.ref ab), some (V.ref x), some (V.ref y), a4, a5, a6, none, none, none]) ∧ (its.take i).all (withinB ms bs) = true
def sp_is_library_of (K : PySem.W.Frag) (C : Addr) : Sp := fun vs H Q _ => ∃ (m b v u : V) (r : Bool), vs = [m, b, v, u] ∧ LibIs K C H m b v u r ∧ ∀ H', Same H H' → Q (.bl r) H'
theorem ok_is_library_of (T : Tx K mg) : FnOk P w K mg base CX0 5 T.f_is_library_of T.d_is_library_of ["marks", "bases", "conversions", "candidates"] (sp_is_library_of K T.C_Candidate) := by
  refine T.F_is_library_of.ok sc_is_library_of (fun vs H Q E h => ?_) (fun cdv A outer s H vs Q E hr h => ?_)
  · obtain ⟨m, b, v, u, r, rfl, _⟩ := h
    rfl
  · obtain ⟨m, b, v, u, r, rfl, k, q⟩ := h
    refine ⟨_, (pss_cons (ps_if (PW.pt (pw_or (pt_not (pt_val (pe_call (ok_is_names T) (hr.mono (by decide)) (by rfl) T.g_is_names T.F_is_names.kp T.b_is_names .nil pass0 (pa_cons (pv 0) (pa_cons pe_int (pa_cons (pe_glob (v := .int (8)) (by rfl) T.m_MAX_MARKS ⟨_, rfl⟩) pa_nil)))))) (pw_or1 (pt_not (pt_val (pe_call (ok_is_names T) (hr.mono (by decide)) (by rfl) T.g_is_names T.F_is_names.kp T.b_is_names .nil pass0 (pa_cons (pv 1) (pa_cons pe_int (pa_cons (pe_glob (v := .int (8)) (by rfl) T.m_MAX_BASES ⟨_, rfl⟩) pa_nil))))))))) (pss_one (ps_ret pe_bl)) pss_nil)
      (pss_cons (ps_if (PW.pt (pw_or (pt_not (pt_val (pe_call (ok_is_ascending T) (hr.mono (by decide)) (by rfl) T.g_is_ascending T.F_is_ascending.kp T.b_is_ascending .nil pass0 (pa_cons (pv 0) pa_nil)))) (pw_or (pt_not (pt_val (pe_call (ok_is_ascending T) (hr.mono (by decide)) (by rfl) T.g_is_ascending T.F_is_ascending.kp T.b_is_ascending .nil pass0 (pa_cons (pv 1) pa_nil)))) (pw_or1 (pt_val (pe_callB (cr_any rfl) (by rfl) T.n_any (by decide +kernel) (pa_cons (pe_lc (own := [("name", 7)]) (g := gName 7) (by rfl) sc_is_library_of.nd (pi_tup (pv 0)) (blkOk_by (own := [("name", 7)]) (N := ["marks", "bases", "conversions", "candidates", "item", "own_marks", "own_bases", "name", "mark", "base"]) (sc := defScope s_is_library_of) (by decide +kernel)) (fun _ _ _ _ _ => (pg_name (i := 7) sc_is_library_of.nd rfl (Or.inl rfl))) (fun _ _ _ _ _ => pts_nil) (fun _ _ _ _ _ => (pe_cmpR (op_in_seq : OpR _ _ (rIn K false)) (pv 7) (pv 1) (by rfl)))) pa_nil))))))) (pss_one (ps_ret pe_bl)) pss_nil)
      (pss_cons (ps_if (pt_not (pt_val (pe_call (ok_are_items T) (hr.mono (by decide)) (by rfl) T.g_are_items T.F_are_items.kp T.b_are_items .nil pass0 (pa_cons (pv 2) (pa_cons (pv 3) pa_nil))))) (pss_one (ps_ret pe_bl)) pss_nil)
      (pss_cons (ps_for PassesOwn.never rfl (pi_tup (pe_tup (StX.pa_star (pv 2) (StX.pa_star (pv 3) pa_nil)))) (pg_name (i := 4) sc_is_library_of.nd rfl (Or.inl rfl)) (pss_cons (ps_asg (pe_call (ok_names_in T) (hr.mono (by decide)) (by rfl) T.g_names_in T.F_names_in.kp T.b_names_in .nil pass0 (pa_cons (pv 4) pa_nil)) (pg_tup (n := 2) rfl (pgs_cons (pg_name (i := 5) sc_is_library_of.nd rfl (Or.inl rfl)) (pgs_cons (pg_name (i := 6) sc_is_library_of.nd rfl (Or.inl rfl)) pgs_nil))))
      (pss_one (ps_if (PW.pt (pw_or (pt_not (pt_val (pe_callB (cr_all rfl) (by rfl) T.n_all (by decide +kernel) (pa_cons (pe_lc (own := [("mark", 8)]) (g := gName 8) (by rfl) sc_is_library_of.nd (pi_list (pv 5)) (blkOk_by (own := [("mark", 8)]) (N := ["marks", "bases", "conversions", "candidates", "item", "own_marks", "own_bases", "name", "mark", "base"]) (sc := defScope s_is_library_of) (by decide +kernel)) (fun _ _ _ _ _ => (pg_name (i := 8) sc_is_library_of.nd rfl (Or.inl rfl))) (fun _ _ _ _ _ => pts_nil) (fun _ _ _ _ _ => (pe_cmpR (op_in_seq : OpR _ _ (rIn K false)) (pv 8) (pv 0) (by rfl)))) pa_nil)))) (pw_or1 (pt_not (pt_val (pe_callB (cr_all rfl) (by rfl) T.n_all (by decide +kernel) (pa_cons (pe_lc (own := [("base", 9)]) (g := gName 9) (by rfl) sc_is_library_of.nd (pi_list (pv 6)) (blkOk_by (own := [("base", 9)]) (N := ["marks", "bases", "conversions", "candidates", "item", "own_marks", "own_bases", "name", "mark", "base"]) (sc := defScope s_is_library_of) (by decide +kernel)) (fun _ _ _ _ _ => (pg_name (i := 9) sc_is_library_of.nd rfl (Or.inl rfl))) (fun _ _ _ _ _ => pts_nil) (fun _ _ _ _ _ => (pe_cmpR (op_in_seq : OpR _ _ (rIn K false)) (pv 9) (pv 1) (by rfl)))) pa_nil))))))) (pss_one (ps_ret pe_bl)) pss_nil))))
      (pss_one (ps_ret pe_bl)))))), ?_⟩
    refine seqN fun N1 hN1 => ?_
    walk_at "rdx"
    have rest : ∀ (ms bs : List Str) (H1 : Hp), Same H H1 → Nms H m ms 0 8 → Nms H b bs 1 8 → (((ascB ms && ascB bs && apartB ms bs) = false ∧ r = false) ∨ ((ascB ms && ascB bs && apartB ms bs) = true ∧ ((ItsIs K T.C_Candidate H v u false ∧ r = false) ∨
        ∃ x y cvs cds, v = .ref x ∧ u = .ref y ∧ CvsA K H x cvs ∧ CdsA K T.C_Candidate H y cds ∧ cvs.length ≤ 16 ∧ cds.length ≤ 16 ∧ (∀ c ∈ cvs, cvOk c = true) ∧ (∀ c ∈ cds, CdOk c) ∧ r = (decide (cvs.map cvK).Nodup && decide (cds.map cdK).Nodup && (itemsL cvs cds).all (withinB ms bs))))) → N1 [some m, some b, some v, some u, none, none, none, none, none, none] H1 := by
      intro ms bs H1 s1 hm hb fin
      obtain ⟨am, rfl, fm⟩ := hm.at_
      obtain ⟨ab, rfl, fb⟩ := hb.at_
      have lm : ms.length ≤ 8 := by have := names_of hm.ok; omega
      have lb : bs.length ≤ 8 := by have := names_of hb.ok; omega
      refine hN1 _ _ (seqN fun N2 hN2 => ?_)
      walk_at "rdx"
      have no : ∀ {H'}, Same H H' → (ascB ms && ascB bs && apartB ms bs) = false → Q (.bl false) H' := fun s' e => by
        rcases fin with ⟨_, rfl⟩ | ⟨e', _⟩
        · exact q _ s'
        · rw [e] at e'
          cases e'
      refine ⟨am, ms, rfl, s1 _ _ fm, by omega, fun H2 s2 => ?_⟩
      walk_at "rd"
      refine ite2 (fun h => no (s1.trans s2) (by have : ascB ms = false := by simpa using h
                                                 rw [this, Bool.false_and, Bool.false_and])) (fun h1 => ?_)
      have s02 := s1.trans s2
      refine ⟨ab, bs, rfl, s02 _ _ fb, by omega, fun H3 s3 => ?_⟩
      walk_at "rd"
      refine ite2 (fun h => no (s02.trans s3) (by have : ascB bs = false := by simpa using h
                                                  rw [this, Bool.and_false, Bool.false_and])) (fun h2 => ?_)
      have h1' : ascB ms = true := by simpa using h1
      have h2' : ascB bs = true := by simpa using h2
      rw [h1', h2', Bool.true_and, Bool.true_and] at fin no
      have s03 := s02.trans s3
      refine ⟨⟨_, sqt_of (s03 _ _ fm)⟩, lc_in (ts := bs) walk_tup (fun H' s' => sqt_of (s' _ _ (s03 _ _ fm))) (by omega) (fun _ => rfl) (fun z H' R s' r => ⟨_, rfl, _, rfl, in_t (s' _ _ (s03 _ _ fb)) r⟩) fun D4 H4 s4 h4 => ⟨D4, _, rfl, sql_of h4, ?_⟩⟩
      rw [List.any_map]
      walk_at "rd"
      have s04 := s03.trans s4
      have ea : (ms.any (id ∘ fun z => decide (z ∈ bs))) = !apartB ms bs := by
        unfold apartB
        rw [Bool.not_not]
        rfl
      rw [ea]
      refine ite2 (fun h => no s04 (by simpa using h)) (fun h => hN2 _ _ ?_)
      have h3 : apartB ms bs = true := by simpa using h
      rcases fin with ⟨e, _⟩ | ⟨_, fin⟩
      · rw [h3] at e
        cases e
      refine seqN fun N3 hN3 => ?_
      walk_at "rdx"
      rcases fin with ⟨fi, rfl⟩ | ⟨x, y, cvs, cds, rfl, rfl, hcv, hcd, lv, ld, ov, od, rfl⟩
      · refine ⟨v, u, false, rfl, fi.same s04, fun H5 s5 => ?_⟩
        walk_at "rd"
        exact q _ (s04.trans s5)
      refine ⟨_, _, _, rfl, .ok (hcv.same s04) (hcd.same s04) lv ld ov, fun H5 s5 => ?_⟩
      walk_at "rd"
      have s05 := s04.trans s5
      refine ite2 (fun h => ?_) (fun h => hN3 _ _ (seqN fun N4 hN4 => ?_))
      · have : (decide (cvs.map cvK).Nodup && decide (cds.map cdK).Nodup) = false := by rw [Bool.not_eq_true'] at h; exact h
        rw [this, Bool.false_and] at q
        exact q _ s05
      have hk : (decide (cvs.map cvK).Nodup && decide (cds.map cdK).Nodup) = true := by rw [Bool.not_eq_true', Bool.not_eq_false] at h; exact h
      rw [hk, Bool.true_and] at q
      clear hk h
      walk_at "rdx"
      simp only [StX.tStar]
      walk_at "rdx"
      obtain ⟨xs, hx, lx, fx⟩ := hcv.same s05
      obtain ⟨ys, hy, ly, fy⟩ := hcd.same s05
      refine ⟨_, .inl hx, _, .inl hy, sz100 (by rw [List.length_append]; omega), fun p6 hp6 => ?_⟩
      have s6 := same_new (o := .tup (xs ++ ys)) hp6
      have f6 : upd H5 p6 (.tup (xs ++ ys)) p6 = some (.tup (xs ++ ys)) := upd_same
      generalize upd H5 p6 (.tup (xs ++ ys)) = H6 at *
      have s06 := s05.trans s6
      have lz : (xs ++ ys).length = (itemsL cvs cds).length := by
        unfold itemsL
        rw [List.length_append, List.length_append, List.length_map, List.length_map, lx, ly]
      have at_ : ∀ (i : Nat) it, (itemsL cvs cds)[i]? = some it → ∃ b, (xs ++ ys)[i]? = some (.ref b) ∧ ItmA H6 T.C_Candidate b it ∧ ItmOk it := by
        intro i it e
        unfold itemsL at e
        by_cases hi : i < cvs.length
        · rw [List.getElem?_append_left (by rw [List.length_map]; exact hi), List.getElem?_map, List.getElem?_eq_getElem hi] at e
          cases e
          obtain ⟨b, e1, e2⟩ := fx i _ (List.getElem?_eq_getElem hi)
          refine ⟨b, by rw [List.getElem?_append_left (by omega)]; exact e1, cvA.same e2 s6, ov _ (List.getElem_mem hi)⟩
        · rw [List.getElem?_append_right (by rw [List.length_map]; omega), List.length_map, List.getElem?_map] at e
          have hj : i - cvs.length < cds.length := by
            by_cases hj : i - cvs.length < cds.length
            · exact hj
            · rw [List.getElem?_eq_none (by omega)] at e
              cases e
          rw [List.getElem?_eq_getElem hj] at e
          cases e
          obtain ⟨b, e1, e2⟩ := fy _ _ (List.getElem?_eq_getElem hj)
          refine ⟨b, by rw [List.getElem?_append_right (by omega), lx]; exact e1, Cnd.same e2 s6, od _ (List.getElem_mem hj)⟩
      generalize xs ++ ys = zs at *
      generalize itemsL cvs cds = its at *
      refine ⟨⟨_, sqt_of f6⟩, forB walk_tup (inv_lib am ab x y ms bs its H6) ⟨Same.refl _, ⟨_, _, _, rfl⟩, rfl⟩ (fun i σ H' _ h => sqt_of (h.1 _ _ f6)) ?_ ?_⟩
      · rintro i z σ H7 H8 hi ⟨s7, ⟨a4, a5, a6, rfl⟩, al⟩ ⟨rfl, hz⟩
        have hii : i < its.length := by rw [← lz]; exact hi
        have ei := List.getElem?_eq_getElem hii
        obtain ⟨bz, e1, e2, e3⟩ := at_ i _ ei
        rw [hz] at e1
        cases e1
        have tk : its.take (i + 1) = its.take i ++ [its[i]] := by rw [List.take_add_one, ei]; rfl
        have fl : withinB ms bs its[i] = false → its.all (withinB ms bs) = false := fun h => by
          rw [Bool.eq_false_iff]
          intro h'
          have := List.all_eq_true.mp h' _ (List.getElem_mem hii)
          rw [h] at this
          cases this
        generalize its[i] = it at *
        obtain ⟨sl, so⟩ := sides_ok e3
        have lmk : (mksI it).length ≤ 40 := by
          unfold mksI mksS
          rw [List.length_append]
          have h1 := flat_le (f := id) (n := 4) (k := 5) (l := frontsOf (sidesI it)) (Nat.le_trans (List.length_filterMap_le ..) sl) fun ws h => (so _ (fr_mem h)).2.1
          have h2 := flat_le (f := List.dropLast) (n := 4) (k := 5) (l := typesOf (sidesI it)) (Nat.le_trans (List.length_filterMap_le ..) sl) fun ws h => by rw [List.length_dropLast]; have : ws.length ≤ 5 := (so _ (ty_mem h)).2.1; omega
          rw [List.flatMap_id] at h1
          omega
        have lbs : (bssI it).length ≤ 40 := by
          unfold bssI bssS
          rw [List.length_map]
          have := List.length_filterMap_le (fun p : Bool × List Str => if p.1 then none else some p.2) (sidesI it)
          unfold typesOf
          omega
        walk_at "rdx"
        refine ⟨bz, it, rfl, e2.same s7, e3, fun H9 p9 m9 b9 s9 hp9 hm9 hb9 => ?_⟩
        walk_at "rdx"
        have s09 := (s06.trans s7).trans s9
        refine ⟨_, sqt_of hp9, rfl, _, _, rfl, _, _, rfl, rfl, ?_⟩
        walk_at "rdx"
        refine ⟨⟨_, sql_of hm9⟩, ?_⟩
        refine lc_in (ts := ms) walk_list (fun H' s' => sql_of (s' _ _ hm9)) (by omega) (fun _ => rfl) (fun z H' R s' r => ⟨_, rfl, _, rfl, in_t (s' _ _ (s09 _ _ fm)) r⟩) fun D10 H10 s10 h10 => ⟨D10, _, rfl, sql_of h10, ?_⟩
        rw [List.all_map, show (id ∘ fun z => decide (z ∈ ms)) = fun z => decide (z ∈ ms) from rfl]
        walk_at "rd"
        have s010 := s09.trans s10
        have wb : withinB ms bs it = (((mksI it).all fun m => decide (m ∈ ms)) && (bssI it).all fun b => decide (b ∈ bs)) := rfl
        refine ite2 (fun h => ?_) (fun h => ?_)
        · have h' : ((mksI it).all fun m => decide (m ∈ ms)) = false := by rw [Bool.not_eq_true'] at h; exact h
          rw [h', Bool.false_and] at wb
          rw [fl wb] at q
          exact q _ s010
        have h1 : ((mksI it).all fun m => decide (m ∈ ms)) = true := by rw [Bool.not_eq_true', Bool.not_eq_false] at h; exact h
        refine ⟨⟨_, sql_of (s10 _ _ hb9)⟩, lc_in (ts := bs) walk_list (fun H' s' => sql_of (s' _ _ (s10 _ _ hb9))) (by omega) (fun _ => rfl) (fun z H' R s' r => ⟨_, rfl, _, rfl, in_t (s' _ _ (s010 _ _ fb)) r⟩) fun D11 H11 s11 h11 => ⟨D11, _, rfl, sql_of h11, ?_⟩⟩
        rw [List.all_map, show (id ∘ fun z => decide (z ∈ bs)) = fun z => decide (z ∈ bs) from rfl]
        walk_at "rd"
        refine ite2 (fun h => ?_) (fun h => ?_)
        · have h' : ((bssI it).all fun m => decide (m ∈ bs)) = false := by rw [Bool.not_eq_true'] at h; exact h
          rw [h', Bool.and_false] at wb
          rw [fl wb] at q
          exact q _ (s010.trans s11)
        have h2 : ((bssI it).all fun m => decide (m ∈ bs)) = true := by rw [Bool.not_eq_true', Bool.not_eq_false] at h; exact h
        refine ⟨((s7.trans s9).trans s10).trans s11, ⟨_, _, _, rfl⟩, ?_⟩
        rw [tk, List.all_append, al, List.all_cons, wb, h1, h2]
        rfl
      · rintro σ H7 ⟨s7, ⟨a4, a5, a6, rfl⟩, al⟩
        refine hN4 _ _ ?_
        walk_at "rd"
        rw [lz, List.take_length] at al
        rw [al] at q
        exact q _ (s06.trans s7)
    cases k with
    | marks h n =>
      refine ⟨m, _, _, 0, 8, rfl, by decide, h, fun H1 s1 => ?_⟩
      walk_at "rd"
      rw [n]
      exact iteP rfl (q _ s1)
    | bases hm h n =>
      refine ⟨m, _, _, 0, 8, rfl, by decide, hm.told, fun H1 s1 => ?_⟩
      walk_at "rd"
      rw [hm.ok]
      refine iteN (by simp) ⟨b, _, _, 1, 8, rfl, by decide, Told.same h s1, fun H2 s2 => ?_⟩
      walk_at "rd"
      rw [n]
      exact iteP rfl (q _ (s1.trans s2))
    | order hm hb n =>
      refine ⟨m, _, _, 0, 8, rfl, by decide, hm.told, fun H1 s1 => ?_⟩
      walk_at "rd"
      rw [hm.ok]
      refine iteN (by simp) ⟨b, _, _, 1, 8, rfl, by decide, Told.same hb.told s1, fun H2 s2 => ?_⟩
      walk_at "rd"
      rw [hb.ok]
      exact iteN (by simp) (rest _ _ _ (s1.trans s2) hm hb (.inl ⟨n, rfl⟩))
    | items hm hb h =>
      refine ⟨m, _, _, 0, 8, rfl, by decide, hm.told, fun H1 s1 => ?_⟩
      walk_at "rd"
      rw [hm.ok]
      refine iteN (by simp) ⟨b, _, _, 1, 8, rfl, by decide, Told.same hb.told s1, fun H2 s2 => ?_⟩
      walk_at "rd"
      rw [hb.ok]
      refine iteN (by simp) (rest _ _ _ (s1.trans s2) hm hb ?_)
      rename_i ms bs
      cases e : ascB ms && ascB bs && apartB ms bs
      · exact .inl ⟨rfl, rfl⟩
      · exact .inr ⟨rfl, .inl ⟨h, rfl⟩⟩
    | full hm hb o h h' l l' o1 o2 =>
      refine ⟨m, _, _, 0, 8, rfl, by decide, hm.told, fun H1 s1 => ?_⟩
      walk_at "rd"
      rw [hm.ok]
      refine iteN (by simp) ⟨b, _, _, 1, 8, rfl, by decide, Told.same hb.told s1, fun H2 s2 => ?_⟩
      walk_at "rd"
      rw [hb.ok]
      exact iteN (by simp) (rest _ _ _ (s1.trans s2) hm hb (.inr ⟨o, .inr ⟨_, _, _, _, rfl, rfl, h, h', l, l', o1, o2, rfl⟩⟩))
end

local macro_rules | `(tactic| walk_at "rdx") => `(tactic| ((try simp only [tFld, gTup, gStar, tJs, tFmt, sFld, tSc_eq]); try walk_at "rd"))
section
variable {w : World} {K : PySem.W.Frag} {mg : Str → Option Value} {base : Heap}
/-- a library, by its parts in their orders -/
structure Lb where
  ms : List Str
  bs : List Str
  cv : List Cv
  cd : List Cd
structure LbF (K : PySem.W.Frag) (CL CC : Addr) (H : Hp) (a : Addr) (l : Lb) (dx am ab ac ad : Addr) (fs : List (Str × V)) : Prop where
  at_ : H a = some (.ins CL dx fs)
  f1 : fs.lookup ("own_marks" : Str) = some (.ref am)
  f2 : fs.lookup ("own_bases" : Str) = some (.ref ab)
  f3 : fs.lookup ("own_conversions" : Str) = some (.ref ac)
  f4 : fs.lookup ("own_candidates" : Str) = some (.ref ad)
  f5 : fs.lookup ("named" : Str) = none
  f6 : fs.lookup ("accepts" : Str) = none
  hm : H am = some (.tup (l.ms.map V.str))
  hb : H ab = some (.tup (l.bs.map V.str))
  hc : CvsA K H ac l.cv
  hd : CdsA K CC H ad l.cd
theorem LbF.same {CL CC a dx am ab ac ad : Addr} {H H' : Hp} {l : Lb} {fs : List (Str × V)} (h : LbF K CL CC H a l dx am ab ac ad fs) (s : Same H H') : LbF K CL CC H' a l dx am ab ac ad fs := ⟨s _ _ h.at_, h.f1, h.f2, h.f3, h.f4, h.f5, h.f6, s _ _ h.hm, s _ _ h.hb, h.hc.same s, h.hd.same s⟩
def LbA (K : PySem.W.Frag) (CL CC : Addr) (H : Hp) (a : Addr) (l : Lb) : Prop := ∃ dx am ab ac ad fs, LbF K CL CC H a l dx am ab ac ad fs
theorem LbA.same {CL CC a : Addr} {H H' : Hp} {l : Lb} (h : LbA K CL CC H a l) (s : Same H H') : LbA K CL CC H' a l := let ⟨dx, am, ab, ac, ad, fs, x⟩ := h; ⟨dx, am, ab, ac, ad, fs, x.same s⟩
end

local macro_rules | `(tactic| walk_at "rdx") => `(tactic| ((try simp only [tFld, gTup, gStar, tJs, tFmt, sFld, tSc_eq]); try walk_at "rd"))
section
variable {w : World} {K : PySem.W.Frag} {mg : Str → Option Value} {base : Heap}
/-- the tables of the defs that make lambdas -/
abbrev tabs (T : Tx K mg) : List (Addr × Str) := [(T.P_Library___init__, ("Library.__init__" : Str) ++ ".<locals>." ++ "<lambda>")]
theorem tabs_u_Library___init__ (T : Tx K mg) : ∀ p ∈ tabs T, p.1 = T.P_Library___init__ → p.2 = ("Library.__init__" : Str) ++ ".<locals>." ++ "<lambda>" := by
  intro p hp e
  simp only [tabs, List.mem_cons, List.not_mem_nil, or_false] at hp
  rcases hp with rfl
  · rfl
/-- all stays but the tables and what stands at x -/
def Bx (x : Addr) (H H' : Hp) : Prop := ∀ b o, b ≠ x → (∀ ps, o ≠ HO.tbl ps) → H b = some o → H' b = some o
theorem Bx.refl (x : Addr) (H : Hp) : Bx x H H := fun _ _ _ _ h => h
theorem Bx.same {x : Addr} {H H1 H2 : Hp} (g : Bx x H H1) (s : Same H1 H2) : Bx x H H2 := fun b o n z h => s _ _ (g b o n z h)
theorem Bx.ext {x : Addr} {H H1 H2 : Hp} (g : Bx x H H1) (s : LamX.ExtN H1 H2) : Bx x H H2 := fun b o n z h => s _ _ (g b o n z h) z
theorem Bx.mut {x : Addr} {H H1 : Hp} {o : HO} (g : Bx x H H1) : Bx x H (upd H1 x o) := fun b u n z h => by
  rw [upd_ne n]
  exact g b u n z h
section
variable {x : Addr} {H H' : Hp} {CL dx : Addr} {fs : List (Str × V)}
theorem Bx.tup (g : Bx x H H') (hx : H x = some (.ins CL dx fs)) {a : Addr} {xs : List V} (h : H a = some (.tup xs)) : H' a = some (.tup xs) := g _ _ (ne_of h hx (fun e => nomatch e)) (fun ps e => nomatch e) h
theorem Bx.sqt (g : Bx x H H') (hx : H x = some (.ins CL dx fs)) {a : Addr} {xs : List V} (h : SqT K H a xs) : SqT K H' a xs := by
  rcases h with (h | ⟨u, h⟩) | h
  · exact .inl (.inl (g.tup hx h))
  · exact .inl (.inr ⟨u, g _ _ (ne_of h hx (fun e => nomatch e)) (fun ps e => nomatch e) h⟩)
  · exact .inr h
theorem Bx.cvs (g : Bx x H H') (hx : H x = some (.ins CL dx fs)) {a : Addr} {cs : List Cv} (h : CvsA K H a cs) : CvsA K H' a cs := by
  obtain ⟨xs, h1, h2, h3⟩ := h
  refine ⟨xs, g.sqt hx h1, h2, fun i c e => ?_⟩
  obtain ⟨b, e1, l, r, k1, k2, k3⟩ := h3 i c e
  exact ⟨b, e1, l, r, g.tup hx k1, g.tup hx k2, g.tup hx k3⟩
theorem Bx.pts (g : Bx x H H') (hx : H x = some (.ins CL dx fs)) {a : Addr} {ps : List (Bool × List Str)} (h : ptsA H a ps) : ptsA H' a ps := by
  obtain ⟨xs, h1, h2, h3⟩ := h
  refine ⟨xs, g.tup hx h1, h2, fun i p e => ?_⟩
  obtain ⟨b, e1, c, k1, k2⟩ := h3 i p e
  exact ⟨b, e1, c, g.tup hx k1, g.tup hx k2⟩
theorem Bx.cnd (g : Bx x H H') (hx : H x = some (.ins CL dx fs)) (hn : fs.lookup ("own_name" : Str) = none) {C a : Addr} {c : Cd} (h : Cnd H C a c) : Cnd H' C a c := by
  obtain ⟨dx1, pa, ra, ka, fs1, k⟩ := h
  obtain ⟨rb, r1, r2⟩ := k.rs
  refine ⟨dx1, pa, ra, ka, fs1, g _ _ (fun e => ?_) (fun ps e => nomatch e) k.at_, k.f1, k.f2, k.f3, k.f4, g.pts hx k.ps, ⟨rb, g.tup hx r1, g.tup hx r2⟩, g.tup hx k.ky⟩
  have := k.at_
  rw [e, hx] at this
  cases this
  have := k.f1
  rw [hn] at this
  cases this
theorem Bx.cds (g : Bx x H H') (hx : H x = some (.ins CL dx fs)) (hn : fs.lookup ("own_name" : Str) = none) {C a : Addr} {cs : List Cd} (h : CdsA K C H a cs) : CdsA K C H' a cs := by
  obtain ⟨xs, h1, h2, h3⟩ := h
  refine ⟨xs, g.sqt hx h1, h2, fun i c e => ?_⟩
  obtain ⟨b, e1, k⟩ := h3 i c e
  exact ⟨b, e1, g.cnd hx hn k⟩
theorem tabs_ins {T : List (Addr × Str)} {o : HO} (t : LamX.Tabs T H) (hx : H x = some (.ins CL dx fs)) : LamX.Tabs T (upd H x o) := by
  intro p hp
  obtain ⟨ps, h1, h2, h3⟩ := t p hp
  refine ⟨ps, ?_, h2, fun pos cv hc => ?_⟩
  · rw [upd_ne (ne_of h1 hx (fun e => nomatch e))]
    exact h1
  · obtain ⟨c, e, hcO⟩ := h3 pos cv hc
    refine ⟨c, e, ?_⟩
    rw [upd_ne (ne_of hcO hx (fun e => nomatch e))]
    exact hcO
theorem tabs_same {T : List (Addr × Str)} (t : LamX.Tabs T H) (s : Same H H') : LamX.Tabs T H' := fun p hp => (t p hp).ext s
end
/-- the data of a conversion, of a candidate's key -/
def cvN (c : Cv) : NestedKey := .tup [.text (wK c.kd), wordsK c.lf, wordsK c.rt, .num c.rk]
def cvD (c : Cv) : PyData := dOf (cvN c)
def ckD (c : Cd) : PyData := dOf (cdK c)
def sortCv (cs : List Cv) : List Cv := cs.mergeSort (PySem.W.dataLe false cvD)
def sortCd (cs : List Cd) : List Cd := cs.mergeSort (PySem.W.dataLe false ckD)
theorem nk_cv {H : Hp} {a : Addr} {c : Cv} (h : cvA H a c) : NkV K H (cvN c) (.ref a) := by
  obtain ⟨l, r, h1, h2, h3⟩ := h
  exact .tup (sqt_of h1) (.cons (.str _) (.cons (nk_words h2) (.cons (nk_words h3) (.cons (.int _) .nil))))
theorem dep_cvN {c : Cv} : (cvN c).depth ≤ 8 := Nat.le_trans (dep_tup (n := 1) fun k hk => by
  simp only [List.mem_cons, List.not_mem_nil, or_false] at hk
  rcases hk with rfl | rfl | rfl | rfl
  · exact Nat.zero_le _
  · exact dep_words
  · exact dep_words
  · exact Nat.zero_le _) (by decide)
open PySem.W in
theorem alike_words : ∀ xs ys : List Str, alikeAll (dsOf (xs.map NestedKey.text)) (dsOf (ys.map NestedKey.text)) = true
  | [], _ => by rw [List.map_nil, dsOf]; cases dsOf (List.map NestedKey.text _) <;> rfl
  | _ :: _, [] => by rw [List.map_nil, List.map_cons, dsOf, dsOf]; rfl
  | x :: xs, y :: ys => by
    rw [List.map_cons, List.map_cons, dsOf, dsOf]
    show (alike (dOf (.text x)) (dOf (.text y)) && _) = true
    rw [alike_words xs ys]
    rfl
open PySem.W in
theorem alike_cv (c d : Cv) : alike (cvD c) (cvD d) = true := by
  unfold cvD cvN wordsK
  simp only [dOf, dsOf, alike, alikeAll, alike_words, Bool.true_and, Bool.and_true]
open PySem.W in
theorem alike_pt (p q : Bool × List Str) : alike (dOf (ptK p)) (dOf (ptK q)) = true := by
  unfold ptK wordsK
  simp only [dOf, dsOf, alike, alikeAll, alike_words, Bool.true_and, Bool.and_true]
open PySem.W in
theorem alike_pts : ∀ xs ys : List (Bool × List Str), alikeAll (dsOf (xs.map ptK)) (dsOf (ys.map ptK)) = true
  | [], _ => by rw [List.map_nil, dsOf]; cases dsOf (List.map ptK _) <;> rfl
  | _ :: _, [] => by rw [List.map_nil, List.map_cons, dsOf, dsOf]; rfl
  | x :: xs, y :: ys => by
    rw [List.map_cons, List.map_cons, dsOf, dsOf]
    show (alike (dOf (ptK x)) (dOf (ptK y)) && _) = true
    rw [alike_pt, alike_pts xs ys]
    rfl
open PySem.W in
theorem alike_ck (c d : Cd) : alike (ckD c) (ckD d) = true := by
  unfold ckD cdK
  simp only [dOf, dsOf, alike, alikeAll, alike_pts, Bool.true_and, Bool.and_true]
def MadeL (K : PySem.W.Frag) (CL CC : Addr) (H H' : Hp) (x : Addr) (l : Lb) : Prop := Bx x H H' ∧ LbA K CL CC H' x l
def spx_lib (K : PySem.W.Frag) (T : List (Addr × Str)) (CI CL CC : Addr) : Sp := fun vs H Q E => ∃ (x dx : Addr) (m b v u : V) (r : Bool), vs = [.ref x, m, b, v, u] ∧ H x = some (.ins CL dx []) ∧ LamX.Tabs T H ∧ LibIs K CC H m b v u r ∧
  (r = false → ∀ H', Same H H' → E (.ref CI) none H') ∧ (r = true → ∃ (ms bs : List Str) (cvs : List Cv) (cds : List Cd) (y z : Addr), Nms H m ms 0 8 ∧ Nms H b bs 1 8 ∧ v = .ref y ∧ u = .ref z ∧ CvsA K H y cvs ∧ CdsA K CC H z cds ∧ cvs.length ≤ 16 ∧ cds.length ≤ 16 ∧
    ∀ H', MadeL K CL CC H H' x ⟨ms, bs, sortCv cvs, sortCd cds⟩ → LamX.Tabs T H' → Q .non H')
theorem ok_Library___init__ (T : Tx K mg) (TB_Library___init__ : LamX.TabB base mg T.c_Library___init__ T.P_Library___init__) : FnOk P w K mg base (L2.CX P w) 6 T.f_Library___init__ T.d_Library___init__ ["self", "marks", "bases", "conversions", "candidates"] (spx_lib K (tabs T) T.C_InvalidLibrary T.C_Library T.C_Candidate) := by
  refine okXL T.F_Library___init__ T.k_Library___init__ sc_Library___init__ (fun vs H Q E h => ?_) (fun A outer s H vs Q E hr h => ?_)
  · obtain ⟨x, dx, m, b, v, u, r, rfl, _⟩ := h
    rfl
  · obtain ⟨x, dx, m, b, v, u, r, rfl, hx, hT, hl, q0, q1⟩ := h
    refine ⟨_, (pss_cons (ps_if (pt_not (pt_val (pe_call (ok_is_library_of T) (hr.mono (by decide)) (by rfl) T.g_is_library_of T.F_is_library_of.kp T.b_is_library_of .nil pass0 (pa_cons (pv 1) (pa_cons (pv 2) (pa_cons (pv 3) (pa_cons (pv 4) pa_nil))))))) (pss_one (ps_raise rfl (takes_of rfl rfl rfl rfl) (pmk_own PySem.F.excBase_ValueError T.x_InvalidLibrary.ex T.x_InvalidLibrary.g T.x_InvalidLibrary.kp (raises_own T.x_InvalidLibrary.sb T.x_InvalidLibrary.ty) (by rfl)))) pss_nil)
      (pss_cons (ps_fld (pv 0) (pv 1) rfl)
      (pss_cons (ps_fld (pv 0) (pv 2) rfl)
      (pss_cons (ps_fld (pv 0) (pe_callTy call_tupL (by rfl) T.n_tuple (by decide +kernel) (pa_cons (pe_callB (cr_sortD (u16 hr.units)) (by rfl) T.n_sorted (by decide +kernel) (pa_cons (pv 3) pa_nil)) pa_nil)) rfl)
      (pss_cons (ps_fld (pv 0) (pe_callTy call_tupL (by rfl) T.n_tuple (by decide +kernel) (pa_cons (pe_sortKey (T := tabs T) (k := 1) (KeyOf := KeyA K T.C_Candidate "own_key") (pv 4) (by rfl) T.n_sorted TB_Library___init__ rfl (List.mem_cons_self) (tabs_u_Library___init__ T) (hr.mono (by decide)) (u16 hr.units) rfl rfl rfl rfl rfl (fun _ _ _ _ _ => rfl) (kb_attr2 T.cl_Candidate T.no_Candidate_own_key (fun _ => rfl) rfl)) pa_nil)) rfl)
      (pss_one (ps_fld (pv 0) pe_dnewK rfl))))))), ?_⟩
    walk_at "rd"
    refine ⟨m, b, v, u, r, rfl, hl, fun H1 s1 => ?_⟩
    walk_at "rd"
    refine ite2 (fun e => q0 (by simpa using e) H1 s1) (fun e => ?_)
    obtain ⟨ms, bs, cvs, cds, y, z, hm, hb, rfl, rfl, hcv, hcd, z1, z2, q⟩ := q1 (by simpa using e)
    clear q0 q1 e hl
    obtain ⟨am, rfl, fm⟩ := hm.at_
    obtain ⟨ab, rfl, fb⟩ := hb.at_
    have hx1 := s1 _ _ hx
    have t1 := tabs_same hT s1
    have hcv1 := hcv.same s1
    have hcd1 := hcd.same s1
    have B1 : Bx x H H1 := (Bx.refl x H).same s1
    walk_at "rdx"
    refine ⟨_, _, _, hx1, T.cl_Library, T.no_Library_own_marks, by decide, ?_⟩
    walk_at "rdx"
    refine ⟨_, _, _, upd_same, T.cl_Library, T.no_Library_own_bases, (show 1 < 1000 by decide), ?_⟩
    rw [upd_upd]
    walk_at "rdx"
    have ef2 : putF (Str.ofString "own_bases") (V.ref ab) (putF (Str.ofString "own_marks") (V.ref am) []) = [(Str.ofString "own_marks", V.ref am), (Str.ofString "own_bases", V.ref ab)] := rfl
    rw [ef2]
    have B2 : Bx x H1 (upd H1 x (.ins T.C_Library dx [(Str.ofString "own_marks", V.ref am), (Str.ofString "own_bases", V.ref ab)])) := (Bx.refl x H1).mut
    have t2 := tabs_ins (o := .ins T.C_Library dx [(Str.ofString "own_marks", V.ref am), (Str.ofString "own_bases", V.ref ab)]) t1 hx1
    have hx2 : upd H1 x (.ins T.C_Library dx [(Str.ofString "own_marks", V.ref am), (Str.ofString "own_bases", V.ref ab)]) x = some (.ins T.C_Library dx [(Str.ofString "own_marks", V.ref am), (Str.ofString "own_bases", V.ref ab)]) := upd_same
    generalize upd H1 x (.ins T.C_Library dx [(Str.ofString "own_marks", V.ref am), (Str.ofString "own_bases", V.ref ab)]) = H2 at *
    obtain ⟨xs, hxs, lxs, fxs⟩ := B2.cvs hx1 hcv1
    obtain ⟨L, rfl, rfl, hL⟩ := ex_pairs lxs fxs
    have em : ∀ (α : Type) (key : α → PyData) (L : List (Addr × α)), (L.map fun p => (V.ref p.1, key p.2)).map (·.1) = L.map fun p => V.ref p.1 := fun α key L => by rw [List.map_map]; rfl
    have em2 : ∀ (α : Type) (key : α → PyData) (L : List (Addr × α)), (L.map fun p => (V.ref p.1, key p.2)).map (·.2) = L.map fun p => key p.2 := fun α key L => by rw [List.map_map]; rfl
    refine ⟨y, L.map fun p => (V.ref p.1, cvD p.2), rfl, .inr (by rw [em]; exact hxs), fun p hp => ?_, ?_, ?_, fun p4 hp4 => ?_⟩
    · obtain ⟨p0, hp0, rfl⟩ := List.mem_map.mp hp
      exact ⟨nk_dp (nk_cv (hL p0 hp0)), by rw [show cvD p0.2 = dOf (cvN p0.2) from rfl, dOf_depth]; exact dep_cvN⟩
    · rw [em2]
      exact .of (enc := fun p : Addr × Cv => cvD p.2) fun p q => alike_cv p.2 q.2
    · rw [em2]
      exact .tuples (enc := fun p : Addr × Cv => cvD p.2) fun p => ⟨_, _, rfl⟩
    rw [sort_map (fun p : Addr × Cv => cvD p.2) (fun p => V.ref p.1) L, List.map_map]
    have pm := List.mergeSort_perm L (PySem.W.dataLe false fun p : Addr × Cv => cvD p.2)
    have em3 := sort_snd cvD L
    generalize L.mergeSort (PySem.W.dataLe false fun p : Addr × Cv => cvD p.2) = M at *
    have hM : ∀ p ∈ M, cvA H2 p.1 p.2 := fun p hp => hL p (pm.mem_iff.mp hp)
    have sc : sortCv (L.map (·.2)) = M.map (·.2) := em3.symm
    rw [sc] at q
    have e5 : ((fun x : V × PyData => x.1) ∘ fun x : Addr × Cv => (V.ref x.1, cvD x.2)) = fun p => V.ref p.1 := rfl
    rw [e5]
    have s4 : Same H2 (upd H2 p4 (.lst (M.map fun p => V.ref p.1))) := same_new hp4
    have f4 : upd H2 p4 (.lst (M.map fun p => V.ref p.1)) p4 = some (.lst (M.map fun p => V.ref p.1)) := upd_same
    generalize upd H2 p4 (.lst (M.map fun p => V.ref p.1)) = H4 at *
    refine tupL (sql_of f4) fun p5 hp5 => ?_
    have s5 := same_new (o := .tup (M.map fun p => V.ref p.1)) hp5
    have f5 : upd H4 p5 (.tup (M.map fun p => V.ref p.1)) p5 = some (.tup (M.map fun p => V.ref p.1)) := upd_same
    generalize upd H4 p5 (.tup (M.map fun p => V.ref p.1)) = H5 at *
    have s25 := s4.trans s5
    refine ⟨_, _, _, s25 _ _ hx2, T.cl_Library, T.no_Library_own_conversions, (show 2 < 1000 by decide), ?_⟩
    walk_at "rdx"
    have ef3 : putF (Str.ofString "own_conversions") (V.ref p5) [(Str.ofString "own_marks", V.ref am), (Str.ofString "own_bases", V.ref ab)] = [(Str.ofString "own_marks", V.ref am), (Str.ofString "own_bases", V.ref ab), (Str.ofString "own_conversions", V.ref p5)] := rfl
    rw [ef3]
    have B5 : Bx x H1 H5 := B2.same s25
    have t5 := tabs_same t2 s25
    have hx5 := s25 _ _ hx2
    have B6 : Bx x H1 (upd H5 x (.ins T.C_Library dx [(Str.ofString "own_marks", V.ref am), (Str.ofString "own_bases", V.ref ab), (Str.ofString "own_conversions", V.ref p5)])) := B5.mut
    have B56 : Bx x H5 (upd H5 x (.ins T.C_Library dx [(Str.ofString "own_marks", V.ref am), (Str.ofString "own_bases", V.ref ab), (Str.ofString "own_conversions", V.ref p5)])) := (Bx.refl x H5).mut
    have t6 := tabs_ins (o := .ins T.C_Library dx [(Str.ofString "own_marks", V.ref am), (Str.ofString "own_bases", V.ref ab), (Str.ofString "own_conversions", V.ref p5)]) t5 hx5
    have hx6 : upd H5 x (.ins T.C_Library dx [(Str.ofString "own_marks", V.ref am), (Str.ofString "own_bases", V.ref ab), (Str.ofString "own_conversions", V.ref p5)]) x = some (.ins T.C_Library dx [(Str.ofString "own_marks", V.ref am), (Str.ofString "own_bases", V.ref ab), (Str.ofString "own_conversions", V.ref p5)]) := upd_same
    generalize upd H5 x (.ins T.C_Library dx [(Str.ofString "own_marks", V.ref am), (Str.ofString "own_bases", V.ref ab), (Str.ofString "own_conversions", V.ref p5)]) = H6 at *
    have hcv5 : CvsA K H5 p5 (M.map (·.2)) := by
      obtain ⟨g1, g2⟩ := of_pairs (R := fun b c => cvA H2 b c) hM
      exact ⟨_, sqt_of f5, g1, fun i c e => let ⟨b, e1, e2⟩ := g2 i c e; ⟨b, e1, cvA.same e2 s25⟩⟩
    have hcv6 := B56.cvs hx5 hcv5
    clear hcv5 f5 f4 hM sc em3 pm hL hxs lxs fxs
    simp only [tSortK]
    walk_at "rdx"
    refine ⟨t6, fun H7 eN t7 => ?_⟩
    have B7 : Bx x H1 H7 := B6.ext eN
    have hx7 := eN _ _ hx6 (fun ps e => nomatch e)
    have hcv7 : CvsA K H7 p5 (M.map (·.2)) := ((Bx.refl x H6).ext eN).cvs hx6 hcv6
    obtain ⟨ys, hys, lys, fys⟩ := B7.cds hx1 rfl hcd1
    obtain ⟨N, rfl, rfl, hN⟩ := ex_pairs lys fys
    refine ⟨N.map fun p => (V.ref p.1, ckD p.2), .inr (by rw [em]; exact hys), fun p hp => ?_, ?_, ?_, fun p8 hp8 => ?_⟩
    · obtain ⟨p0, hp0, rfl⟩ := List.mem_map.mp hp
      obtain ⟨dx1, pa, ra, ka, fs1, k⟩ := hN p0 hp0
      refine ⟨⟨p0.1, dx1, ka, fs1, _, [.text p0.2.nm, .tup (p0.2.ps.map ptK)], rfl, k.at_, k.f4, k.ky, (show 2 < 3 by decide), .cons (.str _) (.cons (nk_pts k.ps) .nil), rfl⟩, ?_⟩
      rw [show ckD p0.2 = dOf (cdK p0.2) from rfl, dOf_depth]
      exact dep_cd
    · rw [em2]
      exact .of (enc := fun p : Addr × Cd => ckD p.2) fun p q => alike_ck p.2 q.2
    · rw [em2]
      exact .tuples (enc := fun p : Addr × Cd => ckD p.2) fun p => ⟨_, _, rfl⟩
    rw [sort_map (fun p : Addr × Cd => ckD p.2) (fun p => V.ref p.1) N, List.map_map]
    have pm := List.mergeSort_perm N (PySem.W.dataLe false fun p : Addr × Cd => ckD p.2)
    have em3 := sort_snd ckD N
    generalize N.mergeSort (PySem.W.dataLe false fun p : Addr × Cd => ckD p.2) = O at *
    have hO : ∀ p ∈ O, Cnd H7 T.C_Candidate p.1 p.2 := fun p hp => hN p (pm.mem_iff.mp hp)
    have sc : sortCd (N.map (·.2)) = O.map (·.2) := em3.symm
    rw [sc] at q
    have e8 : ((fun x : V × PyData => x.1) ∘ fun x : Addr × Cd => (V.ref x.1, ckD x.2)) = fun p => V.ref p.1 := rfl
    rw [e8]
    have s8 : Same H7 (upd H7 p8 (.lst (O.map fun p => V.ref p.1))) := same_new hp8
    have f8 : upd H7 p8 (.lst (O.map fun p => V.ref p.1)) p8 = some (.lst (O.map fun p => V.ref p.1)) := upd_same
    generalize upd H7 p8 (.lst (O.map fun p => V.ref p.1)) = H8 at *
    refine tupL (sql_of f8) fun p9 hp9 => ?_
    have s9 := same_new (o := .tup (O.map fun p => V.ref p.1)) hp9
    have f9 : upd H8 p9 (.tup (O.map fun p => V.ref p.1)) p9 = some (.tup (O.map fun p => V.ref p.1)) := upd_same
    generalize upd H8 p9 (.tup (O.map fun p => V.ref p.1)) = H9 at *
    have s79 := s8.trans s9
    have hx9 := s79 _ _ hx7
    refine ⟨_, _, _, hx9, T.cl_Library, T.no_Library_own_candidates, (show 3 < 1000 by decide), ?_⟩
    walk_at "rdx"
    have ef4 : putF (Str.ofString "own_candidates") (V.ref p9) [(Str.ofString "own_marks", V.ref am), (Str.ofString "own_bases", V.ref ab), (Str.ofString "own_conversions", V.ref p5)] = [(Str.ofString "own_marks", V.ref am), (Str.ofString "own_bases", V.ref ab), (Str.ofString "own_conversions", V.ref p5), (Str.ofString "own_candidates", V.ref p9)] := rfl
    rw [ef4]
    have hcd9 : CdsA K T.C_Candidate H9 p9 (O.map (·.2)) := by
      obtain ⟨g1, g2⟩ := of_pairs (R := fun b c => Cnd H7 T.C_Candidate b c) hO
      exact ⟨_, sqt_of f9, g1, fun i c e => let ⟨b, e1, e2⟩ := g2 i c e; ⟨b, e1, Cnd.same e2 s79⟩⟩
    have t9 := tabs_same t7 s79
    have hcv9 := hcv7.same s79
    have fm9 : H9 am = some (.tup (ms.map V.str)) := s79 _ _ (B7.tup hx1 (s1 _ _ fm))
    have fb9 : H9 ab = some (.tup (bs.map V.str)) := s79 _ _ (B7.tup hx1 (s1 _ _ fb))
    have BA : Bx x H H9 := fun b o n1 n2 h => s79 _ _ (B7 b o n1 n2 (s1 _ _ h))
    clear hO sc em3 pm hN hys lys fys f8 f9 hcv7 hcv6 hcd1 hcv1 B7 B6 B5 B2 B56
    intro p10 hp10
    have hA : upd H9 x (.ins T.C_Library dx [(Str.ofString "own_marks", V.ref am), (Str.ofString "own_bases", V.ref ab), (Str.ofString "own_conversions", V.ref p5), (Str.ofString "own_candidates", V.ref p9)]) x = some (.ins T.C_Library dx [(Str.ofString "own_marks", V.ref am), (Str.ofString "own_bases", V.ref ab), (Str.ofString "own_conversions", V.ref p5), (Str.ofString "own_candidates", V.ref p9)]) := upd_same
    have tA := tabs_ins (o := .ins T.C_Library dx [(Str.ofString "own_marks", V.ref am), (Str.ofString "own_bases", V.ref ab), (Str.ofString "own_conversions", V.ref p5), (Str.ofString "own_candidates", V.ref p9)]) t9 hx9
    have BB : Bx x H9 (upd H9 x (.ins T.C_Library dx [(Str.ofString "own_marks", V.ref am), (Str.ofString "own_bases", V.ref ab), (Str.ofString "own_conversions", V.ref p5), (Str.ofString "own_candidates", V.ref p9)])) := (Bx.refl x H9).mut
    generalize upd H9 x (.ins T.C_Library dx [(Str.ofString "own_marks", V.ref am), (Str.ofString "own_bases", V.ref ab), (Str.ofString "own_conversions", V.ref p5), (Str.ofString "own_candidates", V.ref p9)]) = HA at *
    have sB := same_new (o := .dK []) hp10
    have fB : upd HA p10 (.dK []) p10 = some (.dK []) := upd_same
    generalize upd HA p10 (.dK []) = HB at *
    have hB := sB _ _ hA
    refine ⟨_, _, _, hB, T.cl_Library, T.no_Library_own_tables, (show 4 < 1000 by decide), ?_⟩
    have ef5 : putF (Str.ofString "own_tables") (V.ref p10) [(Str.ofString "own_marks", V.ref am), (Str.ofString "own_bases", V.ref ab), (Str.ofString "own_conversions", V.ref p5), (Str.ofString "own_candidates", V.ref p9)] = [(Str.ofString "own_marks", V.ref am), (Str.ofString "own_bases", V.ref ab), (Str.ofString "own_conversions", V.ref p5), (Str.ofString "own_candidates", V.ref p9), (Str.ofString "own_tables", V.ref p10)] := rfl
    rw [ef5]
    have g : Bx x H9 (upd HB x (.ins T.C_Library dx [(Str.ofString "own_marks", V.ref am), (Str.ofString "own_bases", V.ref ab), (Str.ofString "own_conversions", V.ref p5), (Str.ofString "own_candidates", V.ref p9), (Str.ofString "own_tables", V.ref p10)])) := (BB.same sB).mut
    refine q _ ⟨fun b o n1 n2 h => g b o n1 n2 (BA b o n1 n2 h), dx, am, ab, p5, p9, _, upd_same, rfl, rfl, rfl, rfl, rfl, rfl, g.tup hx9 fm9, g.tup hx9 fb9, g.cvs hx9 hcv9, g.cds hx9 rfl hcd9⟩ (tabs_ins (tabs_same tA sB) hB)
end

local macro_rules | `(tactic| walk_at "rdx") => `(tactic| ((try simp only [tFld, gTup, gStar, tJs, tFmt, sFld, tMake, tMakeL]); try walk_at "rd"))
section
variable {w : World} {K : PySem.W.Frag} {mg : Str → Option Value} {base : Heap}
/-- marks and a base -/
def tyIn (ms bs ws : List Str) : Prop := ∃ xs z, ws = xs ++ [z] ∧ (∀ m ∈ xs, m ∈ ms) ∧ z ∈ bs
theorem ex_in {P : Str → Prop} {zs : List V} (h : ∀ (i : Nat) y, zs[i]? = some y → ∃ w, y = V.str w ∧ P w) : ∃ ws : List Str, zs = ws.map V.str ∧ ∀ w ∈ ws, P w := by
  induction zs with
  | nil => exact ⟨[], rfl, fun w hw => nomatch hw⟩
  | cons z zs ih =>
    obtain ⟨w, rfl, hw⟩ := h 0 z rfl
    obtain ⟨ws, rfl, k⟩ := ih fun i y e => h (i + 1) y e
    exact ⟨w :: ws, rfl, fun x hx => (List.mem_cons.mp hx).elim (fun e => e ▸ hw) fun q => k x q⟩
theorem names_to {ws : List Str} {lo hi : Int} (h : ∀ w ∈ ws, isNm w = true) (h1 : lo ≤ ws.length) (h2 : (ws.length : Int) ≤ hi) : namesV (ws.map V.str) lo hi = true := by
  unfold namesV
  rw [List.length_map, decide_eq_true h1, decide_eq_true h2]
  simp only [Bool.true_and]
  rw [List.all_eq_true]
  intro x hx
  obtain ⟨w, hw, rfl⟩ := List.mem_map.mp hx
  exact h w hw
theorem tyIn.nm {ms bs ws : List Str} (h : tyIn ms bs ws) (h1 : ∀ w ∈ ms, isNm w = true) (h2 : ∀ w ∈ bs, isNm w = true) : (∀ w ∈ ws, isNm w = true) ∧ 1 ≤ ws.length := by
  obtain ⟨xs, z, rfl, h3, h4⟩ := h
  refine ⟨fun w hw => ?_, by simp⟩
  rcases List.mem_append.mp hw with hw | hw
  · exact h1 w (h3 w hw)
  · rw [List.mem_singleton.mp hw]
    exact h2 z h4
def sideIn (ms bs : List Str) (p : Bool × List Str) : Prop := if p.1 = true then ∀ m ∈ p.2, m ∈ ms else tyIn ms bs p.2
theorem within_sides {ms bs : List Str} {it : Itm} (h : ∀ p ∈ sidesI it, sideIn ms bs p) : withinB ms bs it = true := by
  unfold withinB
  rw [Bool.and_eq_true, List.all_eq_true, List.all_eq_true]
  refine ⟨fun m hm => decide_eq_true ?_, fun b hb => decide_eq_true ?_⟩
  · unfold mksI mksS at hm
    rcases List.mem_append.mp hm with hm | hm
    · obtain ⟨ws, hw, hm⟩ := List.mem_flatten.mp hm
      have := h _ (fr_mem hw)
      unfold sideIn at this
      rw [if_pos rfl] at this
      exact this m hm
    · obtain ⟨ws, hw, hm⟩ := List.mem_flatMap.mp hm
      have := h _ (ty_mem hw)
      unfold sideIn at this
      rw [if_neg (by simp)] at this
      obtain ⟨xs, z, e, h3, h4⟩ := this
      have e : ws = xs ++ [z] := e
      subst e
      rw [List.dropLast_concat] at hm
      exact h3 m hm
  · unfold bssI bssS at hb
    obtain ⟨ws, hw, rfl⟩ := List.mem_map.mp hb
    have := h _ (ty_mem hw)
    unfold sideIn at this
    rw [if_neg (by simp)] at this
    obtain ⟨xs, z, e, h3, h4⟩ := this
    have e : ws = xs ++ [z] := e
    subst e
    rw [List.getLast?_concat]
    exact h4
/-- what the law calls a conversion: one over the marks and bases, or None -/
def CvDrawn (H : Hp) (ms bs : List Str) (v : V) : Prop := v = .non ∨ ∃ (a : Addr) (c : Cv), v = .ref a ∧ cvA H a c ∧ cvOk c = true ∧ withinB ms bs (.cv c) = true
def intsR (n : Nat) : List V := (List.range n).map fun i : Nat => V.int i
def openAt (ps : List (Bool × List Str)) : V → Bool
  | .int i => (ps.map (·.1)).getD i.toNat false
  | _ => false
end

set_option pp.maxSteps 3500

local macro_rules | `(tactic| walk_at "rdx") => `(tactic| ((try simp only [tFld, gTup, gStar, tJs, tFmt, sFld, tSc_eq, tDNewN, sDPutN, iKeysN, tDGetN, tLockE]); try walk_at "rd"))
section
variable {w : World} {K : PySem.W.Frag} {mg : Str → Option Value} {base : Heap}
theorem cvA.smt {H H' : Hp} {a : Addr} {c : Cv} (st : SmT H H') (h : cvA H a c) : cvA H' a c := let ⟨l, r, h1, h2, h3⟩ := h; ⟨l, r, st _ _ h1, st _ _ h2, st _ _ h3⟩
theorem cdT.smt {H H' : Hp} {a : Addr} {c : Cd} (st : SmT H H') (h : cdT H a c) : cdT H' a c := by
  obtain ⟨pa, ra, h1, ⟨xs, h2, h3, h4⟩, b, h5, h6⟩ := h
  refine ⟨pa, ra, st _ _ h1, ⟨xs, st _ _ h2, h3, fun i p e => ?_⟩, b, st _ _ h5, st _ _ h6⟩
  obtain ⟨b, e1, b2, e2, e3⟩ := h4 i p e
  exact ⟨b, e1, b2, st _ _ e2, st _ _ e3⟩
theorem CvDrawn.smt {H H' : Hp} {ms bs : List Str} {v : V} (st : SmT H H') (h : CvDrawn H ms bs v) : CvDrawn H' ms bs v := by
  rcases h with h | ⟨a, c, h1, h2, h3, h4⟩
  · exact .inl h
  · exact .inr ⟨a, c, h1, cvA.smt st h2, h3, h4⟩
/-- all but D stays -/
def SB (D : Addr) (H H' : Hp) : Prop := ∀ b o, b ≠ D → H b = some o → H' b = some o
theorem SB.of {D : Addr} {H H' : Hp} (s : Same H H') : SB D H H' := fun b o _ h => s b o h
theorem SB.same {D : Addr} {H H1 H2 : Hp} (g : SB D H H1) (s : Same H1 H2) : SB D H H2 := fun b o n h => s b o (g b o n h)
theorem SB.mut {D : Addr} {H H1 : Hp} {o : HO} (g : SB D H H1) : SB D H (upd H1 D o) := fun b u n h => by
  rw [upd_ne n]
  exact g b u n h
theorem SB.smt {D : Addr} {H H' : Hp} {φ : Heap → Prop} (g : SB D H H') (h : H D = some (.ext φ)) : SmT H H' := fun a xs e => g a _ (ne_of e h fun z => nomatch z) e
theorem smt_ext {D : Addr} {H : Hp} {φ : Heap → Prop} {o : HO} (h : H D = some (.ext φ)) : SmT H (upd H D o) := fun a xs e => by
  rw [upd_ne (ne_of e h fun z => nomatch z)]
  exact e
theorem keyAt_ext {D b : Addr} {H : Hp} {φ : Heap → Prop} {o : HO} {k : NestedKey} (h : H D = some (.ext φ)) (q : KeyAt K H k b) : KeyAt K (upd H D o) k b := q.mono fun a xs t => sqt_ext h t
theorem keyAt_same {b : Addr} {H H' : Hp} {k : NestedKey} (s : Same H H') (q : KeyAt K H k b) : KeyAt K H' k b := q.mono fun a xs t => Evl.ex_t s t
theorem Gr.sb {d p : Addr} {H H1 H2 : Hp} (g : Gr d H H1) (s : SB p H1 H2) (hp : H p = none) (ne : p ≠ d) : Gr d H H2 := by
  refine ⟨g.pre, fun a o n h => s a o (ne_of_none h hp) (g.keep a o n h), ?_⟩
  obtain ⟨x, y, z, q⟩ := g.dice
  exact ⟨x, y, z, s _ _ ne.symm q⟩
theorem ent_pairs {α : Type} {R : Addr → α → Prop} {key : α → NestedKey} : ∀ {L : Ents}, (∀ e ∈ L, ∃ (a : Addr) (c : α), e.2.2 = .ref a ∧ R a c ∧ e.1 = key c) → ∃ M : List (Addr × α), L.map (·.2.2) = M.map (fun p => V.ref p.1) ∧ L.map (·.1) = M.map (fun p => key p.2) ∧ ∀ p ∈ M, R p.1 p.2
  | [], _ => ⟨[], rfl, rfl, fun p h => nomatch h⟩
  | e :: L, h => by
    obtain ⟨a, c, h1, h2, h3⟩ := h e (.head _)
    obtain ⟨M, e1, e2, e3⟩ := ent_pairs (L := L) fun x hx => h x (.tail _ hx)
    refine ⟨(a, c) :: M, by rw [List.map_cons, e1, h1]; rfl, by rw [List.map_cons, e2, h3]; rfl, fun p hp => ?_⟩
    rcases List.mem_cons.mp hp with rfl | hp
    · exact h2
    · exact e3 p hp
/-- the conversions by their keys -/
def EntCv (K : PySem.W.Frag) (H : Hp) (ms bs : List Str) (L : Ents) : Prop := (L.map (·.1)).Nodup ∧ ∀ e ∈ L, KeyAt K H e.1 e.2.1 ∧ ∃ (a : Addr) (c : Cv), e.2.2 = .ref a ∧ cvA H a c ∧ (cvOk c = true ∧ withinB ms bs (.cv c) = true) ∧ e.1 = cvK c
def EntCd (K : PySem.W.Frag) (H : Hp) (ms bs ns : List Str) (L : Ents) : Prop := (L.map (·.1)).Nodup ∧ ∀ e ∈ L, KeyAt K H e.1 e.2.1 ∧ ∃ (a : Addr) (c : Cd), e.2.2 = .ref a ∧ cdT H a c ∧ (CdOk c ∧ withinB ms bs (.cd c) = true ∧ c.nm ∈ ns) ∧ e.1 = cdK c
theorem gr_sqt {d : Addr} {H H' : Hp} (g : Gr d H H') {a : Addr} {xs : List V} (h : SqT K H a xs) : SqT K H' a xs := by
  obtain ⟨x, y, z, q⟩ := g.pre
  rcases h with (h | ⟨u, h⟩) | h
  · exact .inl (.inl (g.keep _ _ (ne_of h q fun z => nomatch z) h))
  · exact .inl (.inr ⟨u, g.keep _ _ (ne_of h q fun z => nomatch z) h⟩)
  · exact .inr h
theorem keyAt_gr {d b : Addr} {H H' : Hp} {k : NestedKey} (g : Gr d H H') (q : KeyAt K H k b) : KeyAt K H' k b := q.mono fun a xs t => gr_sqt g t
theorem sortTx {H : Hp} {l : Addr} {ws : List Str} {Q : VK} (h : H l = some (.lst (ws.map V.str))) (q : ∀ p, H p = none → Q (.ref p) (upd H p (.lst ((sortZ ws).map V.str)))) : rSortD K [.ref l] H Q := by
  have e1 : (ws.map fun z => (V.str z, PyData.str z)).map (·.1) = ws.map V.str := by rw [List.map_map]; rfl
  have e2 : (ws.map fun z => (V.str z, PyData.str z)).map (·.2) = ws.map PyData.str := by rw [List.map_map]; rfl
  refine ⟨l, ws.map fun z => (V.str z, PyData.str z), rfl, .inl (by rw [e1]; exact sql_of h), fun p hp => ?_, ?_, ?_, fun p hp => ?_⟩
  · obtain ⟨z, _, rfl⟩ := List.mem_map.mp hp
    exact ⟨.str z, Nat.zero_le _⟩
  · rw [e2]
    exact .of (enc := PyData.str) fun _ _ => rfl
  · rw [e2]
    exact .others (enc := PyData.str) fun b => ⟨(fun z => nomatch z), (fun xs z => nomatch z)⟩
  · rw [sort_map PyData.str V.str ws, List.map_map]
    have := q p hp
    unfold sortZ at this
    rw [show leZ = PySem.W.dataLe false PyData.str from (PySem.W.dataLe_str (fun z : Str => z)).symm] at this
    exact this
end

local macro_rules | `(tactic| walk_at "rdx") => `(tactic| ((try simp only [tFld, gTup, gStar, tJs, tFmt, sFld, tSc_eq, tDNewN, sDPutN, iKeysN, tDGetN, tDGet, tLockE, tMake, tMakeK]); try walk_at "rd"))
section
variable {w : World} {K : PySem.W.Frag} {mg : Str → Option Value} {base : Heap}
theorem u1 {a : Nat} (h : a + 64 < cLine) : a + 1 < cLine := by omega
/-- all but lists and tables stays -/
def SmX (H H' : Hp) : Prop := ∀ b o, (∀ l, o ≠ .lst l) → (∀ ps, o ≠ .tbl ps) → H b = some o → H' b = some o
theorem SmX.of {H H' : Hp} (s : Same H H') : SmX H H' := fun b o _ _ h => s _ _ h
theorem SmX.lst {H : Hp} {D : Addr} {l l' : List V} (h : H D = some (.lst l)) : SmX H (upd H D (.lst l')) := fun b o n _ e => by
  rw [upd_ne]
  · exact e
  · intro z
    rw [z, h] at e
    cases e
    exact n _ rfl
theorem SmX.trans {H H1 H2 : Hp} (a : SmX H H1) (b : SmX H1 H2) : SmX H H2 := fun p o n n2 h => b _ _ n n2 (a _ _ n n2 h)
theorem SmX.smt {H H' : Hp} (a : SmX H H') : SmT H H' := fun b xs h => a b _ (fun _ e => nomatch e) (fun _ e => nomatch e) h
theorem ptsA.smt {H H' : Hp} {a : Addr} {ps : List (Bool × List Str)} (st : SmT H H') (h : ptsA H a ps) : ptsA H' a ps := by
  obtain ⟨xs, h2, h3, h4⟩ := h
  refine ⟨xs, st _ _ h2, h3, fun i p e => ?_⟩
  obtain ⟨b, e1, b2, e2, e3⟩ := h4 i p e
  exact ⟨b, e1, b2, st _ _ e2, st _ _ e3⟩
theorem rsA.smt {H H' : Hp} {a : Addr} {ws : List Str} {t : Option Nat} (st : SmT H H') (h : rsA H a ws t) : rsA H' a ws t := let ⟨b, h1, h2⟩ := h; ⟨b, st _ _ h1, st _ _ h2⟩
theorem Cnd.smx {H H' : Hp} {C a : Addr} {c : Cd} (st : SmX H H') (h : Cnd H C a c) : Cnd H' C a c := by
  obtain ⟨dx, pa, ra, ka, fs, k⟩ := h
  exact ⟨dx, pa, ra, ka, fs, st _ _ (fun _ e => nomatch e) (fun _ e => nomatch e) k.at_, k.f1, k.f2, k.f3, k.f4, k.ps.smt st.smt, k.rs.smt st.smt, st.smt _ _ k.ky⟩
section
variable {J : It} {n : Nat} {G : Hp → Prop} {Y : Nat → Hp → V → Hp → Prop} {g : TG} {tt : TT} {te : TE} {vs : List Nat} {σ : L2.St} {H1 : Hp} {Q : VK}
end
theorem asc_sorted : ∀ {ws : List Str}, (ws.Pairwise fun x y => leZ x y = true) → ws.Nodup → ascB ws = true
  | [], _, _ => rfl
  | [_], _, _ => rfl
  | x :: y :: l, hp, hn => by
    have h1 := (List.pairwise_cons.mp hp).1 y (.head _)
    have h2 := (List.nodup_cons.mp hn).1
    have ih := asc_sorted (ws := y :: l) (List.pairwise_cons.mp hp).2 (List.nodup_cons.mp hn).2
    show (decide (x.cps.toList < y.cps.toList) && ascB (y :: l)) = true
    rw [ih, Bool.and_true]
    by_cases h : x.cps.toList < y.cps.toList
    · exact decide_eq_true h
    · have h3 : leZ y x = true := decide_eq_true (List.not_lt.mp h)
      exact absurd (leZ_anti h1 h3 ▸ List.mem_cons_self) h2
theorem sortZ_mem {ws : List Str} {z : Str} : z ∈ sortZ ws ↔ z ∈ ws := (sortZ_perm ws).mem_iff
/-- the marks and the bases that are drawn -/
structure SdOk (ms bs : List Str) : Prop where
  nm : ∀ w ∈ ms, isNm w = true
  nb : ∀ w ∈ bs, isNm w = true
  lm : ms.length ≤ 8
  lb : bs.length ≤ 8
  lo : 1 ≤ bs.length
  dm : ms.Nodup
  db : bs.Nodup
  ap : ∀ m ∈ ms, m ∉ bs
theorem namesV_of {ws : List Str} {lo hi : Int} (h : ∀ w ∈ ws, isNm w = true) (l : lo ≤ ws.length) (l' : (ws.length : Int) ≤ hi) : namesV (ws.map V.str) lo hi = true := by
  unfold namesV
  rw [List.length_map, decide_eq_true l, decide_eq_true l', List.all_map]
  exact List.all_eq_true.mpr h
theorem SdOk.sort {ms bs : List Str} (h : SdOk ms bs) : SdOk (sortZ ms) (sortZ bs) :=
  ⟨fun w hw => h.nm w (sortZ_mem.mp hw), fun w hw => h.nb w (sortZ_mem.mp hw), by rw [(sortZ_perm ms).length_eq]; exact h.lm, by rw [(sortZ_perm bs).length_eq]; exact h.lb, by rw [(sortZ_perm bs).length_eq]; exact h.lo,
    (sortZ_perm ms).nodup_iff.mpr h.dm, (sortZ_perm bs).nodup_iff.mpr h.db, fun m hm z => h.ap m (sortZ_mem.mp hm) (sortZ_mem.mp z)⟩
theorem SdOk.nms {ms bs : List Str} {H : Hp} {a : Addr} (h : SdOk ms bs) (e : H a = some (.tup (ms.map V.str))) : Nms H (.ref a) ms 0 8 := ⟨⟨a, rfl, e⟩, namesV_of h.nm (by omega) (by have := h.lm; omega)⟩
theorem SdOk.nbs {ms bs : List Str} {H : Hp} {a : Addr} (h : SdOk ms bs) (e : H a = some (.tup (bs.map V.str))) : Nms H (.ref a) bs 1 8 := ⟨⟨a, rfl, e⟩, namesV_of h.nb (by have := h.lo; omega) (by have := h.lb; omega)⟩
theorem SdOk.ordS {ms bs : List Str} (h : SdOk ms bs) : (ascB (sortZ ms) && ascB (sortZ bs) && apartB (sortZ ms) (sortZ bs)) = true := by
  rw [asc_sorted (sortZ_le ms) h.sort.dm, asc_sorted (sortZ_le bs) h.sort.db]
  show apartB _ _ = true
  unfold apartB
  rw [Bool.not_eq_true', List.any_eq_false]
  exact fun m hm z => h.sort.ap m hm (of_decide_eq_true z)
theorem LibIs.same {C : Addr} {H H' : Hp} {m b v u : V} {r : Bool} (h : LibIs K C H m b v u r) (s : Same H H') : LibIs K C H' m b v u r := by
  cases h with
  | marks h n => exact .marks (Told.same h s) n
  | bases hm h n => exact .bases (hm.same s) (Told.same h s) n
  | order hm hb n => exact .order (hm.same s) (hb.same s) n
  | items hm hb h => exact .items (hm.same s) (hb.same s) (h.same s)
  | full hm hb o h h' l l' o1 o2 => exact .full (hm.same s) (hb.same s) o (h.same s) (h'.same s) l l' o1 o2
theorem born {H : Hp} {x dx C : Addr} (hx : H x = none) (hdx : H dx = none) : Same H (upd (upd H dx (.own x)) x (.ins C dx [])) := by
  intro b o e
  rw [upd_ne (ne_of_none e hx), upd_ne (ne_of_none e hdx)]
  exact e
/-- Library(..) of parts that are fine -/
theorem lib_ok {T : List (Addr × Str)} {CI CL CC : Addr} {H : Hp} {m b : V} {y z : Addr} {ms bs : List Str} {cvs : List Cv} {cds : List Cd} {R : Addr → Hp → Prop} {E : XK} (t : LamX.Tabs T H) (hm : Nms H m ms 0 8) (hb : Nms H b bs 1 8) (o : (ascB ms && ascB bs && apartB ms bs) = true)
    (hc : CvsA K H y cvs) (hd : CdsA K CC H z cds) (l : cvs.length ≤ 16) (l' : cds.length ≤ 16) (o1 : ∀ c ∈ cvs, cvOk c = true) (o2 : ∀ c ∈ cds, CdOk c) (n1 : (cvs.map cvK).Nodup) (n2 : (cds.map cdK).Nodup) (wi : ∀ it ∈ itemsL cvs cds, withinB ms bs it = true)
    (q : ∀ x H', LamX.ExtN H H' → LamX.Tabs T H' → LbA K CL CC H' x ⟨ms, bs, sortCv cvs, sortCd cds⟩ → R x H') :
    ∀ x dx, H x = none → H dx = none → dx ≠ x → spx_lib K T CI CL CC [.ref x, m, b, .ref y, .ref z] (upd (upd H dx (.own x)) x (.ins CL dx [])) (fun v H2 => v = .non ∧ R x H2) E := by
  intro x dx hx hdx ne
  have s1 := born (C := CL) hx hdx
  have hl := LibIs.full (hm.same s1) (hb.same s1) o (hc.same s1) (hd.same s1) l l' o1 o2
  rw [decide_eq_true n1, decide_eq_true n2, List.all_eq_true.mpr wi] at hl
  exact ⟨x, dx, m, b, .ref y, .ref z, true, rfl, upd_same, tabs_same t s1, hl, (fun e => nomatch e), fun _ => ⟨ms, bs, cvs, cds, y, z, hm.same s1, hb.same s1, rfl, rfl, hc.same s1, hd.same s1, l, l', fun H' md tb => ⟨rfl, q x H' (fun a o e n => md.1 a o (ne_of_none e hx) n (s1 _ _ e)) tb md.2⟩⟩⟩
end

local macro_rules | `(tactic| walk_at "rdx") => `(tactic| ((try simp only [tFld, gTup, gStar, tJs, tFmt, sFld, tMake, tMakeL, tDGet]); try walk_at "rd"))
section
variable {w : World} {K : PySem.W.Frag} {mg : Str → Option Value} {base : Heap}
def sp_mixed (K : PySem.W.Frag) : Sp := fun vs H Q _ => ∃ (d : Addr) (v : V) (xs : List V), vs = [.ref d, v] ∧ Dc H d ∧ ((∃ l, v = .ref l ∧ l ≠ d ∧ H l = some (.lst xs)) ∨ ∃ z, v = .str z ∧ xs = sgs z) ∧ xs.length ≤ 1000 ∧
  ∀ p H' (ys : List V), Gr d H H' → H p = none → p ≠ d → H' p = some (.lst ys) → ys.Perm xs → Q (.ref p) H'
def inv_mixed (d l p : Addr) (v : V) (xs : List V) (H : Hp) : Nat → L2.St → Hp → Prop := fun m σ H' =>
  ∃ (ls fs : List V), σ = [some (.ref d), some v, some (.ref l), some (.ref p)] ∧ Gr d H H' ∧ H' l = some (.lst ls) ∧ H' p = some (.lst fs) ∧ ls.length = m ∧ ls.length + fs.length = xs.length ∧ (ls ++ fs).Perm xs
theorem take_outV {ls fs : List V} {j : Nat} (h : j < ls.length) : (ls.eraseIdx j ++ (fs ++ [ls[j]])).Perm (ls ++ fs) := by
  have h1 : (ls[j] :: ls.eraseIdx j).Perm ls := L2.erase_perm ls j _ (List.getElem?_eq_getElem h)
  have h2 : (ls.eraseIdx j ++ (fs ++ [ls[j]])).Perm ((ls[j] :: ls.eraseIdx j) ++ fs) := by
    rw [← List.append_assoc]
    exact List.perm_append_singleton _ _
  exact h2.trans (h1.append_right fs)
theorem ok_law_mixed (T : Tx K mg) : FnOk P w K mg base CX0 2 T.f__law_mixed T.d__law_mixed ["_law_feed_here", "_law_items"] (sp_mixed K) := by
  refine T.F__law_mixed.ok sc_law_mixed (fun vs H Q E h => ?_) (fun cdv A outer s H vs Q E hr h => ?_)
  · obtain ⟨d, v, xs, rfl, _⟩ := h
    rfl
  · obtain ⟨d, v, xs, rfl, hd, hv, hz, q⟩ := h
    refine ⟨_, (pss_cons (ps_par (i := 2) (j := 3) (by rfl) sc_law_mixed.nd rfl rfl (by decide) rfl rfl (pa_cons (pe_callTy (cr_or (call_listS rfl) call_list_of) (by rfl) T.n_list (by decide +kernel) (pa_cons (pv 1) pa_nil)) (pa_cons (pe_lst pa_nil) pa_nil)) (by rfl))
      (pss_cons (ps_while PassesOwn.never (pt_cmpR (op_neE hr.units) (pv 2) (pe_lst pa_nil) (nomark _)) (pss_one (ps_expr (pe_bm PySem.F.plainAttrs_list PySem.F.slot_list_append PySem.F.type_list_append mt_append (pv 3) (pa_cons (pe_bm PySem.F.plainAttrs_list PySem.F.slot_list_pop PySem.F.type_list_pop mt_popAt (pv 2) (pa_cons (pe_call (ok_law_draw T) (hr.mono (by decide)) (by rfl) T.g__law_draw T.F__law_draw.kp T.b__law_draw .nil pass0 (pa_cons (pv 0) (pa_cons (pe_callB call_lenQ (by rfl) T.n_len (by decide +kernel) (pa_cons (pv 2) pa_nil)) pa_nil))) pa_nil)) pa_nil)))))
      (pss_one (ps_ret (pv 3))))), ?_⟩
    refine seqN fun N1 hN1 => ?_
    walk_at "rd"
    suffices h : ∀ l H1, Same H H1 → H l = none → H1 l = some (.lst xs) → 0 ≤ sizeLine ∧ ∀ p, H1 p = none → N1 [some (V.ref d), some v, some (V.ref l), some (V.ref p)] (upd H1 p (HO.lst [])) by
      rcases hv with ⟨l0, rfl, n0, h0⟩ | ⟨z, rfl, rfl⟩
      · refine .inr ⟨l0, rfl, xs, .inl (sql_of h0), fun l hl => ?_⟩
        exact h l _ (same_new hl) hl upd_same
      · refine .inl ⟨z, rfl, ?_, fun l hl => h l _ (same_new hl) hl upd_same⟩
        have : (sgs z).length = z.length := by unfold sgs; rw [List.length_map]; rfl
        exact sz100 (by omega)
    intro l H1 s1 hl f1
    refine ⟨by decide, fun p hp => hN1 _ _ ?_⟩
    clear hN1 hv
    have s2 := same_new (o := .lst []) hp
    have f2 : upd H1 p (.lst []) p = some (.lst []) := upd_same
    generalize upd H1 p (.lst []) = H2 at *
    have s02 := s1.trans s2
    have g2 := Gr.same hd s02
    have nl : l ≠ d := hd.ne hl
    have hp0 : H p = none := (Gr.same hd s1).back hp
    have np : p ≠ d := hd.ne hp0
    have npl : p ≠ l := fun e => by
      rw [e, f1] at hp
      cases hp
    have f12 := s2 _ _ f1
    clear s1 s2 f1 hp s02
    refine seqN fun N2 hN2 => ?_
    walk_at "rd"
    refine ⟨inv_mixed d l p v xs H, ⟨_, xs, [], rfl, g2, f12, f2, rfl, rfl, by rw [List.append_nil]⟩, ?_⟩
    rintro m σ H3 ⟨ls, fs, rfl, g, h1, h2, e1, e2, pm⟩
    walk_at "rd"
    refine ⟨by decide, fun p5 hp5 => ?_⟩
    have s4 := same_new (o := .lst []) hp5
    have f4 : upd H3 p5 (.lst []) p5 = some (.lst []) := upd_same
    generalize upd H3 p5 (.lst []) = H4 at *
    refine ⟨l, p5, ls, rfl, rfl, sql_of (s4 _ _ h1), sql_of f4, _, rfl, ?_⟩
    have g := g.trans (Gr.same g.dice s4)
    have h1 := s4 _ _ h1
    have h2 := s4 _ _ h2
    clear s4 f4 hp5
    cases ls with
    | nil =>
      refine hN2 _ _ ?_
      walk_at "rd"
      exact q p _ fs g hp0 np h2 pm
    | cons y ls0 =>
      refine iteT ?_
      generalize els : y :: ls0 = ls at *
      have lpos : 1 ≤ ls.length := by rw [← els]; simp
      refine ⟨fun σ' H' => ∃ m', m' < m ∧ inv_mixed d l p v xs H m' σ' H', fun σ' H' h => h, ?_⟩
      refine ⟨tyl (sql_of h2), tyl (sql_of h1), lenL (sql_of h1) ?_⟩
      refine ⟨d, _, rfl, by omega, by omega, g.dice, fun r x y' w r0 r1 => ?_⟩
      obtain ⟨j, rfl⟩ := Int.eq_ofNat_of_zero_le r0
      have hj : j < ls.length := by omega
      have g3 := Gr.roll (x := x) (y := y') (z := w) g.dice
      refine ⟨l, ls, _, j, ls[j], rfl, rfl, g3.keep _ _ nl h1, by omega, by omega, seqIx hj, List.getElem?_eq_getElem hj, ?_⟩
      refine ⟨p, fs, ls[j], rfl, rfl, ?_, sz100' (by omega), ?_⟩
      · rw [upd_ne npl]
        exact g3.keep _ _ np h2
      · refine ⟨ls.length - 1, by omega, ls.eraseIdx j, fs ++ [ls[j]], rfl, ((g.trans g3).mut hl nl).mut hp0 np, ?_, upd_same, ?_, ?_, (take_outV hj).trans pm⟩
        · rw [upd_ne npl.symm, upd_same]
        · rw [List.length_eraseIdx, if_pos hj]
        · rw [List.length_eraseIdx, if_pos hj, List.length_append, List.length_singleton]
          omega
end

local macro_rules | `(tactic| walk_at "rdx") => `(tactic| ((try simp only [tFld, gTup, gStar, tJs, tFmt, sFld, tMake, tMakeL, tDGet]); try walk_at "rd"))
section
variable {w : World} {K : PySem.W.Frag} {mg : Str → Option Value} {base : Heap}
/-- a word that is never drawn -/
def fgn : Str := "foreign"
def sp_words : Sp := fun vs H Q _ => ∃ (d : Addr) (n : Nat), vs = [.ref d, .int n] ∧ Dc H d ∧ n ≤ 26 ∧
  ∀ p H' (ws : List Str), Gr d H H' → H p = none → p ≠ d → H' p = some (.lst (ws.map V.str)) → (∀ w ∈ ws, isNm w = true ∧ w ≠ fgn) → ws.Nodup → ws.length = n → Q (.ref p) H'
/-- the first sign -/
def fstV (w : Str) : V := .str ⟨(w.cps.toList.take 1).toArray⟩
def inv_words (d l p : Addr) (n : Nat) (ys : List V) (H : Hp) : Nat → L2.St → Hp → Prop := fun i σ H' =>
  ∃ (x3 x4 x5 : Option V) (ws : List Str), σ = [some (.ref d), some (.int n), some (.ref p), x3, x4, x5, none] ∧ Gr d H H' ∧
      H' l = some (.lst ys) ∧ H' p = some (.lst (ws.map V.str)) ∧ ws.length = i ∧ (∀ w ∈ ws, isNm w = true ∧ w ≠ fgn) ∧ ws.map fstV = ys.take i
theorem sgs_nd : (sgs abc).Nodup := by
  unfold sgs
  refine List.pairwise_map.mpr ?_
  have h : abc.cps.toList.Nodup := by decide +kernel
  refine List.Pairwise.imp (fun {a b} ne e => ne ?_) h
  have : sg a = sg b := by injection e
  have : (#[a] : Array Nat) = #[b] := congrArg Str.cps this
  simpa using this
theorem nm_o {z : Str} (h : inV (.str z) [.str (Str.ofString "to"), .str (Str.ofString "gives")] = true) : isNm (z ++ Str.ofString "o") = true ∧ z ++ Str.ofString "o" ≠ fgn := by
  have h2 : z = Str.ofString "to" ∨ z = Str.ofString "gives" := by
    unfold inV at h
    obtain ⟨y, hy, e⟩ := List.any_eq_true.mp h
    rcases List.mem_cons.mp hy with rfl | hy
    · have e : (Str.ofString "to" == z) = true := e
      exact .inl (eq_of_beq e).symm
    · rw [List.mem_singleton.mp hy] at e
      have e : (Str.ofString "gives" == z) = true := e
      exact .inr (eq_of_beq e).symm
  rcases h2 with rfl | rfl <;> decide
abbrev aeo : Str := "aeogivst"
theorem aeo_low : ∀ c ∈ aeo.cps.toList, lowC c = true := by decide +kernel
theorem ok_law_words (T : Tx K mg) : FnOk P w K mg base CX0 3 T.f__law_words T.d__law_words ["_law_feed_here", "_law_many"] sp_words := by
  refine T.F__law_words.ok sc_law_words (fun vs H Q E h => ?_) (fun cdv A outer s H vs Q E hr h => ?_)
  · obtain ⟨d, n, rfl, _⟩ := h
    rfl
  · obtain ⟨d, n, rfl, hd, hn, q⟩ := h
    refine ⟨_, (pss_cons (ps_set (i := 2) sc_law_words.nd rfl (Or.inl rfl) (pe_lst pa_nil))
      (pss_cons (ps_for PassesOwn.never rfl (pi_list (pe_slice sl_list (pe_call (ok_law_mixed T) (hr.mono (by decide)) (by rfl) T.g__law_mixed T.F__law_mixed.kp T.b__law_mixed .nil pass0 (pa_cons (pv 0) (pa_cons pe_str pa_nil))) po_none (po_some (pv 1)))) (pg_name (i := 3) sc_law_words.nd rfl (Or.inl rfl)) (pss_cons (ps_set (i := 4) sc_law_words.nd rfl (Or.inl rfl) (pe_call (ok_law_pick T) (hr.mono (by decide)) (by rfl) T.g__law_pick T.F__law_pick.kp T.b__law_pick .nil pass0 (pa_cons (pv 0) (pa_cons (pe_lst (pa_cons pe_int (pa_cons pe_int (pa_cons pe_int (pa_cons pe_int (pa_cons pe_int (pa_cons pe_int (pa_cons pe_int pa_nil)))))))) pa_nil))))
      (pss_cons (ps_set (i := 5) sc_law_words.nd rfl (Or.inl rfl) (pe_op op_add_str (pv 3) (pe_joinN pe_str (pe_lc (own := [("_law_turn", 6)]) (g := gName 6) (by rfl) sc_law_words.nd (pi_range1 (by rfl) T.n_range (pa_cons (pv 4) pa_nil)) (blkOk_by (own := [("_law_turn", 6)]) (N := ["_law_feed_here", "_law_many", "_law_found", "_law_letter", "_law_size", "_law_word", "_law_turn"]) (sc := defScope s_law_words) (by decide +kernel)) (fun _ _ _ _ _ => (pg_name (i := 6) sc_law_words.nd rfl (Or.inl rfl))) (fun _ _ _ _ _ => pts_nil) (fun _ _ _ _ _ => (pe_call (ok_law_pick T) (hr.mono (by decide)) (by rfl) T.g__law_pick T.F__law_pick.kp T.b__law_pick .nil pass0 (pa_cons (pv 0) (pa_cons pe_str pa_nil))))))))
      (pss_one (ps_expr (pe_bm PySem.F.plainAttrs_list PySem.F.slot_list_append PySem.F.type_list_append mt_append (pv 2) (pa_cons (pe_ifExp (pt_cmpR op_in_seq (pv 5) (pe_tup (pa_cons pe_str (pa_cons pe_str pa_nil))) (by rfl)) (pe_op op_add_str (pv 5) pe_str) (pv 5)) pa_nil)))))))
      (pss_one (ps_ret (pv 2))))), ?_⟩
    walk_at "rd"
    refine ⟨by decide, fun p hp => ?_⟩
    have s1 := same_new (o := .lst []) hp
    have f1 : upd H p (.lst []) p = some (.lst []) := upd_same
    generalize upd H p (.lst []) = H1 at *
    have np : p ≠ d := hd.ne hp
    have g1 := Gr.same hd s1
    refine ⟨d, .str abc, sgs abc, rfl, g1.dice, .inr ⟨abc, rfl, rfl⟩, by decide +kernel, fun l0 H2 yz g2 hl0 nl0 h2 pm => ?_⟩
    refine ⟨l0, yz, rfl, sql_of h2, fun l hl => ?_⟩
    rw [cut_to n]
    have hyl : yz.length = 26 := by rw [pm.length_eq]; decide +kernel
    have zl : (yz.take n).length = n := by rw [List.length_take]; omega
    have zm : ∀ y ∈ yz.take n, y ∈ sgs abc := fun y hy => pm.mem_iff.mp (List.mem_of_mem_take hy)
    have zn : (yz.take n).Nodup := (List.take_sublist n yz).nodup (pm.nodup_iff.mpr sgs_nd)
    generalize yz.take n = ys at *
    have s3 := same_new (o := .lst ys) hl
    have f3 : upd H2 l (.lst ys) l = some (.lst ys) := upd_same
    generalize upd H2 l (.lst ys) = H3 at *
    have g13 := (g1.trans g2).trans (Gr.same g2.dice s3)
    have hp3 : H3 p = some (.lst []) := s3 _ _ (g2.keep _ _ np f1)
    have nl : l ≠ d := g2.dice.ne hl
    have npl : p ≠ l := fun e => by
      rw [← e, g2.keep _ _ np f1] at hl
      cases hl
    clear g1 g2 s1 s3 f1 h2 hl hl0
    refine ⟨l, rfl, ⟨_, sql_of f3⟩, forB (walk_list (xs := ys)) (inv_words d l p n ys H) ⟨none, none, none, [], rfl, g13, f3, hp3, rfl, (fun w h => nomatch h), rfl⟩ ?_ ?_ ?_⟩
    · rintro i σ H2 _ ⟨x3, x4, x5, ws, rfl, g, e1, e2, e3, e4, e5⟩
      exact sql_of e1
    · rintro i x σ Ha Hb hi ⟨x3, x4, x5, ws, rfl, g, e1, e2, e3, e4, e5⟩ ⟨rfl, hx⟩
      have hm := zm x (List.mem_of_getElem? hx)
      obtain ⟨c, hc, rfl⟩ := List.mem_map.mp hm
      walk_at "rd"
      refine ⟨by decide, fun r hr => ?_⟩
      have nr : r ≠ d := g.dice.ne hr
      refine .inl (pick_new g.dice hr (by simp) (by simp) fun y H4 hy4 g4 => ?_)
      obtain ⟨m, rfl, hm7⟩ : ∃ k : Nat, y = .int k ∧ k ≤ 7 := by
        simp only [List.mem_cons, List.not_mem_nil, or_false] at hy4
        rcases hy4 with h | h | h | h | h | h | h <;> subst h
        · exact ⟨0, rfl, by decide⟩
        · exact ⟨0, rfl, by decide⟩
        · exact ⟨0, rfl, by decide⟩
        · exact ⟨1, rfl, by decide⟩
        · exact ⟨2, rfl, by decide⟩
        · exact ⟨4, rfl, by decide⟩
        · exact ⟨7, rfl, by decide⟩
      have g5 := g4
      walk_at "rd"
      refine ⟨⟨_, rfl⟩, by omega, by omega, ?_⟩
      refine lc_gr walk_range (fun _ y => ∃ c, y = V.str (sg c) ∧ c ∈ aeo.cps.toList) (sz100 (by omega)) g5.dice (fun _ _ => trivial) ?_ mono_name mono_yes ?_
      · rintro i2 x2 H5 H6 hi2 g6 ⟨rfl, rfl⟩ R hR
        walk_at "rd"
        exact .inl ⟨d, _, rfl, g6.dice, .inr ⟨aeo, rfl, by decide +kernel, by decide +kernel, by decide +kernel, fun c H7 hc g7 => hR _ _ ⟨c, rfl, hc⟩ g7⟩⟩
      · intro H5 D zs g6 hD nD hzl hzs hL
        obtain ⟨cs, rfl, hcl, hcs⟩ := ex_cs (P := fun c => c ∈ aeo.cps.toList) fun i y hy => hzs i y hy
        have htl : TL.tl (sg c ++ Txt.join (Str.ofString "") (cs.map sg)) = c :: cs := by
          rw [TL.tl_append, tl_joinSg]
          rfl
        have hwl : (sg c ++ Txt.join (Str.ofString "") (cs.map sg)).length = 1 + cs.length := by
          rw [len_tl, htl, List.length_cons]
          omega
        have hjl : (Txt.join (Str.ofString "") (cs.map sg)).length = cs.length := by
          rw [len_tl, tl_joinSg]
        have hc7 : cs.length ≤ 7 := by
          rw [hcl, hzl]
          omega
        have hp5 : H5 p = some (.lst (ws.map V.str)) := g6.keep _ _ np (g5.keep _ _ np e2)
        refine joinL' (sql_of hL) ?_ ?_
        · rw [sum_ones, show (Str.ofString "").length = 0 from rfl]
          omega
        walk_at "rd"
        refine ⟨?_, tyl (sql_of hp5), by decide, fun t2 ht2 => ⟨t2, _, rfl, .inr (sqt_of upd_same), rfl, rfl, _, rfl, ?_⟩⟩
        · rw [hjl]
          show 1 + cs.length ≤ sizeLine
          exact sz100 (by omega)
        have gH : Gr d H H5 := (g.trans g5).trans g6
        have ht20 : H t2 = none := gH.back ht2
        have nt2 : t2 ≠ d := hd.ne ht20
        have nt2p : p ≠ t2 := fun e => by
          rw [← e, hp5] at ht2
          cases ht2
        have nt2l : l ≠ t2 := fun e => by
          rw [← e, g6.keep _ _ nl (g5.keep _ _ nl e1)] at ht2
          cases ht2
        have gH2 : Gr d H (upd H5 t2 (.tup [.str (Str.ofString "to"), .str (Str.ofString "gives")])) := gH.mut ht20 nt2
        have hp6 : (upd H5 t2 (.tup [.str (Str.ofString "to"), .str (Str.ofString "gives")])) p = some (.lst (ws.map V.str)) := by
          rw [upd_ne nt2p]
          exact hp5
        have hcl' : lowC c = true := abc_low c hc
        have fin : ∀ wd : Str, isNm wd = true ∧ wd ≠ fgn → fstV wd = .str (sg c) → ∀ x3 x4 x5, rAppend (V.ref p) [V.str wd] (upd H5 t2 (.tup [.str (Str.ofString "to"), .str (Str.ofString "gives")])) fun x H1 =>
            inv_words d l p n ys H (i + 1) [some (V.ref d), some (V.int n), some (V.ref p), x3, x4, x5, none] H1 := by
          intro wd hw hfst x3 x4 x5
          refine ⟨p, _, _, rfl, rfl, hp6, by rw [List.length_map]; exact sz100' (by omega), x3, x4, x5, ws ++ [wd], rfl, gH2.mut hp np, ?_, ?_, ?_, ?_, ?_⟩
          · rw [upd_ne npl.symm, upd_ne nt2l]
            exact g6.keep _ _ nl (g5.keep _ _ nl e1)
          · rw [upd_same, List.map_append]
            rfl
          · rw [List.length_append, e3]
            rfl
          · intro w hw2
            rcases List.mem_append.mp hw2 with h | h
            · exact e4 w h
            · rw [List.mem_singleton.mp h]
              exact hw
          · rw [List.map_append, e5, List.take_add_one, hx, List.map_cons, List.map_nil, hfst]
            rfl
        have fst0 : ∀ more : Str, fstV ((sg c ++ Txt.join (Str.ofString "") (cs.map sg)) ++ more) = .str (sg c) := fun more => by
          have ht2 : ((sg c ++ Txt.join (Str.ofString "") (cs.map sg)) ++ more).cps.toList = c :: (cs ++ TL.tl more) := by
            have := TL.tl_append (sg c ++ Txt.join (Str.ofString "") (cs.map sg)) more
            rw [htl] at this
            exact this
          unfold fstV
          rw [ht2]
          rfl
        refine ite2 (fun h => ⟨?_, fin _ ?_ (fst0 _) _ _ _⟩) (fun h => fin _ ?_ ?_ _ _ _)
        · exact sz100 (by rw [show (Str.ofString "o").length = 1 by decide]; exact Nat.le_trans (Nat.le_of_eq (congrArg (· + 1) hwl)) (by omega))
        · exact nm_o (by simpa using h)
        · refine ⟨isNm_of (Nat.le_trans (Nat.le_add_right 1 cs.length) (Nat.le_of_eq hwl.symm)) (Nat.le_trans (Nat.le_of_eq hwl) (by omega)) ?_ ?_, fun e => ?_⟩
          · rw [inV_swap]
            simpa using h
          · intro x hx
            have hx : x ∈ TL.tl (sg c ++ Txt.join (Str.ofString "") (cs.map sg)) := hx
            rw [htl] at hx
            rcases List.mem_cons.mp hx with rfl | hx
            · exact hcl'
            · exact aeo_low x (hcs x hx)
          have e2 : TL.tl (sg c ++ Txt.join (Str.ofString "") (cs.map sg)) = TL.tl fgn := congrArg TL.tl e
          rw [htl] at e2
          have e3 : cs = (TL.tl fgn).tail := by rw [← e2]; rfl
          have : (114 : Nat) ∈ aeo.cps.toList := hcs 114 (by rw [e3]; decide)
          revert this
          decide
        · have ht2 : (sg c ++ Txt.join (Str.ofString "") (cs.map sg)).cps.toList = c :: cs := htl
          show fstV (sg c ++ Txt.join (Str.ofString "") (cs.map sg)) = _
          unfold fstV
          rw [ht2]
          rfl
    · rintro σ H4 ⟨x3, x4, x5, ws, rfl, g, e1, e2, e3, e4, e5⟩
      walk_at "rd"
      refine q p H4 ws g hp np e2 e4 ?_ (by rw [e3, zl])
      rw [List.take_length] at e5
      rw [← e5] at zn
      exact List.Pairwise.of_map fstV (fun _ _ ne e => ne (congrArg fstV e)) zn
end

local macro_rules | `(tactic| walk_at "rdx") => `(tactic| ((try simp only [tFld, gTup, gStar, tJs, tFmt, sFld, tMake, tMakeL, tDGet]); try walk_at "rd"))
section
variable {w : World} {K : PySem.W.Frag} {mg : Str → Option Value} {base : Heap}
abbrev keyM : L2.Key := .inr (Str.ofString "marks")
abbrev keyB : L2.Key := .inr (Str.ofString "bases")
abbrev keyC : L2.Key := .inr (Str.ofString "conversions")
/-- a dict of marks and bases -/
structure SpF (H : Hp) (p : Addr) (ms bs : List Str) (am ab lc : Addr) : Prop where
  at_ : H p = some (.dK [(keyM, .ref am), (keyB, .ref ab), (keyC, .ref lc)])
  hm : H am = some (.tup (ms.map V.str))
  hb : H ab = some (.tup (bs.map V.str))
theorem gr_dK {d p : Addr} {H H' : Hp} {l : List (L2.Key × V)} (g : Gr d H H') (h : H p = some (.dK l)) : H' p = some (.dK l) := by
  obtain ⟨x, y, z, hd⟩ := g.pre
  exact g.keep _ _ (fun e => by rw [e, hd] at h; cases h) h
theorem SpF.gr {d p am ab lc : Addr} {H H' : Hp} {ms bs : List Str} (h : SpF H p ms bs am ab lc) (g : Gr d H H') : SpF H' p ms bs am ab lc := ⟨gr_dK g h.at_, SmT.gr g _ _ h.hm, SmT.gr g _ _ h.hb⟩
/-- the names that are drawn from -/
structure NmOk (ms bs : List Str) : Prop where
  nm : ∀ z ∈ ms, isNm z = true
  nb : ∀ z ∈ bs, isNm z = true
  lm : ms.length ≤ 8
  lb : bs.length ≤ 8
  lo : 1 ≤ bs.length
theorem pick_t {H : Hp} {d p : Addr} {ws : List Str} {Q : VK} {E : XK} (hd : Dc H d) (h : H p = some (.tup (ws.map V.str))) (lo : 1 ≤ ws.length) (hi : ws.length ≤ 100) (q : ∀ z H', z ∈ ws → Gr d H H' → Q (.str z) H') : sp_pickA K [.ref d, .ref p] H Q E :=
  .inr ⟨d, p, ws.map V.str, rfl, hd, sqt_of h, (fun e => by have := congrArg List.length e; simp at this; subst this; simp at lo), by rw [List.length_map]; omega, fun y H' hy g => by
    obtain ⟨z, hz, rfl⟩ := List.mem_map.mp hy
    exact q z H' hz g⟩
def sp_front : Sp := fun vs H Q _ => ∃ (d p am ab lc : Addr) (k : Int) (ms bs : List Str), vs = [.ref d, .ref p, .int k] ∧ Dc H d ∧ SpF H p ms bs am ab lc ∧ NmOk ms bs ∧ 0 ≤ k ∧ k ≤ 6 ∧
  ∀ a H' (ws : List Str), Gr d H H' → H' a = some (.tup (ws.map V.str)) → (∀ z ∈ ws, z ∈ ms) → (ws.length : Int) ≤ k → Q (.ref a) H'
theorem ok_law_front (T : Tx K mg) : FnOk P w K mg base CX0 3 T.f__law_front T.d__law_front ["_law_feed_here", "_law_plain_here", "_law_size"] sp_front := by
  refine T.F__law_front.ok sc_law_front (fun vs H Q E h => ?_) (fun cdv A outer s H vs Q E hr h => ?_)
  · obtain ⟨d, p, am, ab, lc, k, ms, bs, rfl, _⟩ := h
    rfl
  · obtain ⟨d, p, am, ab, lc, k, ms, bs, rfl, hd, hs, nk, k0, k1, q⟩ := h
    refine ⟨_, (pss_cons (ps_set (i := 3) sc_law_front.nd rfl (Or.inl rfl) (pe_ifExp (pt_cmpR (op_neD hr.units) (pe_dget (u1 hr.units) (pv 1) pe_str (fun _ _ => rfl)) (pe_tup pa_nil) (nomark _)) (pe_call (ok_law_draw T) (hr.mono (by decide)) (by rfl) T.g__law_draw T.F__law_draw.kp T.b__law_draw .nil pass0 (pa_cons (pv 0) (pa_cons (pe_op op_add (pv 2) pe_int) pa_nil))) pe_int))
      (pss_one (ps_ret (pe_callTy call_tupL (by rfl) T.n_tuple (by decide +kernel) (pa_cons (pe_lc (own := [("_law_turn", 4)]) (g := gName 4) (by rfl) sc_law_front.nd (pi_range1 (by rfl) T.n_range (pa_cons (pv 3) pa_nil)) (blkOk_by (own := [("_law_turn", 4)]) (N := ["_law_feed_here", "_law_plain_here", "_law_size", "_law_count", "_law_turn"]) (sc := defScope s_law_front) (by decide +kernel)) (fun _ _ _ _ _ => (pg_name (i := 4) sc_law_front.nd rfl (Or.inl rfl))) (fun _ _ _ _ _ => pts_nil) (fun _ _ _ _ _ => (pe_call (ok_law_pick T) (hr.mono (by decide)) (by rfl) T.g__law_pick T.F__law_pick.kp T.b__law_pick .nil pass0 (pa_cons (pv 0) (pa_cons (pe_dget (u1 hr.units) (pv 1) pe_str (fun _ _ => rfl)) pa_nil))))) pa_nil))))), ?_⟩
    walk_at "rd"
    walk_at "rdx"
    refine ⟨.ref am, DGet.k (k := keyM) hs.at_, by decide, fun p1 hp1 => ?_⟩
    have s1 := same_new (o := .tup []) hp1
    have f1 : upd H p1 (.tup []) p1 = some (.tup []) := upd_same
    generalize upd H p1 (.tup []) = H1 at *
    have g1 := Gr.same hd s1
    have h1 := hs.gr g1
    refine neT (ys := []) (sqt_of h1.hm) (sqt_of f1) (fun z hz => pl_of (nk.nm z hz)) (fun _ h => nomatch h) ⟨_, rfl, ?_⟩
    have fin : ∀ (n : Nat) H2 σ, Gr d H H2 → (n : Int) ≤ k → (n ≠ 0 → 1 ≤ ms.length) → σ = [some (V.ref d), some (V.ref p), some (V.int k), some (V.int n), none] →
        LcB (Itr 0 n) (gName 4) tYes (tCall (sp_pickA K) [] E0 (tCons (tVar 0) (tCons (tDGet (tVar 1) (tC (V.str (Str.ofString "marks")))) tNil))) [4] σ (fun x H1 => rTupL K [x] H1 Q) H2 := by
      intro n H2 σ g2 hn h0 hσ
      subst hσ
      refine lc_gr walk_range (fun _ y => ∃ z, y = V.str z ∧ z ∈ ms) (sz100 (by omega)) g2.dice (fun _ _ => trivial) ?_ mono_name mono_yes ?_
      · rintro i2 x2 H5 H6 hi2 g6 ⟨rfl, rfl⟩ R hR
        walk_at "rdx"
        walk_at "rdx"
        have h6 := hs.gr (g2.trans g6)
        refine ⟨.ref am, DGet.k (k := keyM) h6.at_, ?_⟩
        exact pick_t g6.dice h6.hm (h0 (by omega)) (by have := nk.lm; omega) fun z H8 hz g8 => hR _ _ ⟨z, rfl, hz⟩ g8
      intro H5 D zs g5 hD nD hzl hzs hL5
      obtain ⟨xs, rfl, hxs⟩ := ex_in hzs
      rw [List.length_map] at hzl
      have g25 := g2.trans g5
      refine tupL (sql_of hL5) fun p3 hp3 => ?_
      have s9 := same_new (o := .tup (xs.map V.str)) hp3
      have f9 : upd H5 p3 (.tup (xs.map V.str)) p3 = some (.tup (xs.map V.str)) := upd_same
      generalize upd H5 p3 (.tup (xs.map V.str)) = H9 at *
      exact q p3 H9 xs (g25.trans (Gr.same g25.dice s9)) f9 hxs (by omega)
    by_cases hn : ms = []
    · rw [decide_eq_true hn]
      exact iteF ⟨by decide, by decide, fin 0 H1 _ g1 (by omega) (fun h => absurd rfl h) rfl⟩
    · rw [decide_eq_false hn]
      have hl : 1 ≤ ms.length := List.length_pos_iff.mpr hn
      refine iteT (roll_new g1.dice (by omega) (by omega) fun r H2 r0 r1 g2 => ⟨r, rfl, by omega, by omega, ?_⟩)
      obtain ⟨n, rfl⟩ : ∃ n : Nat, r = (n : Int) := ⟨r.toNat, by omega⟩
      exact fin n H2 _ (g1.trans g2) (by omega) (fun _ => hl) rfl
def sp_names : Sp := fun vs H Q _ => ∃ (d p am ab lc : Addr) (k : Int) (ms bs : List Str), vs = [.ref d, .ref p, .int k] ∧ Dc H d ∧ SpF H p ms bs am ab lc ∧ NmOk ms bs ∧ 0 ≤ k ∧ k ≤ 6 ∧
  ∀ a H' (ws : List Str), Gr d H H' → H' a = some (.tup (ws.map V.str)) → tyIn ms bs ws → (ws.length : Int) ≤ k + 1 → Q (.ref a) H'
theorem ok_law_names (T : Tx K mg) : FnOk P w K mg base CX0 4 T.f__law_names T.d__law_names ["_law_feed_here", "_law_plain_here", "_law_size"] sp_names := by
  refine T.F__law_names.ok sc_law_names (fun vs H Q E h => ?_) (fun cdv A outer s H vs Q E hr h => ?_)
  · obtain ⟨d, p, am, ab, lc, k, ms, bs, rfl, _⟩ := h
    rfl
  · obtain ⟨d, p, am, ab, lc, k, ms, bs, rfl, hd, hs, nk, k0, k1, q⟩ := h
    refine ⟨_, (pss_one (ps_ret (pe_op op_catA (pe_call (ok_law_front T) (hr.mono (by decide)) (by rfl) T.g__law_front T.F__law_front.kp T.b__law_front .nil pass0 (pa_cons (pv 0) (pa_cons (pv 1) (pa_cons (pv 2) pa_nil)))) (pe_tup (pa_cons (pe_call (ok_law_pick T) (hr.mono (by decide)) (by rfl) T.g__law_pick T.F__law_pick.kp T.b__law_pick .nil pass0 (pa_cons (pv 0) (pa_cons (pe_dget (u1 hr.units) (pv 1) pe_str (fun _ _ => rfl)) pa_nil))) pa_nil))))), ?_⟩
    walk_at "rd"
    walk_at "rdx"
    refine ⟨d, p, am, ab, lc, k, ms, bs, rfl, hd, hs, nk, k0, k1, fun a H1 ws g1 h1 i1 l1 => ?_⟩
    walk_at "rdx"
    have k2 := hs.gr g1
    refine ⟨.ref ab, DGet.k (k := keyB) k2.at_, pick_t g1.dice k2.hb nk.lo (by have := nk.lb; omega) fun z H2 hz g2 => ⟨by decide, fun p3 hp3 => ?_⟩⟩
    have s3 := same_new (o := .tup [V.str z]) hp3
    have f3 : upd H2 p3 (.tup [V.str z]) p3 = some (.tup [V.str z]) := upd_same
    generalize upd H2 p3 (.tup [V.str z]) = H3 at *
    refine catT (s3 _ _ (SmT.gr g2 _ _ h1)) f3 (sz100 (by simp; omega)) fun p4 H4 s4 f4 => ?_
    have e1 : ws.map V.str ++ [V.str z] = (ws ++ [z]).map V.str := by simp
    rw [e1] at f4
    have g12 := g1.trans g2
    exact q p4 H4 (ws ++ [z]) (g12.trans (Gr.same g12.dice (s3.trans s4))) f4 ⟨ws, z, rfl, i1, hz⟩ (by rw [List.length_append, List.length_singleton]; omega)
end

local macro_rules | `(tactic| walk_at "rdx") => `(tactic| ((try simp only [tFld, gTup, gStar, tJs, tFmt, sFld, tMake, tMakeL, tDGet]); try walk_at "rd"))
section
variable {w : World} {K : PySem.W.Frag} {mg : Str → Option Value} {base : Heap}
theorem to4 {xs : List V} {y : V} (h : y ∈ xs) (hx : xs.all (fun v => match v with | .int k => decide (0 ≤ k ∧ k ≤ 4) | _ => false) = true) : ∃ k : Nat, y = .int k ∧ k ≤ 4 := by
  have := List.all_eq_true.mp hx y h
  match y, this with
  | .int k, this =>
    have := of_decide_eq_true this
    exact ⟨k.toNat, by rw [Int.toNat_of_nonneg this.1], by omega⟩
def sp_conversion : Sp := fun vs H Q _ => ∃ (d p am ab lc : Addr) (lg : Int) (ms bs : List Str), vs = [.ref d, .ref p, .int lg] ∧ Dc H d ∧ SpF H p ms bs am ab lc ∧ NmOk ms bs ∧ 0 ≤ lg ∧ lg ≤ 3 ∧ ∀ v H', Gr d H H' → CvDrawn H' ms bs v → Q v H'
theorem ok_law_conversion (T : Tx K mg) : FnOk P w K mg base CX0 5 T.f__law_conversion T.d__law_conversion ["_law_feed_here", "_law_plain_here", "_law_longer"] sp_conversion := by
  refine T.F__law_conversion.ok sc_law_conversion (fun vs H Q E h => ?_) (fun cdv A outer s H vs Q E hr h => ?_)
  · obtain ⟨d, p, am, ab, lc, lg, ms, bs, rfl, _⟩ := h
    rfl
  · obtain ⟨d, p, am, ab, lc, lg, ms, bs, rfl, hd, hs, nk, l0, l3, q⟩ := h
    refine ⟨_, (pss_cons (ps_par (i := 3) (j := 4) (by rfl) sc_law_conversion.nd rfl rfl (by decide) rfl rfl (pa_cons (pe_call (ok_law_pick T) (hr.mono (by decide)) (by rfl) T.g__law_pick T.F__law_pick.kp T.b__law_pick .nil pass0 (pa_cons (pv 0) (pa_cons (pe_lst (pa_cons pe_str (pa_cons pe_str (pa_cons pe_str (pa_cons pe_str (pa_cons pe_str pa_nil)))))) pa_nil))) (pa_cons (pe_call (ok_law_pick T) (hr.mono (by decide)) (by rfl) T.g__law_pick T.F__law_pick.kp T.b__law_pick .nil pass0 (pa_cons (pv 0) (pa_cons (pe_lst (pa_cons pe_int (pa_cons pe_int (pa_cons pe_int (pa_cons pe_int (pa_cons pe_int (pa_cons pe_int pa_nil))))))) pa_nil))) pa_nil)) (by rfl))
      (pss_cons (ps_if (pt_cmpR op_eq (pv 3) pe_str (nomark _)) (pss_cons (ps_set (i := 5) sc_law_conversion.nd rfl (Or.inl rfl) (pe_call (ok_law_names T) (hr.mono (by decide)) (by rfl) T.g__law_names T.F__law_names.kp T.b__law_names .nil pass0 (pa_cons (pv 0) (pa_cons (pv 1) (pa_cons (pe_call (ok_law_pick T) (hr.mono (by decide)) (by rfl) T.g__law_pick T.F__law_pick.kp T.b__law_pick .nil pass0 (pa_cons (pv 0) (pa_cons (pe_lst (pa_cons pe_int (pa_cons pe_int (pa_cons pe_int (pa_cons pe_int pa_nil))))) pa_nil))) pa_nil)))))
      (pss_cons (ps_set (i := 6) sc_law_conversion.nd rfl (Or.inl rfl) (pe_call (ok_law_names T) (hr.mono (by decide)) (by rfl) T.g__law_names T.F__law_names.kp T.b__law_names .nil pass0 (pa_cons (pv 0) (pa_cons (pv 1) (pa_cons (pe_call (ok_law_pick T) (hr.mono (by decide)) (by rfl) T.g__law_pick T.F__law_pick.kp T.b__law_pick .nil pass0 (pa_cons (pv 0) (pa_cons (pe_lst (pa_cons pe_int (pa_cons pe_int (pa_cons pe_int (pa_cons pe_int (pa_cons pe_int pa_nil)))))) pa_nil))) pa_nil)))))
      (pss_one (ps_ret (pe_ifExp (pt_cmpR (op_eqD hr.units) (pv 5) (pv 6) (nomark _)) pe_non (pe_tup (pa_cons (pv 3) (pa_cons (pv 5) (pa_cons (pv 6) (pa_cons (pv 4) pa_nil)))))))))) pss_nil)
      (pss_cons (ps_set (i := 5) sc_law_conversion.nd rfl (Or.inl rfl) (pe_call (ok_law_front T) (hr.mono (by decide)) (by rfl) T.g__law_front T.F__law_front.kp T.b__law_front .nil pass0 (pa_cons (pv 0) (pa_cons (pv 1) (pa_cons pe_int pa_nil)))))
      (pss_cons (ps_if (pt_cmpR op_eq (pv 3) pe_str (nomark _)) (pss_one (ps_ret (pe_tup (pa_cons (pv 3) (pa_cons (pv 5) (pa_cons (pe_call (ok_law_names T) (hr.mono (by decide)) (by rfl) T.g__law_names T.F__law_names.kp T.b__law_names .nil pass0 (pa_cons (pv 0) (pa_cons (pv 1) (pa_cons (pe_call (ok_law_pick T) (hr.mono (by decide)) (by rfl) T.g__law_pick T.F__law_pick.kp T.b__law_pick .nil pass0 (pa_cons (pv 0) (pa_cons (pe_lst (pa_cons pe_int (pa_cons pe_int (pa_cons pe_int (pa_cons pe_int pa_nil))))) pa_nil))) pa_nil)))) (pa_cons (pv 4) pa_nil))))))) pss_nil)
      (pss_cons (ps_set (i := 6) sc_law_conversion.nd rfl (Or.inl rfl) (pe_call (ok_law_front T) (hr.mono (by decide)) (by rfl) T.g__law_front T.F__law_front.kp T.b__law_front .nil pass0 (pa_cons (pv 0) (pa_cons (pv 1) (pa_cons (pe_callB (call_min2 rfl) (by rfl) T.n_min (by decide +kernel) (pa_cons pe_int (pa_cons (pe_op op_add (pe_callB call_lenQ (by rfl) T.n_len (by decide +kernel) (pa_cons (pv 5) pa_nil)) (pv 2)) pa_nil))) pa_nil)))))
      (pss_one (ps_ret (pe_ifExp (pt_cmpR (op_eqD hr.units) (pv 5) (pv 6) (nomark _)) pe_non (pe_tup (pa_cons (pv 3) (pa_cons (pv 5) (pa_cons (pv 6) (pa_cons (pv 4) pa_nil))))))))))))), ?_⟩
    refine seqN fun N1 hN1 => ?_
    walk_at "rd"
    walk_at "rdx"
    refine ⟨by decide, fun p1 hp1 => .inl (pick_new hd hp1 (by simp) (by simp) fun y1 H1 hy1 g1 => ⟨by decide, fun p2 hp2 => .inl (pick_new g1.dice hp2 (by simp) (by simp) fun y2 H2 hy2 g2 => hN1 _ _ ?_)⟩)⟩
    clear hN1
    obtain ⟨kd, rfl⟩ : ∃ kd : Kd, y1 = .str (wK kd) := by
      simp only [List.mem_cons, List.not_mem_nil, or_false] at hy1
      rcases hy1 with h | h | h | h | h
      · exact ⟨.open_, h⟩
      · exact ⟨.open_, h⟩
      · exact ⟨.open_, h⟩
      · exact ⟨.closed, h⟩
      · exact ⟨.drop, h⟩
    obtain ⟨k, rfl, k1, k9⟩ : ∃ k : Nat, y2 = .int k ∧ 1 ≤ k ∧ k ≤ 9 := by
      simp only [List.mem_cons, List.not_mem_nil, or_false] at hy2
      rcases hy2 with h | h | h | h | h | h
      · exact ⟨1, h, by decide, by decide⟩
      · exact ⟨1, h, by decide, by decide⟩
      · exact ⟨2, h, by decide, by decide⟩
      · exact ⟨3, h, by decide, by decide⟩
      · exact ⟨5, h, by decide, by decide⟩
      · exact ⟨9, h, by decide, by decide⟩
    have gA := g1.trans g2
    have nmM := nk.nm
    have nmB := nk.nb
    have fin : ∀ (a1 a2 : Addr) (ws us : List Str) (H4 : Hp), Gr d H H4 → H4 a1 = some (.tup (ws.map V.str)) → H4 a2 = some (.tup (us.map V.str)) → sidesV kd true true (ws.map V.str) (us.map V.str) = true → sideIn ms bs (decide (kd ≠ .closed), ws) → sideIn ms bs (decide (kd = .open_), us) →
        ∀ a3, H4 a3 = none → Q (.ref a3) (upd H4 a3 (.tup [.str (wK kd), .ref a1, .ref a2, .int k])) := by
      intro a1 a2 ws us H4 g4 h1 h2 ok i1 i2 a3 h3
      have s3 := same_new (o := HO.tup [.str (wK kd), .ref a1, .ref a2, .int k]) h3
      refine q _ _ (g4.trans (Gr.same g4.dice s3)) (.inr ⟨a3, ⟨kd, ws, us, k⟩, rfl, ⟨a1, a2, upd_same, s3 _ _ h1, s3 _ _ h2⟩, ?_, within_sides fun t ht => ?_⟩)
      · show ((decide (1 ≤ k) && decide (k ≤ 9)) && sidesV kd true true (ws.map V.str) (us.map V.str)) = true
        rw [ok, decide_eq_true k1, decide_eq_true k9]
        rfl
      · rcases List.mem_cons.mp (show t ∈ [(decide (kd ≠ .closed), ws), (decide (kd = .open_), us)] from ht) with rfl | ht
        · exact i1
        · rw [List.mem_singleton.mp ht]
          exact i2
    refine seqN fun N2 hN2 => ?_
    walk_at "rd"
    walk_at "rdx"
    cases kd with
    | closed =>
      clear hN2
      refine ⟨rfl, iteP (by decide) ⟨by decide, fun p3 hp3 => .inl (pick_new g2.dice hp3 (by simp) (by simp) fun y3 H3 hy3 g3 => ?_)⟩⟩
      obtain ⟨k3, rfl, k34⟩ := to4 hy3 rfl
      have gB := gA.trans g3
      refine ⟨d, p, am, ab, lc, k3, ms, bs, rfl, g3.dice, hs.gr gB, nk, by omega, by omega, fun a1 H4 ws g4 h1 t1 l1 => ⟨by decide, fun p4 hp4 => .inl (pick_new g4.dice hp4 (by simp) (by simp) fun y4 H5 hy4 g5 => ?_)⟩⟩
      obtain ⟨k4, rfl, k44⟩ := to4 hy4 rfl
      have gC := (gB.trans g4).trans g5
      refine ⟨d, p, am, ab, lc, k4, ms, bs, rfl, g5.dice, hs.gr gC, nk, by omega, by omega, fun a2 H6 us g6 h2 t2 l2 => ?_⟩
      have gD := gC.trans g6
      have h1 := SmT.gr g6 _ _ (SmT.gr g5 _ _ h1)
      obtain ⟨n1, m1⟩ := t1.nm nmM nmB
      obtain ⟨n2, m2⟩ := t2.nm nmM nmB
      refine eqT (sqt_of h1) (sqt_of h2) (fun w hw => pl_of (n1 w hw)) (fun w hw => pl_of (n2 w hw)) ⟨_, rfl, ite2 (fun e => q _ _ gD (.inl rfl)) (fun e => ⟨by decide, fun a3 h3 => ?_⟩)⟩
      have ne : ws ≠ us := by simpa using e
      refine fin a1 a2 ws us H6 gD h1 h2 ?_ t1 t2 a3 h3
      show (true && namesV (ws.map V.str) 1 5 && (true && namesV (us.map V.str) 1 5 && !decide (ws.map V.str = us.map V.str))) = true
      rw [names_to n1 (by omega) (by omega), names_to n2 (by omega) (by omega), strs_eq, decide_eq_false ne]
      rfl
    | open_ =>
      refine ⟨rfl, iteN (by decide) (hN2 _ _ ?_)⟩
      clear hN2
      walk_at "rd"
      walk_at "rdx"
      refine ⟨d, p, am, ab, lc, 2, ms, bs, rfl, g2.dice, hs.gr gA, nk, by decide, by decide, fun a1 H4 ws g4 h1 t1 l1 => ⟨rfl, iteN (by decide) (lenT (sqt_of h1) ⟨_, rfl, ?_⟩)⟩⟩
      have gB := gA.trans g4
      have lr : ∃ r : Nat, (if ((ws.map V.str).length : Int) + lg < 3 then ((ws.map V.str).length : Int) + lg else 3) = (r : Int) ∧ r ≤ 3 := ⟨(if ((ws.map V.str).length : Int) + lg < 3 then ((ws.map V.str).length : Int) + lg else 3).toNat, by split <;> omega, by split <;> omega⟩
      obtain ⟨r, er, r3⟩ := lr
      rw [er]
      refine ⟨d, p, am, ab, lc, r, ms, bs, rfl, g4.dice, hs.gr gB, nk, by omega, by omega, fun a2 H5 us g5 h2 t2 l2 => ?_⟩
      have gC := gB.trans g5
      have h1 := SmT.gr g5 _ _ h1
      have n1 : ∀ z ∈ ws, isNm z = true := fun z hz => nmM z (t1 z hz)
      have n2 : ∀ z ∈ us, isNm z = true := fun z hz => nmM z (t2 z hz)
      refine eqT (sqt_of h1) (sqt_of h2) (fun w hw => pl_of (n1 w hw)) (fun w hw => pl_of (n2 w hw)) ⟨_, rfl, ite2 (fun e => q _ _ gC (.inl rfl)) (fun e => ⟨by decide, fun a3 h3 => ?_⟩)⟩
      have ne : ws ≠ us := by simpa using e
      refine fin a1 a2 ws us H5 gC h1 h2 ?_ t1 t2 a3 h3
      show (true && namesV (ws.map V.str) 0 2 && (true && namesV (us.map V.str) 0 3 && !decide (ws.map V.str = us.map V.str))) = true
      rw [names_to n1 (by omega) (by omega), names_to n2 (by omega) (by omega), strs_eq, decide_eq_false ne]
      rfl
    | drop =>
      refine ⟨rfl, iteN (by decide) (hN2 _ _ ?_)⟩
      clear hN2
      walk_at "rd"
      walk_at "rdx"
      refine ⟨d, p, am, ab, lc, 2, ms, bs, rfl, g2.dice, hs.gr gA, nk, by decide, by decide, fun a1 H4 ws g4 h1 t1 l1 => ⟨rfl, iteP (by decide) ⟨by decide, fun p3 hp3 => .inl (pick_new g4.dice hp3 (by simp) (by simp) fun y3 H3 hy3 g3 => ?_)⟩⟩⟩
      obtain ⟨k3, rfl, k34⟩ := to4 hy3 rfl
      have gB := (gA.trans g4).trans g3
      refine ⟨d, p, am, ab, lc, k3, ms, bs, rfl, g3.dice, hs.gr gB, nk, by omega, by omega, fun a2 H5 us g5 h2 t2 l2 => ⟨by decide, fun a3 h3 => ?_⟩⟩
      have gC := gB.trans g5
      have h1 := SmT.gr g5 _ _ (SmT.gr g3 _ _ h1)
      have n1 : ∀ z ∈ ws, isNm z = true := fun z hz => nmM z (t1 z hz)
      obtain ⟨n2, m2⟩ := t2.nm nmM nmB
      refine fin a1 a2 ws us H5 gC h1 h2 ?_ t1 t2 a3 h3
      show (true && namesV (ws.map V.str) 0 2 && (true && namesV (us.map V.str) 1 5)) = true
      rw [names_to n1 (by omega) (by omega), names_to n2 (by omega) (by omega)]
      rfl
end

set_option pp.maxSteps 3000

local macro_rules | `(tactic| walk_at "rdx") => `(tactic| ((try simp only [tFld, gTup, gStar, tJs, tFmt, sFld, tSc_eq, tDNewN, sDPutN, iKeysN, tDGetN, tLockE, tDGet, LiI.tListItems, tMake, tMakeK, tBN0]); try walk_at "rd"))
theorem perm_map_inv {α β : Type} {f : α → β} : ∀ {ys zs : List β}, ys.Perm zs → ∀ {l : List α}, l.map f = zs → ∃ l' : List α, ys = l'.map f ∧ l'.Perm l := by
  intro ys zs h
  induction h with
  | nil =>
    intro l e
    rw [List.map_eq_nil_iff.mp e]
    exact ⟨[], rfl, .refl _⟩
  | cons x h ih =>
    intro l e
    cases l with
    | nil => cases e
    | cons a l0 =>
      injection e with e1 e2
      obtain ⟨l', e3, p⟩ := ih e2
      exact ⟨a :: l', by rw [List.map_cons, e1, e3], p.cons a⟩
  | swap x y l2 =>
    intro l e
    match l, e with
    | a :: b :: l0, e =>
      injection e with e1 e2
      injection e2 with e2 e3
      exact ⟨b :: a :: l0, by rw [List.map_cons, List.map_cons, e1, e2, e3], .swap a b l0⟩
  | trans h1 h2 ih1 ih2 =>
    intro l e
    obtain ⟨l2, e2, p2⟩ := ih2 e
    obtain ⟨l1, e1, p1⟩ := ih1 e2.symm
    exact ⟨l1, e1, p1.trans p2⟩
section
variable {w : World} {K : PySem.W.Frag} {mg : Str → Option Value} {base : Heap}
theorem gr_ext {d a : Addr} {H H' : Hp} {φ : Heap → Prop} (g : Gr d H H') (h : H a = some (.ext φ)) : H' a = some (.ext φ) := by
  obtain ⟨x, y, z, hd⟩ := g.pre
  exact g.keep _ _ (fun e => by rw [e, hd] at h; cases h) h
def inv_rows (P : Program) (w : World) (K : PySem.W.Frag) (d p p1 : Addr) (k lg : Int) (ms bs : List Str) (H : Hp) : Nat → L2.St → Hp → Prop := fun i σ H' =>
  (∃ y5 y6 : Option V, σ = [some (.ref d), some (.ref p), some (.int k), some (.int lg), some (.ref p1), y5, y6]) ∧ Gr d H H' ∧ ∃ L : Ents, H' p1 = some (DicNO P w p1 L) ∧ L.length ≤ i ∧ EntCv K H' ms bs L
/-- rows of conversions -/
structure RwOk (H : Hp) (ms bs : List Str) (M : List (Addr × Cv)) : Prop where
  kr : ∀ p ∈ M, cvA H p.1 p.2
  ok : ∀ p ∈ M, cvOk p.2 = true ∧ withinB ms bs (.cv p.2) = true
  nd : (M.map fun p => cvK p.2).Nodup
def sp_rows : Sp := fun vs H Q _ => ∃ (d p am ab lc : Addr) (k : Nat) (lg : Int) (ms bs : List Str), vs = [.ref d, .ref p, .int k, .int lg] ∧ Dc H d ∧ SpF H p ms bs am ab lc ∧ NmOk ms bs ∧ k ≤ 16 ∧ 0 ≤ lg ∧ lg ≤ 3 ∧
  ∀ a H' M, Gr d H H' → a ≠ d → H' a = some (.lst (M.map fun p => V.ref p.1)) → RwOk H' ms bs M → M.length ≤ k → Q (.ref a) H'
theorem ok_law_drawn_rows (T : Tx K mg) : FnOk P w K mg base CX0 6 T.f__law_drawn_rows T.d__law_drawn_rows ["_law_feed_here", "_law_plain_here", "_law_many", "_law_longer"] sp_rows := by
  refine T.F__law_drawn_rows.ok sc_law_drawn_rows (fun vs H Q E h => ?_) (fun cdv A outer s H vs Q E hr h => ?_)
  · obtain ⟨d, p, am, ab, lc, k, lg, ms, bs, rfl, _⟩ := h
    rfl
  · obtain ⟨d, p, am, ab, lc, k, lg, ms, bs, rfl, hd, hs, nk, k16, l0, l3, q⟩ := h
    refine ⟨_, (pss_cons (ps_set (i := 4) sc_law_drawn_rows.nd rfl (Or.inl rfl) pe_dnewN)
      (pss_cons (ps_for PassesOwn.never rfl (pi_range1 (by rfl) T.n_range (pa_cons (pv 2) pa_nil)) (pg_name (i := 5) sc_law_drawn_rows.nd rfl (Or.inl rfl)) (pss_cons (ps_set (i := 6) sc_law_drawn_rows.nd rfl (Or.inl rfl) (pe_call (ok_law_conversion T) (hr.mono (by decide)) (by rfl) T.g__law_conversion T.F__law_conversion.kp T.b__law_conversion .nil pass0 (pa_cons (pv 0) (pa_cons (pv 1) (pa_cons (pv 3) pa_nil)))))
      (pss_one (ps_if (PW.pt (pw_and (pt_cmpR op_notN (pv 6) pe_non (nomark _)) (pw_and1 (pt_cmpR (op_notInDN (u16 hr.units)) (pe_slice sl_tupA (pv 6) po_none (po_some pe_int)) (pv 4) (by rfl))))) (pss_one (ps_dputN (u16 hr.units) (pv 4) (pe_slice sl_tupA (pv 6) po_none (po_some pe_int)) (pv 6) rfl)) pss_nil))))
      (pss_one (ps_ret (pe_call (ok_law_mixed T) (hr.mono (by decide)) (by rfl) T.g__law_mixed T.F__law_mixed.kp T.b__law_mixed .nil pass0 (pa_cons (pv 0) (pa_cons (pe_callTy (cr_listVals rfl) (by rfl) T.n_list (by decide +kernel) (pa_cons (pe_bmN0 PySem.F.plainAttrs_dict PySem.F.slot_dict_values PySem.F.type_dict_values mt_valsN (pv 4)) pa_nil)) pa_nil))))))), ?_⟩
    refine seqN fun N1 hN1 => ?_
    walk_at "rd"
    walk_at "rdx"
    intro p1 hp1
    have ne1 : p1 ≠ d := hd.ne hp1
    have s1 := same_new (o := DicNO P w p1 []) hp1
    have f1 : upd H p1 (DicNO P w p1 []) p1 = some (DicNO P w p1 []) := upd_same
    generalize upd H p1 (DicNO P w p1 []) = H1 at *
    refine hN1 _ _ ?_
    clear hN1
    have g1 := Gr.same hd s1
    refine seqN fun N2 hN2 => ?_
    walk_at "rd"
    walk_at "rdx"
    refine ⟨by omega, by omega, forB walk_range (inv_rows P w K d p p1 k lg ms bs H) ⟨⟨_, _, rfl⟩, g1, [], f1, Nat.le_refl _, List.nodup_nil, fun e h => nomatch h⟩ (fun _ _ _ _ _ => trivial) ?_ ?_⟩
    · rintro i x σ Ha Hb hi ⟨⟨y5, y6, rfl⟩, g, L, hL, ll, nd, ent⟩ ⟨rfl, rfl⟩
      walk_at "rd"
      walk_at "rdx"
      refine ⟨d, p, am, ab, lc, lg, ms, bs, rfl, g.dice, hs.gr g, nk, l0, l3, fun v H5 g5 cv => ?_⟩
      have hL5 := gr_ext g5 hL
      have ent5 : ∀ e ∈ L, KeyAt K H5 e.1 e.2.1 ∧ ∃ (a : Addr) (c : Cv), e.2.2 = .ref a ∧ cvA H5 a c ∧ (cvOk c = true ∧ withinB ms bs (.cv c) = true) ∧ e.1 = cvK c := fun e he => by
        obtain ⟨h1, a, c, h3, h4, h5⟩ := ent e he
        exact ⟨keyAt_gr g5 h1, a, c, h3, cvA.smt (SmT.gr g5) h4, h5⟩
      rcases cv with rfl | ⟨a, c, rfl, k1, k2, k3⟩
      · exact iteN (by simp) ⟨⟨_, _, rfl⟩, g.trans g5, L, hL5, by omega, nd, ent5⟩
      · refine iteP (by simp) ?_
        obtain ⟨l1, r1', j1, j2, j3⟩ := id k1
        refine slT j1 fun p6 H6 s6 hp6 => ?_
        have hp6' : H6 p6 = some (.tup [.str (wK c.kd), .ref l1, .ref r1']) := hp6
        have ka : KeyAt K H6 (cvK c) p6 := ⟨.tup (sqt_of hp6') (.cons (.str _) (.cons (nk_words (s6 _ _ j2)) (.cons (nk_words (s6 _ _ j3)) .nil))), dep_cv⟩
        have hL6 := s6 _ _ hL5
        have gH := (g.trans g5).trans (Gr.same g5.dice s6)
        have ent6 : ∀ e ∈ L, KeyAt K H6 e.1 e.2.1 ∧ ∃ (a : Addr) (c : Cv), e.2.2 = .ref a ∧ cvA H6 a c ∧ (cvOk c = true ∧ withinB ms bs (.cv c) = true) ∧ e.1 = cvK c := fun e he => by
          obtain ⟨h1, a, c, h3, h4, h5⟩ := ent5 e he
          exact ⟨keyAt_same s6 h1, a, c, h3, cvA.same h4 s6, h5⟩
        refine ⟨p1, L, cvK c, p6, rfl, rfl, hL6, fun e he => (ent6 e he).1, ka, _, rfl, ?_⟩
        refine ite2 (fun hn => ?_) (fun hn => ⟨⟨_, _, rfl⟩, gH, L, hL6, by omega, nd, ent6⟩)
        refine slT (s6 _ _ j1) fun p7 H7 s7 hp7 => ?_
        have hp7' : H7 p7 = some (.tup [.str (wK c.kd), .ref l1, .ref r1']) := hp7
        have s67 := s6.trans s7
        have ka : KeyAt K H7 (cvK c) p7 := ⟨.tup (sqt_of hp7') (.cons (.str _) (.cons (nk_words (s67 _ _ j2)) (.cons (nk_words (s67 _ _ j3)) .nil))), dep_cv⟩
        have hL7 := s7 _ _ hL6
        have gH := gH.trans (Gr.same gH.dice s7)
        refine ⟨L, cvK c, p7, rfl, hL7, fun e he => keyAt_same s7 (ent6 e he).1, ka, sz100' (by omega), ⟨_, _, rfl⟩, gH.mut hp1 ne1, _, upd_same, Nat.le_trans (putE_len ..) (by omega), putE_nd nd, fun e he => ?_⟩
        rcases putE_mem he with he | ⟨e1, e2, e3⟩
        · obtain ⟨h1, a', c', h2, h3, h4⟩ := ent6 e he
          exact ⟨keyAt_ext hL7 (keyAt_same s7 h1), a', c', h2, cvA.smt (smt_ext hL7) (cvA.same h3 s7), h4⟩
        · refine ⟨?_, a, c, e2, cvA.smt (smt_ext hL7) (cvA.same k1 s67), ⟨k2, k3⟩, e1⟩
          rw [e1]
          rcases e3 with e3 | ⟨u, e3⟩
          · rw [e3]
            exact keyAt_ext hL7 ka
          · exact keyAt_ext hL7 (keyAt_same s7 (ent6 _ e3).1)
    rintro σ H5 ⟨⟨y5, y6, rfl⟩, g5, L1, hL1, ll1, ent1⟩
    refine hN2 _ _ ?_
    clear hN2
    walk_at "rd"
    walk_at "rdx"
    refine ⟨⟨p1, L1, rfl, hL1⟩, p1, L1, rfl, rfl, hL1, fun p2 hp2 => ?_⟩
    have s6 := same_new (o := valsO p2 p1) hp2
    have f6 : upd H5 p2 (valsO p2 p1) p2 = some (valsO p2 p1) := upd_same
    generalize upd H5 p2 (valsO p2 p1) = H6 at *
    refine ⟨p2, p1, L1, rfl, f6, s6 _ _ hL1, fun p3 hp3 => ?_⟩
    have s7 := same_new (o := .lst (L1.map (·.2.2))) hp3
    have f7 : upd H6 p3 (.lst (L1.map (·.2.2))) p3 = some (.lst (L1.map (·.2.2))) := upd_same
    generalize upd H6 p3 (.lst (L1.map (·.2.2))) = H7 at *
    have s57 := s6.trans s7
    have g7 := g5.trans (Gr.same g5.dice s57)
    have n3 : p3 ≠ d := (Gr.same g5.dice s6).dice.ne hp3
    obtain ⟨M, e1, e2, e3⟩ := ent_pairs (R := fun a c => cvA H7 a c ∧ (cvOk c = true ∧ withinB ms bs (.cv c) = true)) (key := cvK) (L := L1) fun e he => by
      obtain ⟨_, a, c, h3, h4, h5, h6⟩ := ent1.2 e he
      exact ⟨a, c, h3, ⟨cvA.same h4 s57, h5⟩, h6⟩
    rw [e1] at f7
    have lM : M.length = L1.length := by
      have := congrArg List.length e1
      rw [List.length_map, List.length_map] at this
      exact this.symm
    refine ⟨d, .ref p3, _, rfl, g7.dice, .inl ⟨p3, rfl, n3, f7⟩, by rw [List.length_map]; omega, fun a H8 ys g8 ha na h8 pm => ?_⟩
    obtain ⟨M', rfl, pm'⟩ := perm_map_inv pm (l := M) rfl
    refine q a H8 M' (g7.trans g8) na h8 ⟨fun x hx => cvA.smt (SmT.gr g8) (e3 x (pm'.mem_iff.mp hx)).1, fun x hx => (e3 x (pm'.mem_iff.mp hx)).2, ?_⟩ (by rw [pm'.length_eq]; omega)
    refine (pm'.map _).nodup_iff.mpr ?_
    have := ent1.1
    rw [e2] at this
    exact this
end

local macro_rules | `(tactic| walk_at "rdx") => `(tactic| ((try simp only [tFld, gTup, gStar, tJs, tFmt, sFld, tSc_eq, tDNewN, sDPutN, iKeysN, tDGetN, tLockE, tDGet, LiI.tListItems, tMake, tMakeK, tBN0]); try walk_at "rd"))
section
variable {w : World} {K : PySem.W.Frag} {mg : Str → Option Value} {base : Heap}
/-- what the law calls a plain library -/
structure Pn where
  ms : List Str
  bs : List Str
  cv : List Cv
structure PnF (H : Hp) (d p : Addr) (pl : Pn) (am ab lc : Addr) (M : List (Addr × Cv)) : Prop where
  at_ : H p = some (.dK [(keyM, .ref am), (keyB, .ref ab), (keyC, .ref lc)])
  nc : lc ≠ d
  hm : H am = some (.tup (pl.ms.map V.str))
  hb : H ab = some (.tup (pl.bs.map V.str))
  hc : H lc = some (.lst (M.map fun p => V.ref p.1))
  ec : pl.cv = M.map (·.2)
  kc : ∀ p ∈ M, cvA H p.1 p.2
theorem PnF.gr {d p am ab lc : Addr} {H H' : Hp} {pl : Pn} {M : List (Addr × Cv)} (h : PnF H d p pl am ab lc M) (g : Gr d H H') : PnF H' d p pl am ab lc M :=
  ⟨gr_dK g h.at_, h.nc, SmT.gr g _ _ h.hm, SmT.gr g _ _ h.hb, g.keep _ _ h.nc h.hc, h.ec, fun p hp => cvA.smt (SmT.gr g) (h.kc p hp)⟩
theorem PnF.sp {d p am ab lc : Addr} {H : Hp} {pl : Pn} {M : List (Addr × Cv)} (h : PnF H d p pl am ab lc M) : SpF H p pl.ms pl.bs am ab lc := ⟨h.at_, h.hm, h.hb⟩
def PnA (H : Hp) (d p : Addr) (pl : Pn) : Prop := ∃ am ab lc M, PnF H d p pl am ab lc M
theorem PnA.gr {d p : Addr} {H H' : Hp} {pl : Pn} (h : PnA H d p pl) (g : Gr d H H') : PnA H' d p pl := let ⟨am, ab, lc, M, x⟩ := h; ⟨am, ab, lc, M, x.gr g⟩
structure PnOk (pl : Pn) : Prop where
  sd : SdOk pl.ms pl.bs
  o : (ascB pl.ms && ascB pl.bs && apartB pl.ms pl.bs) = true
  lc : pl.cv.length ≤ 16
  cv : ∀ c ∈ pl.cv, cvOk c = true ∧ withinB pl.ms pl.bs (.cv c) = true
  nc : (pl.cv.map cvK).Nodup
  nf : fgn ∉ pl.ms ∧ fgn ∉ pl.bs
theorem PnOk.nm {pl : Pn} (h : PnOk pl) : NmOk pl.ms pl.bs := ⟨h.sd.nm, h.sd.nb, h.sd.lm, h.sd.lb, h.sd.lo⟩
def sp_plain : Sp := fun vs H Q _ => ∃ (d : Addr) (k : Nat) (lg : Int), vs = [.ref d, .int k, .int lg] ∧ Dc H d ∧ k ≤ 16 ∧ 0 ≤ lg ∧ lg ≤ 3 ∧ ∀ a H' pl, Gr d H H' → PnA H' d a pl → PnOk pl → Q (.ref a) H'
theorem to8 {xs : List V} {y : V} (h : y ∈ xs) (lo : Nat) (hx : xs.all (fun v => match v with | .int k => decide ((lo : Int) ≤ k ∧ k ≤ 8) | _ => false) = true) : ∃ k : Nat, y = .int k ∧ lo ≤ k ∧ k ≤ 8 := by
  have := List.all_eq_true.mp hx y h
  match y, this with
  | .int k, this =>
    have := of_decide_eq_true this
    exact ⟨k.toNat, by rw [Int.toNat_of_nonneg (by omega)], by omega, by omega⟩
theorem ok_law_plain (T : Tx K mg) : FnOk P w K mg base CX0 7 T.f__law_plain T.d__law_plain ["_law_feed_here", "_law_many", "_law_longer"] sp_plain := by
  refine T.F__law_plain.ok sc_law_plain (fun vs H Q E h => ?_) (fun cdv A outer s H vs Q E hr h => ?_)
  · obtain ⟨d, k, lg, rfl, _⟩ := h
    rfl
  · obtain ⟨d, k, lg, rfl, hd, k16, l0, l3, q⟩ := h
    refine ⟨_, (pss_cons (ps_par (i := 3) (j := 4) (by rfl) sc_law_plain.nd rfl rfl (by decide) rfl rfl (pa_cons (pe_call (ok_law_pick T) (hr.mono (by decide)) (by rfl) T.g__law_pick T.F__law_pick.kp T.b__law_pick .nil pass0 (pa_cons (pv 0) (pa_cons (pe_lst (pa_cons pe_int (pa_cons pe_int (pa_cons pe_int (pa_cons pe_int (pa_cons pe_int (pa_cons pe_int pa_nil))))))) pa_nil))) (pa_cons (pe_call (ok_law_pick T) (hr.mono (by decide)) (by rfl) T.g__law_pick T.F__law_pick.kp T.b__law_pick .nil pass0 (pa_cons (pv 0) (pa_cons (pe_lst (pa_cons pe_int (pa_cons pe_int (pa_cons pe_int (pa_cons pe_int (pa_cons pe_int pa_nil)))))) pa_nil))) pa_nil)) (by rfl))
      (pss_cons (ps_set (i := 5) sc_law_plain.nd rfl (Or.inl rfl) (pe_call (ok_law_words T) (hr.mono (by decide)) (by rfl) T.g__law_words T.F__law_words.kp T.b__law_words .nil pass0 (pa_cons (pv 0) (pa_cons (pe_op op_add (pv 3) (pv 4)) pa_nil))))
      (pss_cons (ps_set (i := 6) sc_law_plain.nd rfl (Or.inl rfl) (pe_disp (pps_cons pe_str (pe_callTy call_tupL (by rfl) T.n_tuple (by decide +kernel) (pa_cons (pe_callB (cr_sortD (u16 hr.units)) (by rfl) T.n_sorted (by decide +kernel) (pa_cons (pe_slice sl_list (pv 5) po_none (po_some (pv 3))) pa_nil)) pa_nil)) (pps_cons pe_str (pe_callTy call_tupL (by rfl) T.n_tuple (by decide +kernel) (pa_cons (pe_callB (cr_sortD (u16 hr.units)) (by rfl) T.n_sorted (by decide +kernel) (pa_cons (pe_slice sl_list (pv 5) (po_some (pv 3)) po_none) pa_nil)) pa_nil)) (pps_cons pe_str (pe_lst pa_nil) pps_nil))) (by rfl) (by rfl) (fun z => by cases z) (by decide)))
      (pss_cons (ps_asg (pe_call (ok_law_drawn_rows T) (hr.mono (by decide)) (by rfl) T.g__law_drawn_rows T.F__law_drawn_rows.kp T.b__law_drawn_rows .nil pass0 (pa_cons (pv 0) (pa_cons (pv 6) (pa_cons (pv 1) (pa_cons (pv 2) pa_nil))))) (pg_sub (pv 6) pe_str (set_dict (u1 hr.units))))
      (pss_one (ps_ret (pv 6))))))), ?_⟩
    refine seqN fun N1 hN1 => ?_
    walk_at "rd"
    walk_at "rdx"
    refine ⟨by decide, fun p1 hp1 => .inl (pick_new hd hp1 (by simp) (by simp) fun y1 H1 hy1 g1 => ⟨by decide, fun p2 hp2 => .inl (pick_new g1.dice hp2 (by simp) (by simp) fun y2 H2 hy2 g2 => hN1 _ _ ?_)⟩)⟩
    clear hN1
    obtain ⟨m, rfl, _, m8⟩ := to8 hy1 0 rfl
    obtain ⟨n, rfl, n1, n8⟩ := to8 hy2 1 rfl
    have g12 := g1.trans g2
    refine seqN fun N2 hN2 => ?_
    walk_at "rd"
    walk_at "rdx"
    refine ⟨d, m + n, by simp, g2.dice, by omega, fun p0 H3 ws g3 hp0 n0 h0 nm' nd ll => hN2 _ _ ?_⟩
    clear hN2
    have nm : ∀ w ∈ ws, isNm w = true := fun w hw => (nm' w hw).1
    have nf : fgn ∉ sortZ (ws.take m) ∧ fgn ∉ sortZ (ws.drop m) := ⟨fun h => (nm' _ (List.mem_of_mem_take (sortZ_mem.mp h))).2 rfl, fun h => (nm' _ (List.mem_of_mem_drop (sortZ_mem.mp h))).2 rfl⟩
    have g13 := g12.trans g3
    have sd : SdOk (ws.take m) (ws.drop m) := by
      have nd2 : (ws.take m ++ ws.drop m).Nodup := by rw [List.take_append_drop]; exact nd
      exact ⟨fun z hz => nm z (List.mem_of_mem_take hz), fun z hz => nm z (List.mem_of_mem_drop hz), by rw [List.length_take]; omega, by rw [List.length_drop]; omega, by rw [List.length_drop]; omega, (List.take_sublist ..).nodup nd, (List.drop_sublist ..).nodup nd, fun z hz hz2 => (List.nodup_append.mp nd2).2.2 z hz z hz2 rfl⟩
    refine seqN fun N3 hN3 => ?_
    walk_at "rd"
    walk_at "rdx"
    intro p6 hp6
    have s4 := same_new (o := .dK []) hp6
    have f4 : upd H3 p6 (.dK []) p6 = some (.dK []) := upd_same
    generalize upd H3 p6 (.dK []) = H4 at *
    refine ⟨p0, _, rfl, sql_of (s4 _ _ h0), fun q0 hq0 => ?_⟩
    rw [cut_to, ← List.map_take]
    have s5 := same_new (o := .lst ((ws.take m).map V.str)) hq0
    have f5 : upd H4 q0 (.lst ((ws.take m).map V.str)) q0 = some (.lst ((ws.take m).map V.str)) := upd_same
    generalize upd H4 q0 (.lst ((ws.take m).map V.str)) = H5 at *
    refine sortTx f5 fun q1 hq1 => ?_
    have s6 := same_new (o := .lst ((sortZ (ws.take m)).map V.str)) hq1
    have f6 : upd H5 q1 (.lst ((sortZ (ws.take m)).map V.str)) q1 = some (.lst ((sortZ (ws.take m)).map V.str)) := upd_same
    generalize upd H5 q1 (.lst ((sortZ (ws.take m)).map V.str)) = H6 at *
    refine tupL (sql_of f6) fun q2 hq2 => ?_
    have s7 := same_new (o := .tup ((sortZ (ws.take m)).map V.str)) hq2
    have f7 : upd H6 q2 (.tup ((sortZ (ws.take m)).map V.str)) q2 = some (.tup ((sortZ (ws.take m)).map V.str)) := upd_same
    generalize upd H6 q2 (.tup ((sortZ (ws.take m)).map V.str)) = H7 at *
    refine ⟨p0, _, rfl, sql_of ((s4.trans (s5.trans (s6.trans s7))) _ _ h0), fun q3 hq3 => ?_⟩
    rw [cut_from, ← List.map_drop]
    have s8 := same_new (o := .lst ((ws.drop m).map V.str)) hq3
    have f8 : upd H7 q3 (.lst ((ws.drop m).map V.str)) q3 = some (.lst ((ws.drop m).map V.str)) := upd_same
    generalize upd H7 q3 (.lst ((ws.drop m).map V.str)) = H8 at *
    refine sortTx f8 fun q4 hq4 => ?_
    have s9 := same_new (o := .lst ((sortZ (ws.drop m)).map V.str)) hq4
    have f9 : upd H8 q4 (.lst ((sortZ (ws.drop m)).map V.str)) q4 = some (.lst ((sortZ (ws.drop m)).map V.str)) := upd_same
    generalize upd H8 q4 (.lst ((sortZ (ws.drop m)).map V.str)) = H9 at *
    refine tupL (sql_of f9) fun q5 hq5 => ?_
    have sA := same_new (o := .tup ((sortZ (ws.drop m)).map V.str)) hq5
    have fA : upd H9 q5 (.tup ((sortZ (ws.drop m)).map V.str)) q5 = some (.tup ((sortZ (ws.drop m)).map V.str)) := upd_same
    generalize upd H9 q5 (.tup ((sortZ (ws.drop m)).map V.str)) = HA at *
    refine ⟨by decide, fun q6 hq6 => ?_⟩
    have n6 : q6 ≠ d := (Gr.same g13.dice (s4.trans (s5.trans (s6.trans (s7.trans (s8.trans (s9.trans sA))))))).dice.ne hq6
    have sB := same_new (o := .lst []) hq6
    have fB : upd HA q6 (.lst []) q6 = some (.lst []) := upd_same
    generalize upd HA q6 (.lst []) = HB at *
    have s4B := s5.trans (s6.trans (s7.trans (s8.trans (s9.trans (sA.trans sB)))))
    have f4B := s4B _ _ f4
    refine ⟨f4B, [(keyM, .ref q2), (keyB, .ref q5), (keyC, .ref q6)], rfl, by show 3 ≤ 15; decide, hN3 _ _ ?_⟩
    clear hN3
    have em : mergeK [] [(keyM, V.ref q2), (keyB, V.ref q5), (keyC, V.ref q6)] = [(keyM, V.ref q2), (keyB, V.ref q5), (keyC, V.ref q6)] := rfl
    rw [em]
    have np6 : H p6 = none := g13.back hp6
    have nd6 : p6 ≠ d := hd.ne np6
    have gB := g13.trans (Gr.same g13.dice (s4.trans s4B))
    have gC := gB.mut (o := .dK [(keyM, V.ref q2), (keyB, V.ref q5), (keyC, V.ref q6)]) np6 nd6
    have keep : ∀ a o, HB a = some o → (∀ l, o ≠ .dK l) → upd HB p6 (.dK [(keyM, V.ref q2), (keyB, V.ref q5), (keyC, V.ref q6)]) a = some o := fun a o e z => by
      rw [upd_ne fun q => by rw [q, f4B] at e; cases e; exact z _ rfl]
      exact e
    have hsC : SpF (upd HB p6 (.dK [(keyM, V.ref q2), (keyB, V.ref q5), (keyC, V.ref q6)])) p6 (sortZ (ws.take m)) (sortZ (ws.drop m)) q2 q5 q6 := ⟨upd_same, keep _ _ ((s8.trans (s9.trans (sA.trans sB))) _ _ f7) (fun l z => nomatch z), keep _ _ (sB _ _ fA) (fun l z => nomatch z)⟩
    generalize upd HB p6 (.dK [(keyM, V.ref q2), (keyB, V.ref q5), (keyC, V.ref q6)]) = HC at *
    clear keep f4 f5 f6 f7 f8 f9 fA fB f4B s4 s5 s6 s7 s8 s9 sA sB s4B em h0 gB
    have sds := sd.sort
    have sdo := sd.ordS
    generalize sortZ (ws.take m) = ms at *
    generalize sortZ (ws.drop m) = bs at *
    have nk : NmOk ms bs := ⟨sds.nm, sds.nb, sds.lm, sds.lb, sds.lo⟩
    refine seqN fun N4 hN4 => ?_
    walk_at "rd"
    walk_at "rdx"
    refine ⟨d, p6, q2, q5, q6, k, lg, ms, bs, rfl, gC.dice, hsC, nk, k16, l0, l3, fun a HD M gD na ha rw' lM => ?_⟩
    have hsD := hsC.gr gD
    refine ⟨p6, upd HD p6 (.dK [(keyM, .ref q2), (keyB, .ref q5), (keyC, .ref a)]), rfl, DPut.k (k := keyC) hsD.at_ ?_, hN4 _ _ ?_⟩
    · exact sz100 (show 4 ≤ 100000 by decide)
    clear hN4
    have keep : ∀ b o, HD b = some o → (∀ l, o ≠ .dK l) → upd HD p6 (.dK [(keyM, V.ref q2), (keyB, V.ref q5), (keyC, V.ref a)]) b = some o := fun b o e z => by
      rw [upd_ne fun q => by rw [q, hsD.at_] at e; cases e; exact z _ rfl]
      exact e
    have st : SmT HD (upd HD p6 (.dK [(keyM, V.ref q2), (keyB, V.ref q5), (keyC, V.ref a)])) := fun b xs e => keep b _ e fun l z => nomatch z
    walk_at "rd"
    refine q p6 _ ⟨ms, bs, M.map (·.2)⟩ ((gC.trans gD).mut np6 nd6) ⟨q2, q5, a, M, upd_same, na, st _ _ hsD.hm, st _ _ hsD.hb, keep _ _ ha (fun l z => nomatch z), rfl, fun x hx => cvA.smt st (rw'.kr x hx)⟩ ⟨sds, sdo, by show (M.map (·.2)).length ≤ 16; rw [List.length_map]; omega, fun c hc => ?_, ?_, nf⟩
    · obtain ⟨x, hx, rfl⟩ := List.mem_map.mp hc
      exact rw'.ok x hx
    · show ((M.map (·.2)).map cvK).Nodup
      rw [List.map_map]
      exact rw'.nd
end

local macro_rules | `(tactic| walk_at "rdx") => `(tactic| ((try simp only [tFld, gTup, gStar, tJs, tFmt, sFld, tSc_eq, tDNewN, sDPutN, iKeysN, tDGetN, tLockE, tDGet, LiI.tListItems, tMake, tMakeK, tBN0]); try walk_at "rd"))
section
variable {w : World} {K : PySem.W.Frag} {mg : Str → Option Value} {base : Heap}
def libOf (pl : Pn) (cds : List Cd) : Lb := ⟨pl.ms, pl.bs, sortCv pl.cv, sortCd cds⟩
def sp_library (K : PySem.W.Frag) (T : List (Addr × Str)) (CL CC : Addr) : Sp := fun vs H Q _ => ∃ (d p : Addr) (pl : Pn), vs = [.ref p] ∧ PnA H d p pl ∧ PnOk pl ∧ LamX.Tabs T H ∧ ∀ x H', LamX.ExtN H H' → LamX.Tabs T H' → LbA K CL CC H' x (libOf pl []) → Q (.ref x) H'
theorem ok_law_library (T : Tx K mg) (TB_Library___init__ : LamX.TabB base mg T.c_Library___init__ T.P_Library___init__) : FnOk P w K mg base CX0 8 T.f__law_library T.d__law_library ["_law_plain_here"] (sp_library K (tabs T) T.C_Library T.C_Candidate) := by
  refine T.F__law_library.ok sc_law_library (fun vs H Q E h => ?_) (fun cdv A outer s H vs Q E hr h => ?_)
  · obtain ⟨d, p, pl, rfl, _⟩ := h
    rfl
  · obtain ⟨d, p, pl, rfl, ⟨am, ab, lc, M, hf⟩, ok, hT, q⟩ := h
    refine ⟨_, (pss_one (ps_ret (pe_makeK (n := 2) T.mk_Library (ok_Library___init__ T TB_Library___init__) (hr.mono (by decide)) (by rfl) T.m_Library T.kb1_Library___init__ passL (pa_cons (pe_dget (u1 hr.units) (pv 0) pe_str (fun _ _ => rfl)) (pa_cons (pe_dget (u1 hr.units) (pv 0) pe_str (fun _ _ => rfl)) pa_nil)) (pk_cons (pe_callTy call_tupL (by rfl) T.n_tuple (by decide +kernel) (pa_cons (pe_dget (u1 hr.units) (pv 0) pe_str (fun _ _ => rfl)) pa_nil)) pk_nil)))), ?_⟩
    walk_at "rd"
    walk_at "rdx"
    walk_at "rdx"
    refine ⟨.ref am, DGet.k (k := keyM) hf.at_, .ref ab, DGet.k (k := keyB) hf.at_, .ref lc, DGet.k (k := keyC) hf.at_, ?_⟩
    refine tupL (sql_of hf.hc) fun p3 hp3 => ?_
    have s3 := same_new (o := .tup (M.map fun p => V.ref p.1)) hp3
    have f3 : upd H p3 (.tup (M.map fun p => V.ref p.1)) p3 = some (.tup (M.map fun p => V.ref p.1)) := upd_same
    generalize upd H p3 (.tup (M.map fun p => V.ref p.1)) = H3 at *
    have hcv : CvsA K H3 p3 pl.cv := by
      obtain ⟨g1, g2⟩ := of_pairs (R := fun b c => cvA H b c) fun p hp => hf.kc p hp
      rw [hf.ec]
      exact ⟨_, sqt_of f3, g1, fun i c e => let ⟨b, e1, e2⟩ := g2 i c e; ⟨b, e1, cvA.same e2 s3⟩⟩
    have wis : ∀ it ∈ itemsL pl.cv [], withinB pl.ms pl.bs it = true := fun it hit => by
      rcases List.mem_append.mp hit with h | h
      · obtain ⟨c, hc, rfl⟩ := List.mem_map.mp h
        exact (ok.cv c hc).2
      · cases h
    have hcd : CdsA K T.C_Candidate H3 T.e_Library___init___candidates [] := ⟨[], T.q_Library___init___candidates H3, rfl, fun i c e => nomatch e⟩
    exact lib_ok (tabs_same hT s3) (ok.sd.nms (s3 _ _ hf.hm)) (ok.sd.nbs (s3 _ _ hf.hb)) ok.o hcv hcd ok.lc (by decide) (fun c hc => (ok.cv c hc).1) (fun c hc => nomatch hc) ok.nc List.nodup_nil wis fun x H6 e6 t6 lb => q x H6 (fun b o h n => e6 b o (s3 _ _ h) n) t6 lb
end

local macro_rules | `(tactic| walk_at "rdx") => `(tactic| ((try simp only [tFld, gTup, gStar, tJs, tFmt, sFld, tSc_eq]); try walk_at "rd"))
section
variable {w : World} {K : PySem.W.Frag} {mg : Str → Option Value} {base : Heap}
def ovM (m : Option Int) (n : Nat) : Bool := match m with
  | none => false
  | some m => decide (m + 1 < n)
def mV : Option Int → V
  | none => .non
  | some m => .int m
def ovB (l : Lb) (m : Option Int) (xs : List V) : Bool := !xs.isEmpty && (!ovM m xs.length && (inW (xs.getLast?.getD .non) l.bs && xs.dropLast.all fun x => inW x l.ms))
/-- whether v is a type over l -/
inductive OvIs (H : Hp) (l : Lb) (m : Option Int) : V → Bool → Prop
  | oth {v : V} {t : String} (k : Kn H v t) (n : t ≠ "tuple") : OvIs H l m v false
  | tup {a : Addr} {xs : List V} (h : H a = some (.tup xs)) (k : ∀ x ∈ xs, ∃ t, Kn H x t) (z : xs.length ≤ 10000) : OvIs H l m (.ref a) (ovB l m xs)
def sp_is_over (K : PySem.W.Frag) (CL CC : Addr) : Sp := fun vs H Q _ => ∃ (a : Addr) (l : Lb) (v : V) (m : Option Int) (r : Bool), vs = [.ref a, v, mV m] ∧ LbA K CL CC H a l ∧ OvIs H l m v r ∧ ∀ H', Same H H' → Q (.bl r) H'
theorem ok_is_over (T : Tx K mg) : FnOk P w K mg base CX0 1 T.f_is_over T.d_is_over ["library", "value", "most"] (sp_is_over K T.C_Library T.C_Candidate) := by
  refine T.F_is_over.ok sc_is_over (fun vs H Q E h => ?_) (fun cdv A outer s H vs Q E hr h => ?_)
  · obtain ⟨a, l, v, m, r, rfl, _⟩ := h
    rfl
  · obtain ⟨a, l, v, m, r, rfl, hl, k, q⟩ := h
    refine ⟨_, (pss_cons (ps_if (PW.pt (pw_or (pt_not (pt_val (pe_callB call_isi (by rfl) T.n_isinstance (by decide +kernel) (pa_cons (pv 1) (pa_cons (pe_bltn (v := .ty "tuple") (by rfl) T.n_tuple (by decide +kernel) rfl) pa_nil))))) (pw_or (pt_cmpR (op_eqE hr.units) (pv 1) (pe_tup pa_nil) (nomark _)) (pw_or1 (PW.pt (pw_and (pt_cmpR op_notN (pv 2) pe_non (nomark _)) (pw_and1 (pt_cmpR op_gt (pe_callB call_lenQ (by rfl) T.n_len (by decide +kernel) (pa_cons (pv 1) pa_nil)) (pe_op op_add (pv 2) pe_int) (nomark _))))))))) (pss_one (ps_ret pe_bl)) pss_nil)
      (pss_one (ps_ret (pe_and (pe_cmpR (op_inW (u16 hr.units)) (pe_ix ix_tup (pv 1) (pe_un un_neg pe_int) (fun _ _ => rfl)) (pe_fld (pv 0) rfl) (by rfl)) (pe_one (pe_callB (cr_all rfl) (by rfl) T.n_all (by decide +kernel) (pa_cons (pe_lc (own := [("name", 3)]) (g := gName 3) (by rfl) sc_is_over.nd (pi_tup (pe_slice sl_tupA (pv 1) po_none (po_some (pe_un un_neg pe_int)))) (blkOk_by (own := [("name", 3)]) (N := ["library", "value", "most", "name"]) (sc := defScope s_is_over) (by decide +kernel)) (fun _ _ _ _ _ => (pg_name (i := 3) sc_is_over.nd rfl (Or.inl rfl))) (fun _ _ _ _ _ => pts_nil) (fun _ _ _ _ _ => (pe_cmpR ((op_inW (u16 hr.units)) : OpR _ _ (rInW K)) (pv 3) (pe_fld (pv 0) rfl : PE _ _ (tFld K _ _)) (by rfl)))) pa_nil))))))), ?_⟩
    refine seqN fun N1 hN1 => ?_
    walk_at "rd"
    cases k with
    | oth k n =>
      refine isi_kn k (kit_ntup k n) ?_
      walk_at "rd"
      exact q _ (Same.refl _)
    | @tup x xs h k z =>
      walk_at "isi"
      walk_at "rd"
      refine ⟨by decide, fun p1 hp1 => ?_⟩
      have s1 := same_new (o := .tup []) hp1
      have f1 : upd H p1 (.tup []) p1 = some (.tup []) := upd_same
      generalize upd H p1 (.tup []) = H1 at *
      refine ⟨x, p1, xs, rfl, rfl, sqt_of (s1 _ _ h), sqt_of f1, _, rfl, ?_⟩
      have q1 : ∀ (b : Bool) H', ovB l m xs = b → Same H1 H' → Q (V.bl b) H' := fun b H' e s => e ▸ q H' (s1.trans s)
      by_cases e0 : xs = []
      · subst e0
        exact iteP rfl (q1 _ _ rfl (Same.refl _))
      have ne : xs.isEmpty = false := by
        cases xs with
        | nil => exact absurd rfl e0
        | cons => rfl
      rw [ne]
      refine iteN (by simp) ?_
      unfold ovB at q1
      rw [ne] at q1
      suffices hs : ovM m xs.length = false → N1 [some (V.ref a), some (V.ref x), some (mV m), none] H1 by
        cases m with
        | none => exact iteN (by simp [mV]) (hs rfl)
        | some m =>
          refine iteP (by simp [mV]) (lenT (sqt_of (s1 _ _ h)) ?_)
          refine ⟨m, rfl, _, rfl, ?_⟩
          exact ite2 (fun e1 => q1 _ _ (by rw [show ovM (some m) xs.length = true from e1]; rfl) (Same.refl _)) (fun e1 => hs (by simpa [ovM] using e1))
      intro e1'
      rw [e1'] at q1
      refine hN1 _ _ ?_
      clear hN1
      walk_at "rd"
      obtain ⟨y, hy⟩ : ∃ y, xs.getLast? = some y := ⟨_, List.getLast?_eq_some_getLast e0⟩
      rw [hy] at q1
      obtain ⟨ty, ky⟩ := k y (List.mem_of_getLast? hy)
      obtain ⟨dx, am, ab, ac, ad, fs, hf⟩ := hl.same s1
      refine ⟨x, xs, -1, y, rfl, rfl, sqt_of (s1 _ _ h), by rw [at_last (by simpa using e0), hy], ?_⟩
      walk_at "rdx"
      refine ⟨_, _, _, hf.at_, T.cl_Library, T.no_Library_own_bases, _, hf.f2, ab, l.bs, ty, rfl, sqt_of hf.hb, ky.same s1, _, rfl, ite2 (fun e2 => ?_) (fun e2 => ?_)⟩
      · have q2 : ∀ (b : Bool) H', (xs.dropLast.all fun x => inW x l.ms) = b → Same H1 H' → Q (V.bl b) H' := fun b H' e s => q1 b H' (by rw [e]; simp [e2]) s
        refine slT (s1 _ _ h) fun p2 H2 s2 hp2 => ⟨p2, rfl, ⟨_, sqt_of hp2⟩, ?_⟩
        rw [cut_last] at hp2
        refine lc_same walk_tup (fun i => .bl ((xs.dropLast[i]?.map fun x => inW x l.ms).getD false)) (sz100 (by rw [List.length_dropLast]; omega)) (fun H' s => sqt_of (s _ _ hp2)) ?_ mono_name mono_yes ?_
        · rintro i x' H3 H4 hi hS ⟨rfl, hx⟩ R hR
          rw [hx] at hR
          walk_at "rdx"
          walk_at "rdx"
          have hs := hf.same (s2.trans hS)
          obtain ⟨tx, kx⟩ := k x' (List.dropLast_subset _ (List.mem_of_getElem? hx))
          exact ⟨_, _, _, hs.at_, T.cl_Library, T.no_Library_own_marks, _, hs.f1, am, l.ms, tx, rfl, sqt_of hs.hm, (kx.same s1).same (s2.trans hS), hR _ (Same.refl _)⟩
        · intro H3 D3 s3 hD3 hL3
          have e3 : ((List.range xs.dropLast.length).map fun i => V.bl ((xs.dropLast[i]?.map fun x => inW x l.ms).getD false)) = (xs.dropLast.map fun x => inW x l.ms).map V.bl := by
            rw [← range_opt (fun x => inW x l.ms) false xs.dropLast, List.map_map]
            rfl
          rw [e3] at hL3
          refine ⟨D3, _, rfl, .inl (.inl hL3), ?_⟩
          rw [List.all_map]
          exact q2 _ _ rfl (s2.trans s3)
      · have e2' : inW y l.bs = false := by simpa using e2
        exact q1 _ _ (by show (true && (true && (inW y l.bs && _))) = false; rw [e2']; rfl) (Same.refl _)
end

local macro_rules | `(tactic| walk_at "rdx") => `(tactic| ((try simp only [tFld, gTup, gStar, tJs, tFmt, sFld, tSc_eq, StX.tStar]); try walk_at "rd"))
section
variable {w : World} {K : PySem.W.Frag} {mg : Str → Option Value} {base : Heap}
theorem tyLb (T : Tx K mg) {H : Hp} {a dx : Addr} {fs : List (Str × V)} (h : H a = some (.ins T.C_Library dx fs)) : TyX K H (.ref a) (.ref T.C_Library) := .base (.ins h T.cl_Library T.ha_Library T.hn_Library T.ht_Library T.ob_Library)
def NoLib (K : PySem.W.Frag) (CL : Addr) (H : Hp) (v : V) : Prop := ∃ t, TyX K H v t ∧ PySem.W.kitOne K t (.ref CL) = some false
def spx_require_library (K : PySem.W.Frag) (CI CL CC : Addr) : Sp := fun vs H Q E => ∃ v, vs = [v] ∧ ((NoLib K CL H v ∧ ∀ H', Same H H' → E (.ref CI) none H') ∨ ((∃ a l, v = .ref a ∧ LbA K CL CC H a l) ∧ Q .non H))
theorem ok_require_library (T : Tx K mg) : FnOk P w K mg base (L2.CX P w) 1 T.f_require_library T.d_require_library ["value"] (spx_require_library K T.C_InvalidLibrary T.C_Library T.C_Candidate) := by
  refine T.F_require_library.okX sc_require_library (fun vs H Q E h => ?_) (fun cdv A outer s H vs Q E hr h => ?_)
  · obtain ⟨v, rfl, _⟩ := h
    rfl
  · obtain ⟨v, rfl, h⟩ := h
    refine ⟨_, (pss_one (ps_if (pt_not (pt_val (pe_callB call_isi (by rfl) T.n_isinstance (by decide +kernel) (pa_cons (pv 0) (pa_cons (pe_glob (v := .ref T.C_Library) (by rfl) T.m_Library rfl) pa_nil))))) (pss_one (ps_raise rfl (takes_of rfl rfl rfl rfl) (pmk_own PySem.F.excBase_ValueError T.x_InvalidLibrary.ex T.x_InvalidLibrary.g T.x_InvalidLibrary.kp (raises_own T.x_InvalidLibrary.sb T.x_InvalidLibrary.ty) (by rfl)))) pss_nil)), ?_⟩
    walk_at "rd"
    rcases h with ⟨⟨t, ty, kt⟩, q0⟩ | ⟨⟨a, l, rfl, dx, am, ab, ac, ad, fs, hf⟩, q⟩
    · refine ⟨_, _, _, _, false, rfl, .own _, ty, kt, ?_⟩
      walk_at "rd"
      exact q0 H (Same.refl _)
    · exact ⟨_, _, _, _, true, rfl, .own _, tyLb T hf.at_, kit_same, ⟨_, rfl, iteF q⟩⟩
def sp_conversions (K : PySem.W.Frag) (CL CC : Addr) : Sp := fun vs H Q _ => ∃ (a : Addr) (l : Lb), vs = [.ref a] ∧ LbA K CL CC H a l ∧ ∀ ac, CvsA K H ac l.cv → Q (.ref ac) H
/-- whether names begin with a front -/
def beginsB (ws us : List Str) : Bool := decide (us.length < ws.length ∧ ws.take us.length = us)
def sp_begins : Sp := fun vs H Q _ => ∃ (a b : Addr) (ws us : List Str), vs = [.ref a, .ref b] ∧ H a = some (.tup (ws.map V.str)) ∧ H b = some (.tup (us.map V.str)) ∧ (∀ z ∈ ws, Pl z) ∧ (∀ z ∈ us, Pl z) ∧ ∀ H', Same H H' → Q (.bl (beginsB ws us)) H'
theorem ok_begins_in (T : Tx K mg) : FnOk P w K mg base CX0 1 T.f_begins_in T.d_begins_in ["names", "front"] sp_begins := by
  refine T.F_begins_in.ok sc_begins_in (fun vs H Q E h => ?_) (fun cdv A outer s H vs Q E hr h => ?_)
  · obtain ⟨a, b, ws, us, rfl, _⟩ := h
    rfl
  · obtain ⟨a, b, ws, us, rfl, ha, hb, pw, pu, q⟩ := h
    refine ⟨_, (pss_one (ps_ret (pe_and (pe_cmpR op_gt (pe_callB call_lenQ (by rfl) T.n_len (by decide +kernel) (pa_cons (pv 0) pa_nil)) (pe_callB call_lenQ (by rfl) T.n_len (by decide +kernel) (pa_cons (pv 1) pa_nil)) (nomark _)) (pe_one (pe_cmpR (op_eqD hr.units) (pe_slice sl_tupA (pv 0) po_none (po_some (pe_callB call_lenQ (by rfl) T.n_len (by decide +kernel) (pa_cons (pv 1) pa_nil)))) (pv 1) (nomark _)))))), ?_⟩
    walk_at "rd"
    refine lenT (sqt_of ha) (lenT (sqt_of hb) ?_)
    refine ⟨_, rfl, _, rfl, ite2 (fun e => ?_) (fun e => ?_)⟩
    · have e : us.length < ws.length := by
        have := of_decide_eq_true e
        rw [List.length_map, List.length_map] at this
        omega
      refine lenT (sqt_of hb) ⟨_, rfl, slT ha fun p H1 s1 hp => ?_⟩
      rw [cut_to, List.length_map, ← List.map_take] at hp
      refine eqT (sqt_of hp) (sqt_of (s1 _ _ hb)) (fun z hz => pw z (List.mem_of_mem_take hz)) pu ?_
      have := q H1 s1
      rw [show beginsB ws us = decide (ws.take us.length = us) by unfold beginsB; simp [e]] at this
      exact this
    · have e : ¬ us.length < ws.length := fun h => by
        have e : decide (((us.map V.str).length : Int) < ((ws.map V.str).length : Int)) = false := by simpa using e
        have := of_decide_eq_false e
        rw [List.length_map, List.length_map] at this
        omega
      have := q H (Same.refl _)
      rw [show beginsB ws us = false by unfold beginsB; simp [e]] at this
      exact this
theorem cv_names {c : Cv} (h : cvOk c = true) : (∀ w ∈ c.lf, isNm w = true) ∧ (∀ w ∈ c.rt, isNm w = true) ∧ c.lf.length ≤ 5 ∧ c.rt.length ≤ 5 ∧ (c.kd ≠ .drop → c.lf ≠ c.rt) ∧ 1 ≤ c.rk ∧ c.rk ≤ 9 := by
  unfold cvOk at h
  simp only [Bool.and_eq_true, decide_eq_true_eq] at h
  obtain ⟨⟨k1, k2⟩, h⟩ := h
  obtain ⟨kd, lf, rt, rk⟩ := c
  cases kd with
  | closed =>
    have h : (true && namesV (lf.map V.str) 1 5 && (true && namesV (rt.map V.str) 1 5 && !decide (lf.map V.str = rt.map V.str))) = true := h
    rw [strs_eq] at h
    simp only [Bool.and_eq_true, Bool.true_and, Bool.not_eq_true', decide_eq_false_iff_not] at h
    obtain ⟨a1, a2, a3⟩ := names_of h.1
    obtain ⟨b1, b2, b3⟩ := names_of h.2.1
    exact ⟨a1, b1, (show lf.length ≤ 5 by omega), (show rt.length ≤ 5 by omega), fun _ => h.2.2, k1, k2⟩
  | open_ =>
    have h : (true && namesV (lf.map V.str) 0 2 && (true && namesV (rt.map V.str) 0 3 && !decide (lf.map V.str = rt.map V.str))) = true := h
    rw [strs_eq] at h
    simp only [Bool.and_eq_true, Bool.true_and, Bool.not_eq_true', decide_eq_false_iff_not] at h
    obtain ⟨a1, a2, a3⟩ := names_of h.1
    obtain ⟨b1, b2, b3⟩ := names_of h.2.1
    exact ⟨a1, b1, (show lf.length ≤ 5 by omega), (show rt.length ≤ 5 by omega), fun _ => h.2.2, k1, k2⟩
  | drop =>
    have h : (true && namesV (lf.map V.str) 0 2 && (true && namesV (rt.map V.str) 1 5)) = true := h
    simp only [Bool.and_eq_true, Bool.true_and] at h
    obtain ⟨a1, a2, a3⟩ := names_of h.1
    obtain ⟨b1, b2, b3⟩ := names_of h.2
    exact ⟨a1, b1, (show lf.length ≤ 5 by omega), (show rt.length ≤ 5 by omega), fun e => absurd rfl e, k1, k2⟩
/-- what names become by a conversion -/
def stepC (c : Cv) (g : List Str) : Option (List Str) := match c.kd with
  | .closed => if g = c.lf then some c.rt else none
  | .open_ => if beginsB g c.lf = true then some (c.rt ++ g.drop c.lf.length) else none
  | .drop => if beginsB g c.lf = true then (if g = c.rt then none else some c.rt) else none
def OptT (H : Hp) : Option (List Str) → V → Prop
  | none, v => v = .non
  | some ws, v => ∃ a, v = .ref a ∧ H a = some (.tup (ws.map V.str))
def sp_step_in : Sp := fun vs H Q _ => ∃ (a b : Addr) (c : Cv) (g : List Str), vs = [.ref a, .ref b] ∧ cvA H a c ∧ cvOk c = true ∧ H b = some (.tup (g.map V.str)) ∧ (∀ z ∈ g, isNm z = true) ∧ g.length ≤ 10000 ∧ ∀ v H', Same H H' → OptT H' (stepC c g) v → Q v H'
theorem ok_step_in (T : Tx K mg) : FnOk P w K mg base CX0 2 T.f_step_in T.d_step_in ["conversion", "given"] sp_step_in := by
  refine T.F_step_in.ok sc_step_in (fun vs H Q E h => ?_) (fun cdv A outer s H vs Q E hr h => ?_)
  · obtain ⟨a, b, c, g, rfl, _⟩ := h
    rfl
  · obtain ⟨a, b, c, g, rfl, ⟨l1, r1, j1, j2, j3⟩, ok, hb, nm, lg, q⟩ := h
    refine ⟨_, (pss_cons (ps_asg (pv 0) (pg_tup (n := 4) rfl (pgs_cons (pg_name (i := 2) sc_step_in.nd rfl (Or.inl rfl)) (pgs_cons (pg_name (i := 3) sc_step_in.nd rfl (Or.inl rfl)) (pgs_cons (pg_name (i := 4) sc_step_in.nd rfl (Or.inl rfl)) (pgs_cons (pg_name (i := 5) sc_step_in.nd rfl (Or.inl rfl)) pgs_nil))))))
      (pss_cons (ps_if (pt_cmpR op_eq (pv 2) pe_str (nomark _)) (pss_one (ps_ret (pe_ifExp (pt_cmpR (op_eqD hr.units) (pv 1) (pv 3) (nomark _)) (pv 4) pe_non))) pss_nil)
      (pss_cons (ps_if (pt_not (pt_val (pe_call (ok_begins_in T) (hr.mono (by decide)) (by rfl) T.g_begins_in T.F_begins_in.kp T.b_begins_in .nil pass0 (pa_cons (pv 1) (pa_cons (pv 3) pa_nil))))) (pss_one (ps_ret pe_non)) pss_nil)
      (pss_cons (ps_if (pt_cmpR op_eq (pv 2) pe_str (nomark _)) (pss_one (ps_ret (pe_tup (StX.pa_star (pv 4) (StX.pa_star (pe_slice sl_tupA (pv 1) (po_some (pe_callB call_lenQ (by rfl) T.n_len (by decide +kernel) (pa_cons (pv 3) pa_nil))) po_none) pa_nil))))) pss_nil)
      (pss_one (ps_ret (pe_ifExp (pt_cmpR (op_neD hr.units) (pv 1) (pv 4) (nomark _)) (pv 4) pe_non))))))), ?_⟩
    refine seqN fun N1 hN1 => ?_
    walk_at "rd"
    walk_at "rdx"
    refine ⟨_, sqt_of j1, rfl, _, _, rfl, _, _, rfl, _, _, rfl, _, _, rfl, rfl, hN1 _ _ ?_⟩
    clear hN1
    obtain ⟨kd, lf, rt, rk⟩ := c
    obtain ⟨n1, n2, z1, z2, _⟩ := cv_names ok
    have j2 : H l1 = some (.tup (lf.map V.str)) := j2
    have j3 : H r1 = some (.tup (rt.map V.str)) := j3
    have n1 : ∀ w ∈ lf, isNm w = true := n1
    have n2 : ∀ w ∈ rt, isNm w = true := n2
    have p1 : ∀ w ∈ lf, Pl w := fun w hw => pl_of (n1 w hw)
    have p2 : ∀ w ∈ rt, Pl w := fun w hw => pl_of (n2 w hw)
    have pg : ∀ w ∈ g, Pl w := fun w hw => pl_of (nm w hw)
    refine seqN fun N2 hN2 => ?_
    walk_at "rd"
    walk_at "rdx"
    cases kd with
    | closed =>
      refine ⟨rfl, iteP (by decide) (eqT (sqt_of hb) (sqt_of j2) pg p1 ⟨_, rfl, ?_⟩)⟩
      have hq : ∀ v, OptT H (if g = lf then some rt else none) v → Q v H := fun v h => q v H (Same.refl _) h
      refine ite2 (fun e => hq _ ?_) (fun e => hq _ ?_)
      · rw [if_pos (of_decide_eq_true e)]
        exact ⟨r1, rfl, j3⟩
      · rw [if_neg (by simpa using e)]
        rfl
    | open_ =>
      refine ⟨rfl, iteN (by decide) (hN2 _ _ ?_)⟩
      clear hN2
      walk_at "rd"
      walk_at "rdx"
      refine ⟨b, l1, g, lf, rfl, hb, j2, pg, p1, fun H1 s1 => ⟨_, rfl, ?_⟩⟩
      have hq : ∀ v H', Same H H' → OptT H' (if beginsB g lf = true then some (rt ++ g.drop lf.length) else none) v → Q v H' := q
      cases e : beginsB g lf with
      | false => exact iteP rfl (hq _ _ s1 (by rw [e]; exact (rfl : V.non = V.non)))
      | true =>
        rw [if_pos e] at hq
        refine iteN (by simp) ⟨rfl, iteP (by decide) ⟨_, .inl (sqt_of (s1 _ _ j3)), lenT (sqt_of (s1 _ _ j2)) ⟨_, rfl, slT (s1 _ _ hb) fun p2 H2 s2 hp2 => ⟨p2, rfl, _, .inl (sqt_of hp2), ?_, fun p3 hp3 => ?_⟩⟩⟩⟩
        · rw [cut_from, List.length_append, List.length_drop, List.length_map, List.length_map]
          exact sz100 (by omega)
        · rw [cut_from, List.length_map, ← List.map_drop, ← List.map_append]
          exact hq _ _ (s1.trans (s2.trans (same_new hp3))) ⟨p3, rfl, upd_same⟩
    | drop =>
      refine ⟨rfl, iteN (by decide) (hN2 _ _ ?_)⟩
      clear hN2
      walk_at "rd"
      walk_at "rdx"
      refine ⟨b, l1, g, lf, rfl, hb, j2, pg, p1, fun H1 s1 => ⟨_, rfl, ?_⟩⟩
      have hq : ∀ v H', Same H H' → OptT H' (if beginsB g lf = true then (if g = rt then none else some rt) else none) v → Q v H' := q
      cases e : beginsB g lf with
      | false => exact iteP rfl (hq _ _ s1 (by rw [e]; exact (rfl : V.non = V.non)))
      | true =>
        rw [if_pos e] at hq
        refine iteN (by simp) ⟨rfl, iteN (by decide) (neT (sqt_of (s1 _ _ hb)) (sqt_of (s1 _ _ j3)) pg p2 ⟨_, rfl, ?_⟩)⟩
        refine ite2 (fun e => hq _ _ s1 ?_) (fun e => hq _ _ s1 ?_)
        · rw [if_neg (by simpa using e)]
          exact ⟨r1, rfl, s1 _ _ j3⟩
        · rw [if_pos (by simpa using e)]
          exact (rfl : V.non = V.non)
end

local macro_rules | `(tactic| walk_at "rdx") => `(tactic| ((try simp only [tFld, gTup, gStar, tJs, tFmt, sFld, tSc_eq, StX.tStar, tPlain, tGThen, tG0, tGYield]); try walk_at "rd"))
section
variable {w : World} {K : PySem.W.Frag} {mg : Str → Option Value} {base : Heap}
def spx_require_type (K : PySem.W.Frag) (CW CL CC : Addr) : Sp := fun vs H Q E => ∃ (a : Addr) (l : Lb) (v : V) (r : Bool), vs = [.ref a, v] ∧ LbA K CL CC H a l ∧ OvIs H l (some 400) v r ∧ (r = false → ∀ H', Same H H' → E (.ref CW) none H') ∧ (r = true → ∀ H', Same H H' → Q .non H')
theorem ok_require_type (T : Tx K mg) : FnOk P w K mg base (L2.CX P w) 2 T.f_require_type T.d_require_type ["library", "names"] (spx_require_type K T.C_InvalidWord T.C_Library T.C_Candidate) := by
  refine T.F_require_type.okX sc_require_type (fun vs H Q E h => ?_) (fun cdv A outer s H vs Q E hr h => ?_)
  · obtain ⟨a, l, v, r, rfl, _⟩ := h
    rfl
  · obtain ⟨a, l, v, r, rfl, hl, k, q0, q1⟩ := h
    refine ⟨_, (pss_one (ps_if (pt_not (pt_val (pe_call (ok_is_over T) (hr.mono (by decide)) (by rfl) T.g_is_over T.F_is_over.kp T.b_is_over .nil pass0 (pa_cons (pv 0) (pa_cons (pv 1) (pa_cons (pe_glob (v := .int (400)) (by rfl) T.m_MAX_DEPTH ⟨_, rfl⟩) pa_nil)))))) (pss_one (ps_raise rfl (takes_of rfl rfl rfl rfl) (pmk_own PySem.F.excBase_ValueError T.x_InvalidWord.ex T.x_InvalidWord.g T.x_InvalidWord.kp (raises_own T.x_InvalidWord.sb T.x_InvalidWord.ty) (by rfl)))) pss_nil)), ?_⟩
    walk_at "rd"
    refine ⟨a, l, v, some 400, r, rfl, hl, k, fun H1 s1 => ⟨_, rfl, ?_⟩⟩
    cases r with
    | true => exact iteN (by simp) (q1 rfl H1 s1)
    | false => exact iteP rfl (q0 rfl H1 s1)
theorem sqt_sm {H H' : Hp} {a : Addr} {xs : List V} (h : SqT K H a xs) (s : Same H H') : SqT K H' a xs := by
  rcases h with (h | ⟨u, h⟩) | h
  · exact .inl (.inl (s _ _ h))
  · exact .inl (.inr ⟨u, s _ _ h⟩)
  · exact .inr h
/-- what the conversions make of names: the index, the names -/
def pairsC (cvs : List Cv) (g : List Str) : List (Nat × List Str) := (List.range cvs.length).filterMap fun i => (cvs[i]?.bind fun c => stepC c g).map fun ws => (i, ws)
def PairsA (H : Hp) (ps : List (Nat × List Str)) (out : List V) : Prop := out.length = ps.length ∧ ∀ (i : Nat) p, ps[i]? = some p → ∃ q a, out[i]? = some (.ref q) ∧ H q = some (.tup [.int (p.1 : Nat), .ref a]) ∧ H a = some (.tup (p.2.map V.str))
theorem PairsA.same {H H' : Hp} {ps : List (Nat × List Str)} {out : List V} (h : PairsA H ps out) (s : Same H H') : PairsA H' ps out := ⟨h.1, fun i p e => let ⟨q, a, h1, h2, h3⟩ := h.2 i p e; ⟨q, a, h1, s _ _ h2, s _ _ h3⟩⟩
theorem PairsA.snoc {H : Hp} {ps : List (Nat × List Str)} {out : List V} {q a : Addr} {i : Nat} {ws : List Str} (h : PairsA H ps out) (h1 : H q = some (.tup [.int (i : Nat), .ref a])) (h2 : H a = some (.tup (ws.map V.str))) : PairsA H (ps ++ [(i, ws)]) (out ++ [.ref q]) := by
  refine ⟨by rw [List.length_append, List.length_append, h.1]; rfl, fun j p e => ?_⟩
  by_cases hj : j < ps.length
  · rw [List.getElem?_append_left hj] at e
    rw [List.getElem?_append_left (by rw [h.1]; exact hj)]
    exact h.2 j p e
  · rw [List.getElem?_append_right (by omega)] at e
    rw [List.getElem?_append_right (by rw [h.1]; omega), h.1]
    have e0 : j - ps.length = 0 := by
      have := (List.getElem?_eq_some_iff.mp e).1
      simp at this
      omega
    rw [e0] at e ⊢
    cases e
    exact ⟨q, a, rfl, h1, h2⟩
def pairsTo (cvs : List Cv) (g : List Str) (n : Nat) : List (Nat × List Str) := (List.range n).filterMap fun i => (cvs[i]?.bind fun c => stepC c g).map fun ws => (i, ws)
theorem pairsTo_succ (cvs : List Cv) (g : List Str) (n : Nat) : pairsTo cvs g (n + 1) = pairsTo cvs g n ++ ((cvs[n]?.bind fun c => stepC c g).map fun ws => (n, ws)).toList := by
  unfold pairsTo
  rw [List.range_succ, List.filterMap_append, List.filterMap_cons, List.filterMap_nil]
  cases (cvs[n]?.bind fun c => stepC c g) <;> rfl
theorem pairsTo_len (cvs : List Cv) (g : List Str) (n : Nat) : (pairsTo cvs g n).length ≤ n := by
  unfold pairsTo
  have := List.length_filterMap_le (fun i => (cvs[i]?.bind fun c => stepC c g).map fun ws => (i, ws)) (List.range n)
  rw [List.length_range] at this
  exact this
def spg_steps (K : PySem.W.Frag) (CI CW CL CC : Addr) : SpG := fun vs H cont E => ∃ v u, vs = [v, u] ∧ ((NoLib K CL H v ∧ ∀ H', Same H H' → E (.ref CI) none H') ∨ ∃ a l, v = .ref a ∧ LbA K CL CC H a l ∧
  ((OvIs H l (some 400) u false ∧ ∀ H', Same H H' → E (.ref CW) none H') ∨ ∃ b g, u = .ref b ∧ H b = some (.tup (g.map V.str)) ∧ OvIs H l (some 400) u true ∧ (∀ z ∈ g, isNm z = true) ∧ g.length ≤ 10000 ∧ l.cv.length ≤ 16 ∧ (∀ c ∈ l.cv, cvOk c = true) ∧
    ∀ out H', Same H H' → PairsA H' (pairsC l.cv g) out → cont out H'))
def inv_steps (a b t : Addr) (l : Lb) (g : List Str) (H : Hp) : Nat → List V → L2.St → Hp → Prop := fun i out σ H' => (∃ x2 x3 x4 : Option V, σ = [some (.ref a), some (.ref b), x2, x3, x4]) ∧ Same H H' ∧ PairsA H' (pairsTo l.cv g i) out
theorem ok_steps (T : Tx K mg) : GFn P w K mg base 4 T.f_steps T.d_steps ["library", "given"] (spg_steps K T.C_InvalidLibrary T.C_InvalidWord T.C_Library T.C_Candidate) := by
  refine fun_okGen T.F_steps sc_steps (fun vs H Q E h => ?_) (fun cdv A outer s H vs Q E pn hr h => ?_)
  · obtain ⟨v, u, rfl, _⟩ := h
    rfl
  · obtain ⟨v, u, rfl, h⟩ := h
    refine ⟨_, gss_cons (gs_ps (ps_expr (pe_call (ok_require_library T) (hr.mono (by decide)) (by rfl) T.g_require_library T.F_require_library.kp T.b_require_library .nil (passes_call takes_gcx (fun _ _ _ _ h => h)) (pa_cons (pv 0) pa_nil))))
      (gss_cons (gs_ps (ps_expr (pe_call (ok_require_type T) (hr.mono (by decide)) (by rfl) T.g_require_type T.F_require_type.kp T.b_require_type .nil (passes_call takes_gcx (fun _ _ _ _ h => h)) (pa_cons (pv 0) (pa_cons (pv 1) pa_nil)))))
      (gss_cons (gs_for owns_gcx rfl (pi_enumA (by rfl) T.n_enumerate (pa_cons (pe_fld (pv 0) rfl) pa_nil)) (pg_tup (n := 2) rfl (pgs_cons (pg_name (i := 2) sc_steps.nd rfl (Or.inl rfl)) (pgs_cons (pg_name (i := 3) sc_steps.nd rfl (Or.inl rfl)) pgs_nil)))
        (gss_cons (gs_ifW (ptw_cmp op_notN (pew_named (i := 4) sc_steps.nd rfl (Or.inl rfl) (pew_of (pe_call (ok_step_in T) (hr.mono (by decide)) (by rfl) T.g_step_in T.F_step_in.kp T.b_step_in .nil pass0 (pa_cons (pv 3) (pa_cons (pv 1) pa_nil))))) pe_non (nomark _))
          (gss_cons (gs_yield (pe_tup (pa_cons (pv 2) (pa_cons (pv 4) pa_nil)))) gss_nil) gss_nil) gss_nil)) gss_nil)), ?_⟩
    walk_at "rdx"
    rcases h with ⟨nl, q0⟩ | ⟨a, l, rfl, hl, h⟩
    · exact ⟨v, rfl, .inl ⟨nl, q0⟩⟩
    refine ⟨_, rfl, .inr ⟨⟨a, l, rfl, hl⟩, ?_⟩⟩
    refine ⟨_, rfl, _, rfl, ?_⟩
    rcases h with ⟨ov, q0⟩ | ⟨b, g, rfl, hb, ov, nm, lg, l16, ok, q⟩
    · exact ⟨a, l, u, false, rfl, hl, ov, fun _ => q0, fun e => nomatch e⟩
    refine ⟨a, l, _, true, rfl, hl, ov, (fun e => nomatch e), fun _ H1 s1 => ?_⟩
    obtain ⟨dx, am, ab, ac, ad, fs, hf⟩ := hl
    obtain ⟨xs, hx, lx, fx⟩ := hf.hc
    simp only [GEnds.at, tGFor_eq, iEnumA]
    walk_at "rd"
    walk_at "rdx"
    refine ⟨_, _, _, s1 _ _ hf.at_, T.cl_Library, T.no_Library_own_conversions, _, hf.f3, ac, rfl, xs, .inr ⟨sqt_sm hx s1, gforB (walk_enumT (K := K) (t := ac) (xs := xs)) (inv_steps a b ac l g H) ⟨⟨_, _, _, rfl⟩, s1, rfl, fun i p e => nomatch e⟩ ?_ ?_ ?_⟩⟩
    · rintro i ys σ H2 hi ⟨⟨x2, x3, x4, rfl⟩, s2, pa⟩
      exact sqt_sm hx s2
    · rintro i x ys σ Ha Hb hi ⟨⟨x2, x3, x4, rfl⟩, sa, pa⟩ ⟨T', x', y', rfl, hT', rfl, hx', hy⟩
      have hx' : some (V.int (i : Nat)) = some x' := hx'
      cases hx'
      obtain ⟨c, hc⟩ : ∃ c, l.cv[i]? = some c := ⟨_, List.getElem?_eq_getElem (by rw [← lx]; exact hi)⟩
      obtain ⟨b', eb, hcv⟩ := fx i c hc
      have hy : xs[i]? = some y' := hy
      rw [eb] at hy
      cases hy
      have sT := same_new (o := .tup [V.int (i : Nat), V.ref b']) hT'
      have fT : upd Ha T' (.tup [V.int (i : Nat), V.ref b']) T' = some (.tup [V.int (i : Nat), V.ref b']) := upd_same
      generalize upd Ha T' (.tup [V.int (i : Nat), V.ref b']) = Hc at *
      have s0 := sa.trans sT
      simp only [gTup, tGThen, tGIfW, wCmp, wNm, wE, tGYield, tG0]
      walk_at "rd"
      walk_at "rdx"
      refine ⟨_, sqt_of fT, rfl, _, _, rfl, _, _, rfl, rfl, b', b, c, g, rfl, cvA.same hcv s0, ok c (List.mem_of_getElem? hc), s0 _ _ hb, nm, lg, fun v H' sv ov' => ?_⟩
      have hs := s0.trans sv
      have pa' : PairsA H' (pairsTo l.cv g i) ys := pa.same (sT.trans sv)
      have es := pairsTo_succ l.cv g i
      rw [hc] at es
      have es : pairsTo l.cv g (i + 1) = pairsTo l.cv g i ++ ((stepC c g).map fun ws => (i, ws)).toList := es
      have ll := pairsTo_len l.cv g i
      have ly := pa'.1
      have hi : i < xs.length := hi
      cases e : stepC c g with
      | none =>
        rw [e] at ov' es
        have ov' : v = .non := ov'
        subst ov'
        refine iteN (by simp) ⟨⟨_, _, _, rfl⟩, hs, ?_⟩
        rw [es]
        simpa using pa'
      | some ws =>
        rw [e] at ov' es
        obtain ⟨a', rfl, ha'⟩ := ov'
        refine iteP (by simp) ⟨by rw [sizeLine_eq]; omega, by decide, fun p hp => ⟨⟨_, _, _, rfl⟩, hs.trans (same_new hp), ?_⟩⟩
        rw [es]
        have sp := same_new (o := HO.tup [V.int (i : Nat), V.ref a']) hp
        exact (pa'.same sp).snoc upd_same (sp _ _ ha')
    · rintro ys σ H2 ⟨⟨x2, x3, x4, rfl⟩, s2, pa⟩
      refine q ys H2 s2 ?_
      rw [lx] at pa
      exact pa
end

local macro_rules | `(tactic| walk_at "rdx") => `(tactic| ((try simp only [tFld, gTup, gStar, tJs, tFmt, sFld, tSc_eq, StX.tStar, RZ.iZipA, tCKw]); try walk_at "rd"))
def optV : Option Int → V
  | none => .non
  | some i => .int i
def leastI : List Int → Option Int
  | [] => none
  | n :: ms => some (ms.foldl min n)
def ranksC (cvs : List Cv) (g h : List Str) : List Int := (cvs.filter fun c => decide (stepC c g = some h)).map fun c => (c.rk : Int)
def rankC (cvs : List Cv) (g h : List Str) : Option Int := leastI (ranksC cvs g h)
def alongC (cvs : List Cv) : List (List Str) → List (Option Int)
  | g :: h :: r => rankC cvs g h :: alongC cvs (h :: r)
  | _ => []
theorem ranks_eq (cvs : List Cv) (g h : List Str) : (List.range cvs.length).filterMap (fun i => match cvs[i]? with | some c => if stepC c g = some h then some (V.int (c.rk : Nat)) else none | none => none) = (ranksC cvs g h).map V.int := by
  unfold ranksC
  rw [List.map_map]
  have go : ∀ (l : List Cv), (List.range l.length).filterMap (fun i => match l[i]? with | some c => if stepC c g = some h then some (V.int (c.rk : Nat)) else none | none => none) = (l.filter fun c => decide (stepC c g = some h)).map (V.int ∘ fun c => (c.rk : Int)) := by
    intro l
    induction l with
    | nil => rfl
    | cons c l ih =>
      rw [List.length_cons, List.range_succ_eq_map, List.filterMap_cons, List.filterMap_map]
      have e : ((fun i => match (c :: l)[i]? with | some c => if stepC c g = some h then some (V.int (c.rk : Nat)) else none | none => none) ∘ Nat.succ) = fun i => match l[i]? with | some c => if stepC c g = some h then some (V.int (c.rk : Nat)) else none | none => none := by
        funext i
        rfl
      rw [e, ih]
      by_cases h2 : stepC c g = some h
      · rw [List.filter_cons_of_pos (by simpa using h2)]
        simp [h2]
      · rw [List.filter_cons_of_neg (by simpa using h2)]
        simp [h2]
  exact go cvs
section
variable {w : World} {K : PySem.W.Frag} {mg : Str → Option Value} {base : Heap}
/-- names at an address -/
structure NsA (H : Hp) (b : Addr) (g : List Str) : Prop where
  at_ : H b = some (.tup (g.map V.str))
  nm : ∀ z ∈ g, isNm z = true
  ln : g.length ≤ 10000
theorem NsA.same {H H' : Hp} {b : Addr} {g : List Str} (h : NsA H b g) (s : Same H H') : NsA H' b g := ⟨s _ _ h.at_, h.nm, h.ln⟩
structure LbR (K : PySem.W.Frag) (CL CC : Addr) (H : Hp) (a : Addr) (l : Lb) : Prop where
  lb : LbA K CL CC H a l
  lc : l.cv.length ≤ 16
  ok : ∀ c ∈ l.cv, cvOk c = true
theorem LbR.same {CL CC a : Addr} {H H' : Hp} {l : Lb} (h : LbR K CL CC H a l) (s : Same H H') : LbR K CL CC H' a l := ⟨h.lb.same s, h.lc, h.ok⟩
theorem eqO {H : Hp} {v : V} {c : Addr} {o : Option (List Str)} {h : List Str} {Q : VK} (ho : OptT H o v) (no : ∀ g, o = some g → ∀ z ∈ g, isNm z = true) (hc : NsA H c h) (q : Q (.bl (decide (o = some h))) H) : rEqD K v (.ref c) H Q := by
  cases o with
  | none =>
    cases (show v = V.non from ho)
    refine ⟨.none, dS h, .non, .tup (sqt_of hc.at_) (dpS h), rfl, shapedS (fun z hz => pl_of (hc.nm z hz)), ?_⟩
    rw [decide_eq_false (show ¬ (none = some h) from fun e => nomatch e)] at q
    exact q
  | some g =>
    obtain ⟨b, rfl, hb⟩ := ho
    refine eqT (sqt_of hb) (sqt_of hc.at_) (fun z hz => pl_of (no g rfl z hz)) (fun z hz => pl_of (hc.nm z hz)) ?_
    have : decide (some g = some h) = decide (g = h) := by simp
    rw [this] at q
    exact q
theorem step_nm {c : Cv} {g ws : List Str} (ok : cvOk c = true) (nm : ∀ z ∈ g, isNm z = true) (e : stepC c g = some ws) : (∀ z ∈ ws, isNm z = true) ∧ ws.length ≤ g.length + 5 := by
  obtain ⟨n1, n2, z1, z2, _⟩ := cv_names ok
  unfold stepC at e
  split at e
  · split at e
    · cases e; exact ⟨n2, by omega⟩
    · cases e
  · split at e
    · cases e
      refine ⟨fun z hz => ?_, by rw [List.length_append, List.length_drop]; omega⟩
      rcases List.mem_append.mp hz with hz | hz
      · exact n2 z hz
      · exact nm z (List.mem_of_mem_drop hz)
    · cases e
  · split at e
    · split at e
      · cases e
      · cases e; exact ⟨n2, by omega⟩
    · cases e
def sp_step_rank (K : PySem.W.Frag) (CL CC : Addr) : Sp := fun vs H Q _ => ∃ (a b c : Addr) (l : Lb) (g h : List Str), vs = [.ref a, .ref b, .ref c] ∧ LbR K CL CC H a l ∧ NsA H b g ∧ NsA H c h ∧ ∀ H', Same H H' → Q (optV (rankC l.cv g h)) H'
theorem ok_step_rank (T : Tx K mg) : FnOk P w K mg base CX0 3 T.f_step_rank T.d_step_rank ["library", "one", "other"] (sp_step_rank K T.C_Library T.C_Candidate) := by
  refine T.F_step_rank.ok sc_step_rank (fun vs H Q E h => ?_) (fun cdv A outer s H vs Q E hr h => ?_)
  · obtain ⟨a, b, c, l, g, h, rfl, _⟩ := h
    rfl
  · obtain ⟨a, b, c, l, g, h, rfl, hl, hg, hh, q⟩ := h
    refine ⟨_, (pss_cons (ps_setLc (i := 3) (own := [("conversion", 4)]) (g := gName 4) (by rfl) sc_step_rank.nd rfl rfl (sw_true rfl rfl rfl (by decide +kernel)) (pi_tup (pe_fld (pv 0) rfl)) (blkOk_by (own := [("conversion", 4)]) (N := ["library", "one", "other", "ranks", "conversion"]) (sc := defScope s_step_rank) (by decide +kernel)) (fun _ _ _ _ _ => (pg_name (i := 4) sc_step_rank.nd rfl (Or.inl rfl))) (fun _ _ _ _ _ => (pts_one (pt_cmpR (op_eqD hr.units : OpR _ _ (rEqD K)) (pe_call (ok_step_in T) (hr.mono (by decide)) (by rfl) T.g_step_in T.F_step_in.kp T.b_step_in .nil pass0 (pa_cons (pv 4) (pa_cons (pv 1) pa_nil))) (pv 2) (nomark _)))) (fun _ _ _ _ _ => (pe_ix (ix_tup : IxR _ (rIxT K)) (pv 4) pe_int (fun _ _ => rfl))))
      (pss_one (ps_ret (pe_callBK (cr_minD rfl hr.units) (by rfl) T.n_min (by decide +kernel) (pa_cons (pv 3) pa_nil) (pk_cons pe_non pk_nil))))), ?_⟩
    refine seqN fun N1 hN1 => ?_
    walk_at "rd"
    walk_at "rdx"
    obtain ⟨dx, am, ab, ac, ad, fs, hf⟩ := hl.lb
    obtain ⟨xs, hx, lx, fx⟩ := hf.hc
    refine ⟨_, _, _, hf.at_, T.cl_Library, T.no_Library_own_conversions, _, hf.f3, ac, rfl, ⟨_, hx⟩, ?_⟩
    refine lc_sel (walk_tup (xs := xs)) (fun i => match l.cv[i]? with | some c => if stepC c g = some h then some (V.int (c.rk : Nat)) else none | none => none) (sz100 (by have := hl.lc; omega)) (fun H' s => sqt_sm hx s) ?_ ?_
    · rintro i x Ha Hb hi sa ⟨rfl, hxi⟩ R N yes no
      obtain ⟨cv, hc⟩ : ∃ cv, l.cv[i]? = some cv := ⟨_, List.getElem?_eq_getElem (by rw [← lx]; exact hi)⟩
      obtain ⟨b', eb, hcv⟩ := fx i cv hc
      rw [eb] at hxi
      cases hxi
      walk_at "rd"
      have okc := hl.ok cv (List.mem_of_getElem? hc)
      have hgb := hg.same sa
      refine ⟨b', b, cv, g, rfl, cvA.same hcv sa, okc, hgb.at_, hgb.nm, hgb.ln, fun v H' sv ov => ?_⟩
      refine eqO ov (fun g' e => (step_nm okc hg.nm e).1) ((hh.same sa).same sv) ⟨_, rfl, ?_⟩
      obtain ⟨l1, r1, j1, j2, j3⟩ := (cvA.same hcv (sa.trans sv))
      refine ite2 (fun e => ?_) (fun e => ?_)
      · walk_at "rdx"
        refine ixt_nat (j := 3) (sqt_of j1) rfl (yes _ _ ?_ sv)
        simp only [hc]
        rw [if_pos (of_decide_eq_true e)]
      · refine no _ ?_ sv
        simp only [hc]
        rw [if_neg (by simpa using e)]
    intro H1 D s1 hD fD
    rw [lx, ranks_eq] at fD
    refine hN1 _ _ ?_
    clear hN1
    walk_at "rd"
    walk_at "rdx"
    refine ⟨D, ranksC l.cv g h, .non, rfl, rfl, sql_of fD, fun e => ?_, fun n ms e => ?_⟩
    · have := q H1 s1
      unfold rankC at this
      rw [e] at this
      exact this
    · have := q H1 s1
      unfold rankC at this
      rw [e] at this
      exact this
end

section
open PySem PySem.Spec PyProof.Rows L2 Lv PySem.W
/-! ### plain law: what is reached by so many conversions -/
def usableC (cvs : List Cv) (t : Int) : List Cv := cvs.filter fun c => decide ((c.rk : Int) ≤ t)
/-- h is reached from g by at most n conversions of U -/
def Rc (U : List Cv) (g : List Str) : Nat → List Str → Prop
  | 0, h => h = g
  | n + 1, h => Rc U g n h ∨ ∃ m c, Rc U g n m ∧ c ∈ U ∧ stepC c m = some h
theorem Rc.congr {U U' : List Cv} {g : List Str} (e : ∀ c, c ∈ U ↔ c ∈ U') : ∀ {n : Nat} {h : List Str}, Rc U g n h ↔ Rc U' g n h
  | 0, h => Iff.rfl
  | n + 1, h => by
    constructor
    · rintro (q | ⟨m, c, q1, q2, q3⟩)
      · exact .inl ((Rc.congr e).mp q)
      · exact .inr ⟨m, c, (Rc.congr e).mp q1, (e c).mp q2, q3⟩
    · rintro (q | ⟨m, c, q1, q2, q3⟩)
      · exact .inl ((Rc.congr e).mpr q)
      · exact .inr ⟨m, c, (Rc.congr e).mpr q1, (e c).mpr q2, q3⟩
theorem Rc.add {U : List Cv} {g : List Str} {n : Nat} {h : List Str} (r : Rc U g n h) : ∀ k, Rc U g (n + k) h
  | 0 => r
  | k + 1 => .inl (r.add k)
theorem Rc.le {U : List Cv} {g : List Str} {n m : Nat} {h : List Str} (r : Rc U g n h) (l : n ≤ m) : Rc U g m h := by
  have := r.add (m - n)
  rwa [Nat.add_sub_cancel' l] at this
theorem Rc.self {U : List Cv} {g : List Str} (n : Nat) : Rc U g n g := Rc.le (n := 0) rfl (Nat.zero_le n)
theorem cv_open3 {c : Cv} (h : cvOk c = true) (k : c.kd = .open_) : c.rt.length ≤ 3 := by
  unfold cvOk at h
  simp only [Bool.and_eq_true, decide_eq_true_eq] at h
  obtain ⟨⟨k1, k2⟩, h⟩ := h
  obtain ⟨kd, lf, rt, rk⟩ := c
  cases (show kd = .open_ from k)
  have h : (true && namesV (lf.map V.str) 0 2 && (true && namesV (rt.map V.str) 0 3 && !decide (lf.map V.str = rt.map V.str))) = true := h
  simp only [Bool.and_eq_true, Bool.true_and] at h
  obtain ⟨b1, b2, b3⟩ := names_of h.2.1
  show rt.length ≤ 3
  omega
theorem step_len {c : Cv} {g ws : List Str} (ok : cvOk c = true) (e : stepC c g = some ws) : ws.length ≤ g.length + 3 ∨ ws.length ≤ 5 := by
  obtain ⟨n1, n2, z1, z2, _⟩ := cv_names ok
  have q := cv_open3 ok
  unfold stepC at e
  split at e
  · split at e
    · cases e; exact .inr z2
    · cases e
  · rename_i k
    split at e
    · cases e
      have := q k
      exact .inl (by rw [List.length_append, List.length_drop]; omega)
    · cases e
  · split at e
    · split at e
      · cases e
      · cases e; exact .inr z2
    · cases e
theorem Rc.nm {U : List Cv} {g : List Str} (ok : ∀ c ∈ U, cvOk c = true) (nm : ∀ z ∈ g, isNm z = true) : ∀ {n : Nat} {h : List Str}, Rc U g n h → (∀ z ∈ h, isNm z = true) ∧ h.length ≤ g.length + 3 * n + 5
  | 0, h, r => by
    rw [show h = g from r]
    exact ⟨nm, by omega⟩
  | n + 1, h, .inl r => by
    have := r.nm ok nm
    exact ⟨this.1, by omega⟩
  | n + 1, h, .inr ⟨m, c, r, hc, e⟩ => by
    have q := r.nm ok nm
    have s := step_nm (ok c hc) q.1 e
    have s2 := step_len (ok c hc) e
    exact ⟨s.1, by omega⟩
theorem nd_len {α : Type} [DecidableEq α] : ∀ {G F : List α}, G.Nodup → (∀ x ∈ G, x ∈ F) → G.length ≤ F.length
  | [], _, _, _ => Nat.zero_le _
  | x :: G, F, nd, h => by
    obtain ⟨n1, n2⟩ := List.nodup_cons.mp nd
    have hx := h x (.head _)
    have := nd_len (F := F.erase x) n2 fun y hy => (List.mem_erase_of_ne (show y ≠ x from fun e => n1 (by rw [← e]; exact hy))).mpr (h y (.tail _ hy))
    rw [List.length_erase_of_mem hx] at this
    have : 0 < F.length := List.length_pos_of_mem hx
    rw [List.length_cons]
    omega
/-- at the beginning of a turn -/
structure LayI (B : Nat) (U : List Cv) (g : List Str) (i : Nat) (F layer : List (List Str)) : Prop where
  nd : F.Nodup
  mem : ∀ h, h ∈ F ↔ Rc U g i h
  le : F.length ≤ B
  sub : ∀ m ∈ layer, Rc U g i m
  ll : layer.length ≤ B
  dn : ∀ m, Rc U g i m → m ∉ layer → ∀ c ∈ U, ∀ h, stepC c m = some h → h ∈ F
/-- j of the layer are done -/
structure MidI (B : Nat) (U : List Cv) (F0 layer : List (List Str)) (j : Nat) (F later : List (List Str)) : Prop where
  nd : F.Nodup
  le : F.length ≤ B
  ll : later.length ≤ F.length
  keep : ∀ h ∈ F0, h ∈ F
  new : ∀ h ∈ F, h ∈ F0 ∨ h ∈ later
  lat : ∀ h ∈ later, h ∈ F ∧ ∃ m ∈ layer, ∃ c ∈ U, stepC c m = some h
  dn : ∀ j' m, j' < j → layer[j']? = some m → ∀ c ∈ U, ∀ h, stepC c m = some h → h ∈ F
/-- .. and k of the conversions, for one -/
structure InI (B : Nat) (U C : List Cv) (F0 layer : List (List Str)) (j : Nat) (one : List Str) (k : Nat) (F later : List (List Str)) : Prop where
  mid : MidI B U F0 layer j F later
  at_ : layer[j]? = some one
  dk : ∀ k' c, k' < k → C[k']? = some c → c ∈ U → ∀ h, stepC c one = some h → h ∈ F
section
variable {U C : List Cv} {g one h : List Str} {B B' i j k : Nat} {F F0 layer later : List (List Str)} {c : Cv}
theorem LayI.start (b : 1 ≤ B) : LayI B U g 0 [g] [g] := by
  refine ⟨by simp, fun h => by rw [List.mem_singleton]; exact Iff.rfl, b, fun m hm => by rw [List.mem_singleton.mp hm]; exact rfl, b, fun m r n => ?_⟩
  exact absurd (by rw [show m = g from r]; exact .head _) n
theorem LayI.mid (L : LayI B U g i F layer) : MidI B U F layer 0 F [] := ⟨L.nd, L.le, Nat.zero_le _, fun _ h => h, fun _ h => .inl h, (fun _ h => nomatch h), fun _ _ h => absurd h (Nat.not_lt_zero _)⟩
theorem MidI.inn (M : MidI B U F0 layer j F later) (e : layer[j]? = some one) : InI B U C F0 layer j one 0 F later := ⟨M, e, fun _ _ h => absurd h (Nat.not_lt_zero _)⟩
theorem InI.skip (M : InI B U C F0 layer j one k F later) (e : C[k]? = some c) (n : c ∈ U → ∀ h, stepC c one = some h → h ∈ F) : InI B U C F0 layer j one (k + 1) F later :=
  ⟨M.mid, M.at_, fun k' c' lk e' u h s => by
    rcases Nat.lt_succ_iff_lt_or_eq.mp lk with q | q
    · exact M.dk k' c' q e' u h s
    · rw [q, e] at e'
      cases e'
      exact n u h s⟩
theorem InI.add (M : InI B U C F0 layer j one k F later) (e : C[k]? = some c) (u : c ∈ U) (s : stepC c one = some h) (n : h ∉ F) (l : F.length + 1 ≤ B') : InI B' U C F0 layer j one (k + 1) (F ++ [h]) (later ++ [h]) := by
  obtain ⟨M, a, dk⟩ := M
  have l3 := M.ll
  refine ⟨⟨List.nodup_append.mpr ⟨M.nd, by simp, fun x hx y hy q => n (by rw [List.mem_singleton.mp hy] at q; exact q ▸ hx)⟩, by rw [List.length_append, List.length_singleton]; omega, by simp only [List.length_append, List.length_singleton]; omega, fun x hx => List.mem_append_left _ (M.keep x hx), fun x hx => ?_, fun x hx => ?_, fun j' m lj ej c' hc x sx => List.mem_append_left _ (M.dn j' m lj ej c' hc x sx)⟩, a, fun k' c' lk e' u' x sx => ?_⟩
  · rcases List.mem_append.mp hx with q | q
    · rcases M.new x q with q | q
      · exact .inl q
      · exact .inr (List.mem_append_left _ q)
    · exact .inr (List.mem_append_right _ q)
  · rcases List.mem_append.mp hx with q | q
    · have := M.lat x q
      exact ⟨List.mem_append_left _ this.1, this.2⟩
    · rw [List.mem_singleton.mp q]
      exact ⟨List.mem_append_right _ (.head _), one, List.mem_of_getElem? a, c, u, s⟩
  · rcases Nat.lt_succ_iff_lt_or_eq.mp lk with q | q
    · exact List.mem_append_left _ (dk k' c' q e' u' x sx)
    · rw [q, e] at e'
      cases e'
      rw [s] at sx
      cases sx
      exact List.mem_append_right _ (.head _)
theorem MidI.mono (b : B ≤ B') (M : MidI B U F0 layer j F later) : MidI B' U F0 layer j F later := ⟨M.nd, Nat.le_trans M.le b, M.ll, M.keep, M.new, M.lat, M.dn⟩
theorem InI.mono (b : B ≤ B') (M : InI B U C F0 layer j one k F later) : InI B' U C F0 layer j one k F later := ⟨M.mid.mono b, M.at_, M.dk⟩
theorem MidI.rc (L : LayI B U g i F0 layer) (M : MidI B' U F0 layer j F later) : ∀ x ∈ F, Rc U g (i + 1) x := fun x hx => by
  rcases M.new x hx with q | q
  · exact .inl ((L.mem x).mp q)
  · obtain ⟨_, m, hm, c, hc, s⟩ := M.lat x q
    exact .inr ⟨m, c, L.sub m hm, hc, s⟩
theorem InI.over (L : LayI B U g i F0 layer) (M : InI B' U C F0 layer j one k F later) (e : C[k]? = some c) (u : c ∈ U) (s : stepC c one = some h) (n : h ∉ F) (l : F.length = 2000) : ∃ G : List (List Str), G.Nodup ∧ G.length = 2001 ∧ ∀ x ∈ G, Rc U g (i + 1) x := by
  refine ⟨F ++ [h], List.nodup_append.mpr ⟨M.mid.nd, by simp, fun x hx y hy q => n (by rw [List.mem_singleton.mp hy] at q; exact q ▸ hx)⟩, by rw [List.length_append, l, List.length_singleton], fun x hx => ?_⟩
  rcases List.mem_append.mp hx with q | q
  · exact M.mid.rc L x q
  · rw [List.mem_singleton.mp q]
    exact .inr ⟨one, c, L.sub one (List.mem_of_getElem? M.at_), u, s⟩
theorem InI.next (M : InI B U C F0 layer j one C.length F later) (uc : ∀ c ∈ U, c ∈ C) : MidI B U F0 layer (j + 1) F later := by
  obtain ⟨M, a, dk⟩ := M
  refine ⟨M.nd, M.le, M.ll, M.keep, M.new, M.lat, fun j' m lj e c hc x s => ?_⟩
  rcases Nat.lt_succ_iff_lt_or_eq.mp lj with q | q
  · exact M.dn j' m q e c hc x s
  · rw [q, a] at e
    cases e
    obtain ⟨k, hk⟩ := List.getElem?_of_mem (uc c hc)
    exact dk k c (List.getElem?_eq_some_iff.mp hk).1 hk hc x s
theorem MidI.lay (L : LayI B U g i F0 layer) (M : MidI B' U F0 layer layer.length F later) : LayI B' U g (i + 1) F later := by
  have ex : ∀ m ∈ F0, ∀ c ∈ U, ∀ x, stepC c m = some x → x ∈ F := fun m hm c hc x s => by
    by_cases q : m ∈ layer
    · obtain ⟨j, hj⟩ := List.getElem?_of_mem q
      exact M.dn j m (List.getElem?_eq_some_iff.mp hj).1 hj c hc x s
    · exact M.keep x (L.dn m ((L.mem m).mp hm) q c hc x s)
  have mem : ∀ x, x ∈ F ↔ Rc U g (i + 1) x := fun x => by
    refine ⟨M.rc L x, ?_⟩
    rintro (r | ⟨m, c, r, hc, s⟩)
    · exact M.keep x ((L.mem x).mpr r)
    · exact ex m ((L.mem m).mpr r) c hc x s
  refine ⟨M.nd, mem, M.le, fun m hm => (mem m).mp (M.lat m hm).1, Nat.le_trans M.ll M.le, fun m r n c hc x s => ?_⟩
  rcases M.new m ((mem m).mpr r) with q | q
  · exact ex m q c hc x s
  · exact absurd q n
end
section
variable {U : List Cv} {g : List Str} {B i : Nat} {F : List (List Str)}
/-- nothing more -/
theorem LayI.all (L : LayI B U g i F []) : ∀ {n : Nat} {h : List Str}, i ≤ n → (h ∈ F ↔ Rc U g n h) := by
  have cl : ∀ (n : Nat) (h : List Str), Rc U g n h → h ∈ F := by
    intro n
    induction n with
    | zero => intro h r; rw [show h = g from r]; exact (L.mem g).mpr (Rc.self i)
    | succ n ih =>
      rintro h (r | ⟨m, c, r, hc, s⟩)
      · exact ih h r
      · exact L.dn m ((L.mem m).mp (ih m r)) (fun z => nomatch z) c hc h s
  intro n h l
  exact ⟨fun q => ((L.mem h).mp q).le l, cl n h⟩
end
/-! ### the names, sorted -/
theorem wordsK_inj {g h : List Str} (e : wordsK g = wordsK h) : g = h := by
  unfold wordsK at e
  injection e with e
  induction g generalizing h with
  | nil =>
    cases h with
    | nil => rfl
    | cons _ _ => cases e
  | cons x g ih =>
    cases h with
    | nil => cases e
    | cons y h =>
      rw [List.map_cons, List.map_cons] at e
      injection e with e1 e2
      injection e1 with e1
      rw [e1, ih e2]
def sortG (F : List (List Str)) : List (List Str) := F.mergeSort (dataLe false fun g => dOf (wordsK g))
theorem alike_wk (g h : List Str) : alike (dOf (wordsK g)) (dOf (wordsK h)) = true := by
  unfold wordsK
  rw [dOf, dOf, alike]
  exact alike_words g h
theorem nd_words {F : List (List Str)} (nd : F.Nodup) : (F.map wordsK).Nodup := by
  induction F with
  | nil => exact List.nodup_nil
  | cons x F ih =>
    obtain ⟨n1, n2⟩ := List.nodup_cons.mp nd
    rw [List.map_cons]
    refine List.nodup_cons.mpr ⟨fun h => ?_, ih n2⟩
    obtain ⟨y, hy, e⟩ := List.mem_map.mp h
    exact n1 (wordsK_inj e ▸ hy)
theorem sortG_of {F G : List (List Str)} (nf : F.Nodup) (ng : G.Nodup) (e : ∀ h, h ∈ F ↔ h ∈ G) : sortG F = sortG G :=
  zk_sort (k := wordsK) alike_wk (nd_words nf) ((List.perm_ext_iff_of_nodup nf ng).mpr e)
theorem sortG_perm (F : List (List Str)) : (sortG F).Perm F := List.mergeSort_perm ..
theorem cv_rt_ne {c : Cv} (h : cvOk c = true) (n : c.kd ≠ .open_) : c.rt ≠ [] := by
  unfold cvOk at h
  simp only [Bool.and_eq_true, decide_eq_true_eq] at h
  obtain ⟨⟨k1, k2⟩, h⟩ := h
  obtain ⟨kd, lf, rt, rk⟩ := c
  rintro (rfl : rt = [])
  cases kd with
  | closed =>
    have h : (true && namesV (lf.map V.str) 1 5 && (true && namesV [] 1 5 && !decide (lf.map V.str = []))) = true := h
    simp only [Bool.and_eq_true] at h
    exact absurd h.2.1.2 (by decide)
  | open_ => exact n rfl
  | drop =>
    have h : (true && namesV (lf.map V.str) 0 2 && (true && namesV [] 1 5)) = true := h
    simp only [Bool.and_eq_true] at h
    exact absurd h.2.2 (by decide)
theorem step_ne {c : Cv} {g ws : List Str} (ok : cvOk c = true) (e : stepC c g = some ws) : ws ≠ [] := by
  have q := cv_rt_ne ok
  unfold stepC at e
  split at e
  · rename_i k
    split at e
    · cases e; exact q (by rw [k]; decide)
    · cases e
  · split at e
    · rename_i b
      cases e
      have lt := (of_decide_eq_true b).1
      intro z
      have := congrArg List.length z
      rw [List.length_append, List.length_drop, List.length_nil] at this
      omega
    · cases e
  · rename_i k
    split at e
    · split at e
      · cases e
      · cases e; exact q (by rw [k]; decide)
    · cases e
theorem Rc.ne {U : List Cv} {g : List Str} (ok : ∀ c ∈ U, cvOk c = true) (ne : g ≠ []) : ∀ {n : Nat} {h : List Str}, Rc U g n h → h ≠ []
  | 0, h, r => by
    rw [show h = g from r]
    exact ne
  | n + 1, h, .inl r => r.ne ok ne
  | n + 1, h, .inr ⟨m, c, r, hc, e⟩ => step_ne (ok c hc) e
theorem sortable_words {F : List (List Str)} (ne : ∀ g ∈ F, g ≠ []) : Sortable (F.map fun g => dOf (wordsK g)) := .inl fun d hd => by
  obtain ⟨g, hg, rfl⟩ := List.mem_map.mp hd
  cases g with
  | nil => exact absurd rfl (ne _ hg)
  | cons x g =>
    unfold wordsK
    rw [List.map_cons, dOf, dsOf]
    exact ⟨_, _, rfl⟩
theorem alikeA_words (F : List (List Str)) : AllAlike (F.map fun g => dOf (wordsK g)) := .of fun p q => alike_wk p q
/-! ### a dict of names -/
abbrev Fnd := List (List Str × Addr × V)
def entF (M : Fnd) : Ents := M.map fun e => (wordsK e.1, e.2)
structure DnA (P : Program) (w : World) (K : PySem.W.Frag) (H : Hp) (a : Addr) (M : Fnd) : Prop where
  at_ : H a = some (DicNO P w a (entF M))
  ns : ∀ e ∈ M, NsA H e.2.1 e.1
theorem atE_F {M : Fnd} {g : List Str} : (atE (entF M) (wordsK g)).isSome = decide (g ∈ M.map (·.1)) := by
  unfold atE entF
  rw [Option.isSome_map, ← Bool.coe_iff_coe, List.find?_isSome, decide_eq_true_eq, List.mem_map]
  constructor
  · rintro ⟨x, hx, e⟩
    obtain ⟨m, hm, rfl⟩ := List.mem_map.mp hx
    exact ⟨m, hm, wordsK_inj (of_decide_eq_true e)⟩
  · rintro ⟨m, hm, rfl⟩
    exact ⟨_, List.mem_map_of_mem hm, decide_eq_true rfl⟩
theorem putE_F {M : Fnd} {g : List Str} {b : Addr} {v : V} (n : g ∉ M.map (·.1)) : putE (entF M) (wordsK g) b v = entF (M ++ [(g, b, v)]) := by
  unfold putE
  rw [atE_F, decide_eq_false n, if_neg (by simp)]
  unfold entF
  rw [List.map_append]
  rfl
section
variable {P : Program} {w : World} {K : PySem.W.Frag}
theorem DnA.key {H : Hp} {a : Addr} {M : Fnd} (h : DnA P w K H a M) : ∀ p ∈ entF M, KeyAt K H p.1 p.2.1 := fun p hp => by
  obtain ⟨e, he, rfl⟩ := List.mem_map.mp hp
  exact ⟨nk_words (h.ns e he).at_, Nat.le_trans dep_words (by decide)⟩
theorem NsA.smt {H H' : Hp} {b : Addr} {g : List Str} (h : NsA H b g) (s : SmT H H') : NsA H' b g := ⟨s _ _ h.at_, h.nm, h.ln⟩
theorem DnA.same {H H' : Hp} {a : Addr} {M : Fnd} (h : DnA P w K H a M) (s : Same H H') : DnA P w K H' a M := ⟨s _ _ h.at_, fun e he => (h.ns e he).same s⟩
/-- one further -/
theorem DnA.put {H : Hp} {a b : Addr} {M : Fnd} {g : List Str} {v : V} (h : DnA P w K H a M) (n : g ∉ M.map (·.1)) (hb : NsA H b g) : DnA P w K (upd H a (DicNO P w a (putE (entF M) (wordsK g) b v))) a (M ++ [(g, b, v)]) := by
  have s := smt_ext (o := DicNO P w a (putE (entF M) (wordsK g) b v)) h.at_
  refine ⟨by rw [upd_same, putE_F n], fun e he => ?_⟩
  rcases List.mem_append.mp he with q | q
  · exact (h.ns e q).smt s
  · rw [List.mem_singleton.mp q]
    exact hb.smt s
theorem nsa_ov {H : Hp} {b : Addr} {g : List Str} {l : Lb} {m : Option Int} (h : NsA H b g) : OvIs H l m (.ref b) (ovB l m (g.map V.str)) := .tup h.at_ (fun x hx => by
  obtain ⟨z, _, rfl⟩ := List.mem_map.mp hx
  exact ⟨_, .str _⟩) (by rw [List.length_map]; exact h.ln)
/-- a list of names -/
structure LsN (H : Hp) (p : Addr) (N : List (List Str × Addr)) : Prop where
  at_ : H p = some (.lst (N.map fun e => V.ref e.2))
  ns : ∀ e ∈ N, NsA H e.2 e.1
theorem LsN.same {H H' : Hp} {p : Addr} {N : List (List Str × Addr)} (h : LsN H p N) (s : Same H H') : LsN H' p N := ⟨s _ _ h.at_, fun e he => (h.ns e he).same s⟩
theorem LsN.upd_ {H : Hp} {p q : Addr} {N : List (List Str × Addr)} {o : HO} (h : LsN H p N) (n : p ≠ q) (s : SmT H (upd H q o)) : LsN (upd H q o) p N := ⟨by rw [upd_ne n]; exact h.at_, fun e he => (h.ns e he).smt s⟩
/-- a list of conversions -/
def CvL (H : Hp) (p : Addr) (U : List Cv) : Prop := ∃ xs : List V, H p = some (.lst xs) ∧ xs.length = U.length ∧ ∀ (i : Nat) c, U[i]? = some c → ∃ b, xs[i]? = some (.ref b) ∧ cvA H b c
theorem CvL.same {H H' : Hp} {p : Addr} {U : List Cv} (h : CvL H p U) (s : Same H H') : CvL H' p U := let ⟨xs, h1, h2, h3⟩ := h; ⟨xs, s _ _ h1, h2, fun i c e => let ⟨b, e1, e2⟩ := h3 i c e; ⟨b, e1, cvA.same e2 s⟩⟩
theorem CvL.upd_ {H : Hp} {p q : Addr} {U : List Cv} {o : HO} (h : CvL H p U) (n : p ≠ q) (s : SmT H (upd H q o)) : CvL (upd H q o) p U := let ⟨xs, h1, h2, h3⟩ := h; ⟨xs, by rw [upd_ne n]; exact h1, h2, fun i c e => let ⟨b, e1, e2⟩ := h3 i c e; ⟨b, e1, cvA.smt s e2⟩⟩
theorem smt_lst {D : Addr} {H : Hp} {xs : List V} {o : HO} (h : H D = some (.lst xs)) : SmT H (upd H D o) := fun a ys e => by
  rw [upd_ne]
  · exact e
  · rintro rfl
    rw [h] at e
    cases e
theorem same_upd {H0 H : Hp} {D : Addr} {o : HO} (s : Same H0 H) (h : H0 D = none) : Same H0 (upd H D o) := fun a x e => by
  rw [upd_ne]
  · exact s _ _ e
  · rintro rfl
    rw [h] at e
    cases e
/-- the heap in a turn -/
structure InH (P : Program) (w : World) (K : PySem.W.Frag) (H0 : Hp) (cv f ly lt : Addr) (U : List Cv) (xs : List (List Str × Addr)) (H : Hp) (M : Fnd) (N : List (List Str × Addr)) : Prop where
  s : Same H0 H
  hf : H0 f = none
  hl : H0 lt = none
  cvF : CvL H cv U
  fdF : DnA P w K H f M
  lyF : LsN H ly xs
  ltF : LsN H lt N
  n1 : ly ≠ lt
  n2 : cv ≠ lt
theorem InH.same {H0 H H' : Hp} {cv f ly lt : Addr} {U : List Cv} {xs N : List (List Str × Addr)} {M : Fnd} (h : InH P w K H0 cv f ly lt U xs H M N) (s : Same H H') : InH P w K H0 cv f ly lt U xs H' M N :=
  ⟨h.s.trans s, h.hf, h.hl, h.cvF.same s, h.fdF.same s, h.lyF.same s, h.ltF.same s, h.n1, h.n2⟩
theorem ext_ne {H : Hp} {f p : Addr} {φ : Heap → Prop} {xs : List V} (hf : H f = some (.ext φ)) (hp : H p = some (.lst xs)) : p ≠ f := by
  rintro rfl
  rw [hf] at hp
  cases hp
theorem InH.put {H0 H : Hp} {cv f ly lt b : Addr} {U : List Cv} {xs N : List (List Str × Addr)} {M : Fnd} {h : List Str} {v : V} (I : InH P w K H0 cv f ly lt U xs H M N) (n : h ∉ M.map (·.1)) (hb : NsA H b h) :
    InH P w K H0 cv f ly lt U xs (upd (upd H f (DicNO P w f (putE (entF M) (wordsK h) b v))) lt (.lst ((N.map fun e => V.ref e.2) ++ [.ref b]))) (M ++ [(h, b, v)]) (N ++ [(h, b)]) := by
  have nf := ext_ne I.fdF.at_ I.ltF.at_
  have s1 := smt_ext (o := DicNO P w f (putE (entF M) (wordsK h) b v)) I.fdF.at_
  have h1 : (upd H f (DicNO P w f (putE (entF M) (wordsK h) b v))) lt = some (.lst (N.map fun e => V.ref e.2)) := by rw [upd_ne nf]; exact I.ltF.at_
  have s2 := smt_lst (o := .lst ((N.map fun e => V.ref e.2) ++ [.ref b])) h1
  obtain ⟨cs, hc, _⟩ := id I.cvF
  have fd := I.fdF.put n hb (v := v)
  refine ⟨same_upd (same_upd I.s I.hf) I.hl, I.hf, I.hl, (I.cvF.upd_ (ext_ne I.fdF.at_ hc) s1).upd_ I.n2 s2, ⟨by rw [upd_ne nf.symm]; exact fd.at_, fun e he => (fd.ns e he).smt s2⟩, (I.lyF.upd_ (ext_ne I.fdF.at_ I.lyF.at_) s1).upd_ I.n1 s2, ⟨by rw [upd_same, List.map_append]; rfl, fun e he => ?_⟩, I.n1, I.n2⟩
  rcases List.mem_append.mp he with q | q
  · exact ((I.ltF.ns e q).smt s1).smt s2
  · rw [List.mem_singleton.mp q]
    exact (hb.smt s1).smt s2
/-- a tuple of names -/
def RwA (H : Hp) (p : Addr) (gs : List (List Str)) : Prop := ∃ N : List (List Str × Addr), H p = some (.tup (N.map fun e => V.ref e.2)) ∧ gs = N.map (·.1) ∧ ∀ e ∈ N, NsA H e.2 e.1
theorem RwA.same {H H' : Hp} {p : Addr} {gs : List (List Str)} (h : RwA H p gs) (s : Same H H') : RwA H' p gs := let ⟨N, h1, h2, h3⟩ := h; ⟨N, s _ _ h1, h2, fun e he => (h3 e he).same s⟩
end
end

local macro_rules | `(tactic| walk_at "rdx") => `(tactic| ((try simp only [tFld, gTup, gStar, tJs, tFmt, sFld, tSc_eq, tDGet, tDisp1N, sDPutN, tDGetN, tKeepX]); try walk_at "rd"))
section
variable {w : World} {K : PySem.W.Frag} {mg : Str → Option Value} {base : Heap}
theorem kp_TooMany (T : Tx K mg) : PySem.PeB.Kp P w K mg "TooMany" T.C_TooMany "limit" := .of_limit PySem.PeB.okOE T.p_TooMany (by decide) (by decide)
theorem kp_InvalidNumber (T : Tx K mg) : PySem.PeB.Kp P w K mg "InvalidNumber" T.C_InvalidNumber "value" := .of_value PySem.PeB.okRE T.p_InvalidNumber (by decide) (by decide)
theorem range_sel {α β : Type} (g : α → Option β) (M : List α) : ((List.range M.length).filterMap fun j => M[j]?.bind g) = M.filterMap g := by
  have e : (List.range M.length).map (fun j => M[j]?) = M.map some := by
    apply List.ext_getElem?
    intro i
    rw [List.getElem?_map, List.getElem?_map]
    by_cases h : i < M.length
    · rw [List.getElem?_range h, Option.map_some, List.getElem?_eq_getElem h]
      rfl
    · rw [List.getElem?_eq_none (by rw [List.length_range]; omega), List.getElem?_eq_none (by omega)]
      rfl
  have e2 : ((List.range M.length).filterMap fun j => M[j]?.bind g) = ((List.range M.length).map (fun j => M[j]?)).filterMap (fun o => o.bind g) := by rw [List.filterMap_map]; rfl
  rw [e2, e, List.filterMap_map]
  rfl
theorem pairs_cv {H : Hp} {xs : List V} {cs : List Cv} (l : xs.length = cs.length) (f : ∀ (i : Nat) c, cs[i]? = some c → ∃ b, xs[i]? = some (.ref b) ∧ cvA H b c) : ∃ M : List (Addr × Cv), xs = M.map (fun p => V.ref p.1) ∧ cs = M.map (·.2) ∧ ∀ p ∈ M, cvA H p.1 p.2 := by
  induction cs generalizing xs with
  | nil =>
    cases xs with
    | nil => exact ⟨[], rfl, rfl, fun p hp => nomatch hp⟩
    | cons x xs => cases l
  | cons c cs ih =>
    cases xs with
    | nil => cases l
    | cons x xs =>
      obtain ⟨b, e, k⟩ := f 0 c rfl
      cases e
      obtain ⟨M, e1, e2, e3⟩ := ih (xs := xs) (by simpa using l) fun i c e => f (i + 1) c e
      refine ⟨(b, c) :: M, by rw [e1]; rfl, by rw [e2]; rfl, fun p hp => ?_⟩
      rcases List.mem_cons.mp hp with rfl | q
      · exact k
      · exact e3 p q
theorem cvl_of {H : Hp} {p : Addr} {M : List (Addr × Cv)} (h : H p = some (.lst (M.map fun p => V.ref p.1))) (k : ∀ p ∈ M, cvA H p.1 p.2) : CvL H p (M.map (·.2)) := by
  refine ⟨_, h, by rw [List.length_map, List.length_map], fun i c e => ?_⟩
  rw [List.getElem?_map] at e
  cases hp : M[i]? with
  | none => rw [hp] at e; cases e
  | some p =>
    rw [hp] at e
    cases e
    exact ⟨p.1, by rw [List.getElem?_map, hp]; rfl, k p (List.mem_of_getElem? hp)⟩
def sp_usable (K : PySem.W.Frag) (CL CC : Addr) : Sp := fun vs H Q _ => ∃ (a : Addr) (l : Lb) (t : Nat), vs = [.ref a, .int (t : Nat)] ∧ LbR K CL CC H a l ∧ ∀ p H', Same H H' → CvL H' p (usableC l.cv t) → Q (.ref p) H'
theorem ok_usable (T : Tx K mg) : FnOk P w K mg base CX0 1 T.f_usable T.d_usable ["library", "most"] (sp_usable K T.C_Library T.C_Candidate) := by
  refine T.F_usable.ok sc_usable (fun vs H Q E h => ?_) (fun cdv A outer s H vs Q E hr h => ?_)
  · obtain ⟨a, l, t, rfl, _⟩ := h
    rfl
  · obtain ⟨a, l, t, rfl, hl, q⟩ := h
    refine ⟨_, (pss_one (ps_ret (pe_lc (own := [("conversion", 2)]) (g := gName 2) (by rfl) sc_usable.nd (pi_tup (pe_fld (pv 0) rfl)) (blkOk_by (own := [("conversion", 2)]) (N := ["library", "most", "conversion"]) (sc := defScope s_usable) (by decide +kernel)) (fun _ _ _ _ _ => (pg_name (i := 2) sc_usable.nd rfl (Or.inl rfl))) (fun _ _ _ _ _ => (pts_one (pt_cmpR op_le (pe_ix (ix_tup : IxR _ (rIxT K)) (pv 2) pe_int (fun _ _ => rfl)) (pv 1) (nomark _)))) (fun _ _ _ _ _ => (pv 2))))), ?_⟩
    walk_at "rd"
    walk_at "rdx"
    obtain ⟨dx, am, ab, ac, ad, fs, hf⟩ := hl.lb
    obtain ⟨xs, hx, lx, fx⟩ := hf.hc
    obtain ⟨M, rfl, e2, k⟩ := pairs_cv lx fx
    refine ⟨_, _, _, hf.at_, T.cl_Library, T.no_Library_own_conversions, _, hf.f3, ac, rfl, ⟨_, hx⟩, ?_⟩
    refine lc_sel (walk_tup (xs := M.map fun p => V.ref p.1)) (fun j => M[j]?.bind fun p => if ((p.2.rk : Nat) : Int) ≤ ((t : Nat) : Int) then some (V.ref p.1) else none) (sz100 (by rw [lx]; have := hl.lc; omega)) (fun H' s => sqt_sm hx s) ?_ ?_
    · rintro j x Hc Hd hj sa ⟨rfl, hxj⟩ Z Z' yes no
      obtain ⟨p, hp⟩ : ∃ p, M[j]? = some p := ⟨_, List.getElem?_eq_getElem (by rw [List.length_map] at hj; exact hj)⟩
      rw [List.getElem?_map, hp] at hxj
      cases hxj
      obtain ⟨l1, r1, j1, j2, j3⟩ := cvA.same (k p (List.mem_of_getElem? hp)) sa
      walk_at "rd"
      walk_at "rdx"
      refine ixt_nat (j := 3) (sqt_of j1) rfl ?_
      refine ⟨_, rfl, ite2 (fun e => yes _ _ ?_ (Same.refl _)) (fun e => no _ ?_ (Same.refl _))⟩
      · rw [hp, Option.bind_some, if_pos (of_decide_eq_true e)]
      · rw [hp, Option.bind_some, if_neg (by simpa using e)]
    intro H1 D s1 hD fD
    rw [List.length_map, range_sel] at fD
    have e3 : (M.filterMap fun p => if ((p.2.rk : Nat) : Int) ≤ ((t : Nat) : Int) then some (V.ref p.1) else none) = (M.filter fun p => decide (((p.2.rk : Nat) : Int) ≤ ((t : Nat) : Int))).map fun p => V.ref p.1 := by
      clear fD e2 k lx fx hx
      induction M with
      | nil => rfl
      | cons p M ih =>
        rw [List.filterMap_cons, List.filter_cons]
        by_cases h : ((p.2.rk : Nat) : Int) ≤ ((t : Nat) : Int)
        · rw [if_pos h, if_pos (decide_eq_true h), ih]
          rfl
        · rw [if_neg h, if_neg (by simpa using h), ih]
    rw [e3] at fD
    have e4 : usableC l.cv t = (M.filter fun p => decide (((p.2.rk : Nat) : Int) ≤ ((t : Nat) : Int))).map (·.2) := by
      unfold usableC
      rw [e2, List.filter_map]
      rfl
    refine q D H1 s1 ?_
    rw [e4]
    exact cvl_of fD fun p hp => cvA.same (k p (List.mem_filter.mp hp).1) s1
end

local macro_rules | `(tactic| walk_at "rdx") => `(tactic| ((try simp only [tFld, gTup, gStar, tJs, tFmt, sFld, tSc_eq, tDGet, tDisp1N, sDPutN, tDGetN, tKeepX, tPar3, tFor_eq]); try walk_at "rd"))
section
variable {w : World} {K : PySem.W.Frag} {mg : Str → Option Value} {base : Heap}
theorem inV3_nat {n : Nat} {hi : Int} (h : (n : Int) ≤ hi) (h2 : hi ≤ 100) : inV3 (V.int (n : Nat)) 0 hi = true := by
  have e : intV (V.int (n : Nat)) = true := by
    rw [intV, if_neg (by omega)]
    exact decide_eq_true (Int.lt_of_le_of_lt (Int.le_trans h h2) (by decide +kernel))
  rw [inV3, e, decide_eq_true (show (0 : Int) ≤ (n : Nat) by omega), decide_eq_true h]
  rfl
theorem within_ok {n : Nat} {hi : Int} {H : Hp} {Q : VK} {E : XK} (h : (n : Int) ≤ hi) (h2 : hi ≤ 100) (q : Q (.bl true) H) : sp_within [V.int (n : Nat), V.int 0, V.int hi] H Q E :=
  ⟨_, _, 0, hi, rfl, .int _, by rw [inV3_nat h h2]; exact q⟩
def tooMany (H : Hp) (dd : Addr) : Prop := H dd = some (.xd [(Str.ofString "limit", .int 2000)])
def spx_found (K : PySem.W.Frag) (CT CL CC : Addr) : Sp := fun vs H Q E => ∃ (a b : Addr) (l : Lb) (g : List Str) (n t : Nat), vs = [.ref a, .ref b, .int (n : Nat), .int (t : Nat)] ∧ LbR K CL CC H a l ∧ NsA H b g ∧ OvIs H l (some 400) (.ref b) true ∧ n ≤ 20 ∧ t ≤ 9 ∧ g ≠ [] ∧ g.length ≤ 401 ∧
  (∀ G : List (List Str), G.Nodup → G.length = 2001 → (∀ x ∈ G, Rc (usableC l.cv t) g n x) → ∀ H' dd, Same H H' → tooMany H' dd → E (.ref CT) (some dd) H') ∧
  (∀ F : List (List Str), F.Nodup → (∀ x, x ∈ F ↔ Rc (usableC l.cv t) g n x) → F.length ≤ 2000 → ∀ p H', Same H H' → RwA H' p (sortG F) → Q (.ref p) H')
theorem free_of {H H' : Hp} {a : Addr} (s : Same H H') (h : H' a = none) : H a = none := by
  cases e : H a with
  | none => rfl
  | some o =>
    rw [s _ _ e] at h
    cases h
structure OutH (P : Program) (w : World) (K : PySem.W.Frag) (H0 : Hp) (cv f ly : Addr) (U : List Cv) (g : List Str) (i : Nat) (H : Hp) : Prop where
  s : Same H0 H
  hf : H0 f = none
  cvF : CvL H cv U
  ex : ∃ (M : Fnd) (xs : List (List Str × Addr)), DnA P w K H f M ∧ LsN H ly xs ∧ LayI 2000 U g i (M.map (·.1)) (xs.map (·.1))
def inv_out (P : Program) (w : World) (K : PySem.W.Frag) (a b : Addr) (n t : Nat) (cv f : Addr) (U : List Cv) (g : List Str) (H0 : Hp) : Nat → L2.St → Hp → Prop := fun i σ H =>
  ∃ (ly : Addr) (x7 x8 x9 x10 x11 : Option V), σ = [some (.ref a), some (.ref b), some (.int (n : Nat)), some (.int (t : Nat)), some (.ref cv), some (.ref f), some (.ref ly), x7, x8, x9, x10, x11] ∧ OutH P w K H0 cv f ly U g i H
def inv_mid (P : Program) (w : World) (K : PySem.W.Frag) (a b : Addr) (n t i : Int) (cv f ly lt : Addr) (U : List Cv) (F0 : List (List Str)) (xs : List (List Str × Addr)) (H0 : Hp) : Nat → L2.St → Hp → Prop := fun j σ H =>
  (∃ (x9 x10 x11 : Option V), σ = [some (.ref a), some (.ref b), some (.int n), some (.int t), some (.ref cv), some (.ref f), some (.ref ly), some (.int i), some (.ref lt), x9, x10, x11]) ∧ ∃ (M : Fnd) (N : List (List Str × Addr)), InH P w K H0 cv f ly lt U xs H M N ∧ MidI 2000 U F0 (xs.map (·.1)) j (M.map (·.1)) (N.map (·.1))
/-- what the conversions make of one -/
structure AftH (U : List Cv) (one : List Str) (D : Addr) (ys : List V) (H : Hp) : Prop where
  at_ : H D = some (.lst ys)
  ly : ys.length = U.length
  ov : ∀ (k : Nat) y, ys[k]? = some y → ∃ c, U[k]? = some c ∧ OptT H (stepC c one) y
theorem AftH.same {U : List Cv} {one : List Str} {D : Addr} {ys : List V} {H H' : Hp} (h : AftH U one D ys H) (s : Same H H') : AftH U one D ys H' := ⟨s _ _ h.at_, h.ly, fun k y e => by
  obtain ⟨c, e1, e2⟩ := h.ov k y e
  refine ⟨c, e1, ?_⟩
  cases q : stepC c one with
  | none => rw [q] at e2; exact e2
  | some us => rw [q] at e2; obtain ⟨b, e3, hb⟩ := e2; exact ⟨b, e3, s _ _ hb⟩⟩
theorem AftH.upd_ {U : List Cv} {one : List Str} {D q : Addr} {ys : List V} {H : Hp} {o : HO} (h : AftH U one D ys H) (n : D ≠ q) (s : SmT H (upd H q o)) : AftH U one D ys (upd H q o) := ⟨by rw [upd_ne n]; exact h.at_, h.ly, fun k y e => by
  obtain ⟨c, e1, e2⟩ := h.ov k y e
  refine ⟨c, e1, ?_⟩
  cases q : stepC c one with
  | none => rw [q] at e2; exact e2
  | some us => rw [q] at e2; obtain ⟨b, e3, hb⟩ := e2; exact ⟨b, e3, s _ _ hb⟩⟩
def inv_in (P : Program) (w : World) (K : PySem.W.Frag) (a b : Addr) (n t i : Int) (cv f ly lt D : Addr) (ys : List V) (U : List Cv) (F0 : List (List Str)) (xs : List (List Str × Addr)) (j : Nat) (one : List Str) (H0 : Hp) : Nat → L2.St → Hp → Prop := fun k σ H =>
  (∃ (x9 x10 x11 : Option V), σ = [some (.ref a), some (.ref b), some (.int n), some (.int t), some (.ref cv), some (.ref f), some (.ref ly), some (.int i), some (.ref lt), x9, x10, x11]) ∧ D ≠ lt ∧ AftH U one D ys H ∧ ∃ (M : Fnd) (N : List (List Str × Addr)), InH P w K H0 cv f ly lt U xs H M N ∧ InI 2000 U U F0 (xs.map (·.1)) j one k (M.map (·.1)) (N.map (·.1))
theorem optT_smt {H H' : Hp} {o : Option (List Str)} {v : V} (s : SmT H H') (h : OptT H o v) : OptT H' o v := by
  cases o with
  | none => exact h
  | some us => obtain ⟨b, e, hb⟩ := h; exact ⟨b, e, s _ _ hb⟩
theorem ne_free {H : Hp} {p q : Addr} {o : HO} (h : H p = some o) (n : H q = none) : q ≠ p := by
  rintro rfl
  rw [n] at h
  cases h
theorem sm_2000 : Sm (.int 2000) := ⟨by decide +kernel, by decide +kernel, by decide +kernel, fun z e => nomatch e⟩
theorem ok_found_within (T : Tx K mg) : FnG P w K mg base (L2.CX P w) 3 T.f_found_within T.d_found_within ["library", "given", "many", "most"] (spx_found K T.C_TooMany T.C_Library T.C_Candidate) := by
  refine okGX T.F_found_within sc_found_within (fun vs H Q E h => ?_) (fun cdv A outer s H vs Q E hgd hr h => ?_)
  · obtain ⟨a, b, l, g, n, t, rfl, _⟩ := h
    rfl
  · obtain ⟨a, b, l, g, n, t, rfl, hl, hb, ov, n20, t9, gne, gl, qE, q⟩ := h
    refine ⟨_, (pss_cons (ps_expr (pe_call (ok_require_library T) (hr.mono (by decide)) (by rfl) T.g_require_library T.F_require_library.kp T.b_require_library .nil (passes_call (takes_of rfl rfl rfl rfl) (fun _ _ _ _ h => h)) (pa_cons (pv 0) pa_nil)))
      (pss_cons (ps_expr (pe_call (ok_require_type T) (hr.mono (by decide)) (by rfl) T.g_require_type T.F_require_type.kp T.b_require_type .nil (passes_call (takes_of rfl rfl rfl rfl) (fun _ _ _ _ h => h)) (pa_cons (pv 0) (pa_cons (pv 1) pa_nil))))
      (pss_cons (ps_if (pt_not (pt_val (pe_call (ok_is_integer_within T) (hr.mono (by decide)) (by rfl) T.g_is_integer_within T.F_is_integer_within.kp T.b_is_integer_within .nil pass0 (pa_cons (pv 2) (pa_cons pe_int (pa_cons (pe_glob (v := .int (20)) (by rfl) T.m_MAX_STEPS ⟨_, rfl⟩) pa_nil)))))) (pss_one (ps_raise rfl (takes_of rfl rfl rfl rfl) (pmk_keep (kp_InvalidNumber T) hgd hr (pa_cons (pv 2) pa_nil) (by rfl) (by decide)))) pss_nil)
      (pss_cons (ps_if (pt_not (pt_val (pe_call (ok_is_integer_within T) (hr.mono (by decide)) (by rfl) T.g_is_integer_within T.F_is_integer_within.kp T.b_is_integer_within .nil pass0 (pa_cons (pv 3) (pa_cons pe_int (pa_cons (pe_glob (v := .int (9)) (by rfl) T.m_MAX_RANK ⟨_, rfl⟩) pa_nil)))))) (pss_one (ps_raise rfl (takes_of rfl rfl rfl rfl) (pmk_keep (kp_InvalidNumber T) hgd hr (pa_cons (pv 3) pa_nil) (by rfl) (by decide)))) pss_nil)
      (pss_cons (ps_par3 (i := 4) (j := 5) (l := 6) (by rfl) sc_found_within.nd rfl rfl rfl (by decide) (by decide) (by decide) rfl rfl rfl (pa_cons (pe_call (ok_usable T) (hr.mono (by decide)) (by rfl) T.g_usable T.F_usable.kp T.b_usable .nil pass0 (pa_cons (pv 0) (pa_cons (pv 3) pa_nil))) (pa_cons (pe_disp1N (u16 hr.units) (pv 1) pe_bl) (pa_cons (pe_lst (pa_cons (pv 1) pa_nil)) pa_nil))) (by rfl))
      (pss_cons (ps_for (passes_of rfl) rfl (pi_range1 (by rfl) T.n_range (pa_cons (pv 2) pa_nil)) (pg_name (i := 7) sc_found_within.nd rfl (Or.inl rfl)) (pss_cons (ps_set (i := 8) sc_found_within.nd rfl (Or.inl rfl) (pe_lst pa_nil))
      (pss_cons (ps_for (passes_of rfl) rfl (pi_list (pv 6)) (pg_name (i := 9) sc_found_within.nd rfl (Or.inr rfl)) (pss_one (ps_for (passes_of rfl) rfl (pi_list (pe_lc (own := [("conversion", 11)]) (g := gName 11) (by rfl) sc_found_within.nd (pi_list (pv 4)) (blkOk_by (own := [("conversion", 11)]) (N := ["library", "given", "many", "most", "conversions", "found", "layer", "turn", "later", "one", "after", "conversion"]) (sc := defScope s_found_within) (by decide +kernel)) (fun _ _ _ _ _ => (pg_name (i := 11) sc_found_within.nd rfl (Or.inl rfl))) (fun _ _ _ _ _ => pts_nil) (fun _ _ _ _ _ => (pe_call (ok_step_in T) (hr.mono (by decide)) (by rfl) T.g_step_in T.F_step_in.kp T.b_step_in .nil pass0 (pa_cons (pv 11) (pa_cons (pv 9) pa_nil)))))) (pg_name (i := 10) sc_found_within.nd rfl (Or.inl rfl)) (pss_cons (ps_if (PW.pt (pw_or (pt_cmpR op_isN (pv 10) pe_non (nomark _)) (pw_or1 (pt_cmpR (op_inDN (u16 hr.units)) (pv 10) (pv 5) (by rfl))))) (pss_one ps_continue) pss_nil)
      (pss_cons (ps_if (pt_cmpR op_eq (pe_callB call_lenDN (by rfl) T.n_len (by decide +kernel) (pa_cons (pv 5) pa_nil)) (pe_glob (v := .int (2000)) (by rfl) T.m_MAX_FOUND ⟨_, rfl⟩) (nomark _)) (pss_one (ps_raise rfl (takes_of rfl rfl rfl rfl) (pmk_keep (kp_TooMany T) hgd hr (pa_cons (pe_glob (v := .int (2000)) (by rfl) T.m_MAX_FOUND ⟨_, rfl⟩) pa_nil) (by rfl) (by decide)))) pss_nil)
      (pss_cons (ps_dputN (u16 hr.units) (pv 5) (pv 10) pe_bl rfl)
      (pss_one (ps_expr (pe_bm PySem.F.plainAttrs_list PySem.F.slot_list_append PySem.F.type_list_append mt_append (pv 8) (pa_cons (pv 10) pa_nil))))))))))
      (pss_one (ps_set (i := 6) sc_found_within.nd rfl (Or.inl rfl) (pv 8))))))
      (pss_one (ps_ret (pe_callTy call_tupL (by rfl) T.n_tuple (by decide +kernel) (pa_cons (pe_callB (cr_sortD (u16 hr.units)) (by rfl) T.n_sorted (by decide +kernel) (pa_cons (pe_callTy (cr_listDN rfl) (by rfl) T.n_list (by decide +kernel) (pa_cons (pv 5) pa_nil)) pa_nil)) pa_nil)))))))))), ?_⟩
    refine seqN fun N1 hN1 => ?_
    walk_at "rd"
    refine ⟨_, rfl, .inr ⟨⟨a, l, rfl, hl.lb⟩, hN1 _ _ ?_⟩⟩
    clear hN1
    refine seqN fun N2 hN2 => ?_
    walk_at "rd"
    refine ⟨a, l, _, true, rfl, hl.lb, ov, (fun e => nomatch e), fun _ H1 s1 => hN2 _ _ ?_⟩
    clear hN2
    refine seqN fun N3 hN3 => ?_
    walk_at "rd"
    walk_at "rdx"
    refine within_ok (by omega) (by decide) ⟨true, rfl, iteN (by decide) (hN3 _ _ ?_)⟩
    clear hN3
    refine seqN fun N4 hN4 => ?_
    walk_at "rd"
    walk_at "rdx"
    refine within_ok (by omega) (by decide) ⟨true, rfl, iteN (by decide) (hN4 _ _ ?_)⟩
    clear hN4
    refine seqN fun N5 hN5 => ?_
    walk_at "rd"
    walk_at "rdx"
    refine ⟨a, l, t, rfl, hl.same s1, fun cv H2 s2 hcv f hf => ?_⟩
    have s3 := same_new (o := DicNO P w f []) hf
    have f3 : upd H2 f (DicNO P w f []) f = some (DicNO P w f []) := upd_same
    generalize upd H2 f (DicNO P w f []) = H3 at *
    walk_at "rd"
    have s13 := s1.trans (s2.trans s3)
    have fre : H f = none := free_of (s1.trans s2) hf
    refine ⟨f3, wordsK g, ⟨nk_words (s13 _ _ hb.at_), Nat.le_trans dep_words (by decide)⟩, by decide, fun ly hly => hN5 _ _ ?_⟩
    clear hN5
    have s4 : Same H (upd H3 f (DicNO P w f [(wordsK g, b, .bl true)])) := same_upd s13 fre
    have f4 : (upd H3 f (DicNO P w f [(wordsK g, b, .bl true)])) f = some (DicNO P w f (entF [(g, b, .bl true)])) := upd_same
    have s34 := smt_ext (o := DicNO P w f [(wordsK g, b, .bl true)]) f3
    obtain ⟨cs, hcs, _⟩ := id hcv
    have cv4 := (hcv.same s3).upd_ (ext_ne f3 (s3 _ _ hcs)) s34
    generalize upd H3 f (DicNO P w f [(wordsK g, b, .bl true)]) = H4 at *
    have s5 := same_new (o := .lst [V.ref b]) hly
    have f5 : upd H4 ly (.lst [V.ref b]) ly = some (.lst [V.ref b]) := upd_same
    generalize upd H4 ly (.lst [V.ref b]) = H5 at *
    have hb5 : NsA H5 b g := (hb.same s4).same s5
    have O : OutH P w K H cv f ly (usableC l.cv t) g 0 H5 := by
      refine ⟨s4.trans s5, fre, cv4.same s5, [(g, b, .bl true)], [(g, b)], ⟨s5 _ _ f4, fun e he => ?_⟩, ⟨f5, fun e he => ?_⟩, LayI.start (by decide)⟩
      · rw [List.mem_singleton.mp he]
        exact hb5
      · rw [List.mem_singleton.mp he]
        exact hb5
    have okU : ∀ c ∈ usableC l.cv t, cvOk c = true := fun c hc => hl.ok c (List.mem_filter.mp hc).1
    have lU : (usableC l.cv t).length ≤ 16 := Nat.le_trans (List.length_filter_le ..) hl.lc
    generalize usableC l.cv t = U at *
    clear f5 f4 s5 s4 s34 hly cv4 hcv hcs s13 f3 s3 s2 s1 hf ov
    refine seqN fun N6 hN6 => ?_
    walk_at "rd"
    walk_at "rdx"
    refine ⟨by omega, by omega, forB walk_range (inv_out P w K a b n t cv f U g H) ⟨ly, _, _, _, _, _, rfl, O⟩ (fun _ _ _ _ _ => trivial) ?_ ?_⟩
    · clear O hN6
      rintro i x σ Ha Hb hi ⟨ly, x7, x8, x9, x10, x11, rfl, O⟩ ⟨rfl, rfl⟩
      obtain ⟨sA, fre, hcv, M0, xs0, fd, lsn, L⟩ := O
      refine seqN fun P1 hP1 => ?_
      walk_at "rd"
      refine ⟨by decide, fun lt hlt => hP1 _ _ ?_⟩
      clear hP1
      have sC := same_new (o := .lst []) hlt
      have fC : upd Hb lt (.lst []) lt = some (.lst []) := upd_same
      generalize upd Hb lt (.lst []) = Hc at *
      obtain ⟨cs, hcs, _⟩ := id hcv
      have I : InH P w K H cv f ly lt U xs0 Hc M0 [] := ⟨sA.trans sC, fre, free_of sA hlt, hcv.same sC, fd.same sC, lsn.same sC, ⟨fC, (fun _ h => nomatch h)⟩, (fun e => by have z := lsn.at_; rw [e, hlt] at z; cases z), (fun e => by rw [e, hlt] at hcs; cases hcs)⟩
      clear fC sC hcs hlt hcv fd lsn
      refine seqN fun P2 hP2 => ?_
      walk_at "rd"
      walk_at "rdx"
      refine ⟨⟨_, sql_of I.lyF.at_⟩, forB (walk_list (xs := xs0.map fun e => V.ref e.2)) (inv_mid P w K a b n t (0 + (i : Nat)) cv f ly lt U (M0.map (·.1)) xs0 H) ⟨⟨_, _, _, rfl⟩, M0, [], I, L.mid⟩ (fun j σ H' _ h => let ⟨_, M, N, I, _⟩ := h; sql_of I.lyF.at_) ?_ ?_⟩
      · clear I hP2
        rintro j x σ Hd He hj ⟨⟨x9, x10, x11, rfl⟩, M, N, I, MI⟩ ⟨rfl, hxj⟩
        obtain ⟨e0, he0⟩ : ∃ e, xs0[j]? = some e := ⟨_, List.getElem?_eq_getElem (by rw [List.length_map] at hj; exact hj)⟩
        rw [List.getElem?_map, he0] at hxj
        cases hxj
        have ns0 := I.lyF.ns e0 (List.mem_of_getElem? he0)
        walk_at "rd"
        walk_at "rdx"
        obtain ⟨cs, hcs, lcs, fcs⟩ := id I.cvF
        refine ⟨⟨_, sql_of hcs⟩, ?_⟩
        refine lc_mon (walk_list (xs := cs)) (fun k y H' => ∃ c, U[k]? = some c ∧ OptT H' (stepC c e0.1) y) (fun k y H1 H2 s ⟨c, e1, e2⟩ => ⟨c, e1, optT_smt s e2⟩) (sz100 (by omega)) (fun H' s => sql_of (s _ _ hcs)) ?_ mono_name mono_yes ?_
        · rintro k x Hg Hh hk sg ⟨rfl, hxk⟩ Z hZ
          obtain ⟨c, hc⟩ : ∃ c, U[k]? = some c := ⟨_, List.getElem?_eq_getElem (by omega)⟩
          obtain ⟨bc, eb, hcv⟩ := fcs k c hc
          rw [eb] at hxk
          cases hxk
          walk_at "rd"
          have nsg := ns0.same sg
          exact ⟨bc, e0.2, c, e0.1, rfl, cvA.same hcv sg, okU c (List.mem_of_getElem? hc), nsg.at_, nsg.nm, nsg.ln, fun v Hv sv ov => hZ _ _ sv ⟨c, hc, ov⟩⟩
        intro Hg D ys sg nD yl yP hD
        have nl : D ≠ lt := ne_free I.ltF.at_ nD
        have he0' : (xs0.map (·.1))[j]? = some e0.1 := by rw [List.getElem?_map, he0]; rfl
        refine ⟨D, rfl, ⟨_, sql_of hD⟩, forB (walk_list (xs := ys)) (inv_in P w K a b n t (0 + (i : Nat)) cv f ly lt D ys U (M0.map (·.1)) xs0 j e0.1 H) ⟨⟨_, _, _, rfl⟩, nl, ⟨hD, by rw [yl, lcs], yP⟩, M, N, I.same sg, MI.inn he0'⟩ (fun k σ H' _ h => let ⟨_, _, A, _⟩ := h; sql_of A.at_) ?_ ?_⟩
        · clear I MI hD nD yP sg hcs fcs ns0
          rintro k x σ Hh Hk hk ⟨⟨x9, x10, x11, rfl⟩, _, A, M, N, I, II⟩ ⟨rfl, hxk⟩
          obtain ⟨c, hc, ov⟩ := A.ov k x hxk
          walk_at "rd"
          walk_at "rdx"
          rename_i nl
          cases hs : stepC c e0.1 with
          | none =>
            rw [hs] at ov
            cases (show x = V.non from ov)
            exact iteP (by decide) ⟨⟨_, _, _, rfl⟩, nl, A, M, N, I, II.skip hc (fun _ h e => by rw [hs] at e; cases e)⟩
          | some h =>
            rw [hs] at ov
            obtain ⟨ab, rfl, hab⟩ := ov
            refine iteN (by simp) ?_
            have rc1 : Rc U g (i + 1) h := .inr ⟨e0.1, c, L.sub _ (List.mem_of_getElem? he0'), List.mem_of_getElem? hc, hs⟩
            have i20 : i < 20 := by omega
            obtain ⟨nm, lh⟩ := rc1.nm okU hb5.nm
            have nsh : NsA Hk ab h := ⟨hab, nm, by omega⟩
            have kh : KeyAt K Hk (wordsK h) ab := ⟨nk_words hab, Nat.le_trans dep_words (by decide)⟩
            refine ⟨f, entF M, wordsK h, ab, rfl, rfl, I.fdF.at_, I.fdF.key, kh, _, rfl, ?_⟩
            have eM : (atE (entF M) (wordsK h)).isSome = decide (h ∈ M.map (·.1)) := atE_F
            have lM : (entF M).length = (M.map (·.1)).length := by unfold entF; rw [List.length_map, List.length_map]
            have l2 := II.mid.le
            have l3 := II.mid.ll
            refine ite2 (fun e => ?_) (fun e => ?_)
            · have hin : h ∈ M.map (·.1) := by
                have e : (atE (entF M) (wordsK h)).isSome = true := by simpa using e
                rw [eM] at e
                exact of_decide_eq_true e
              exact ⟨⟨_, _, _, rfl⟩, nl, A, M, N, I, II.skip hc (fun _ h' e => by rw [hs] at e; cases e; exact hin)⟩
            have nin : h ∉ M.map (·.1) := by
              have e : (atE (entF M) (wordsK h)).isSome = false := by simpa using e
              rw [eM] at e
              exact of_decide_eq_false e
            refine ⟨f, entF M, rfl, I.fdF.at_, I.fdF.key, rfl, ite2 (fun e => ?_) (fun e => ?_)⟩
            · have e2 : (M.map (·.1)).length = 2000 := by
                have e := of_decide_eq_true e
                injection e with e
                omega
              obtain ⟨G, nd, lg, rc⟩ := II.over L hc (List.mem_of_getElem? hc) hs nin e2
              exact ⟨_, .flat (.int _) rfl, sm_2000, fun dd hdd => qE G nd lg (fun x hx => (rc x hx).le (by omega)) _ dd (I.s.trans (same_new hdd)) upd_same⟩
            have e2 : (M.map (·.1)).length ≠ 2000 := fun z => by
              have e := of_decide_eq_false (by simpa using e : decide (V.int ((entF M).length : Nat) = V.int 2000) = false)
              rw [lM, z] at e
              exact e rfl
            refine ⟨entF M, wordsK h, ab, rfl, I.fdF.at_, I.fdF.key, kh, sz100' (by omega), ?_⟩
            have nf := ext_ne I.fdF.at_ I.ltF.at_
            have sm1 := smt_ext (o := DicNO P w f (putE (entF M) (wordsK h) ab (.bl true))) I.fdF.at_
            have h1 : (upd Hk f (DicNO P w f (putE (entF M) (wordsK h) ab (.bl true)))) lt = some (.lst (N.map fun e => V.ref e.2)) := by rw [upd_ne nf]; exact I.ltF.at_
            have sm2 := smt_lst (o := .lst ((N.map fun e => V.ref e.2) ++ [.ref ab])) h1
            have lN : (N.map fun e => V.ref e.2).length = (N.map (·.1)).length := by rw [List.length_map, List.length_map]
            refine ⟨.inl ⟨rfl, _, sql_of h1⟩, lt, _, _, rfl, rfl, h1, sz100' (by omega), ⟨_, _, _, rfl⟩, nl, (A.upd_ (ext_ne I.fdF.at_ A.at_) sm1).upd_ nl sm2, M ++ [(h, ab, .bl true)], N ++ [(h, ab)], I.put nin nsh, ?_⟩
            rw [List.map_append, List.map_append]
            exact II.add hc (List.mem_of_getElem? hc) hs nin (by omega)
        rintro σ H' ⟨⟨x9, x10, x11, rfl⟩, nl, A, M, N, I, II⟩
        rw [A.ly] at II
        exact ⟨⟨_, _, _, rfl⟩, M, N, I, II.next fun _ h => h⟩
      rintro σ H' ⟨⟨x9, x10, x11, rfl⟩, M, N, I, MI⟩
      refine hP2 _ _ ?_
      walk_at "rd"
      rw [show (xs0.map fun e => V.ref e.2).length = (xs0.map (·.1)).length by rw [List.length_map, List.length_map]] at MI
      exact ⟨lt, _, _, _, _, _, rfl, I.s, fre, I.cvF, M, N, I.fdF, I.ltF, MI.lay L⟩
    rintro σ H' ⟨ly, x7, x8, x9, x10, x11, rfl, sA, fre, hcv, M, xs, fd, lsn, L⟩
    refine hN6 _ _ ?_
    clear hN6
    walk_at "rd"
    walk_at "rdx"
    refine ⟨f, entF M, rfl, fd.at_, fun p1 hp1 => ?_⟩
    have s1' := same_new (o := .lst ((entF M).map fun e => V.ref e.2.1)) hp1
    have f1 : upd H' p1 (.lst ((entF M).map fun e => V.ref e.2.1)) p1 = some (.lst ((entF M).map fun e => V.ref e.2.1)) := upd_same
    generalize upd H' p1 (.lst ((entF M).map fun e => V.ref e.2.1)) = H1' at *
    have ef : (entF M).map (fun e => V.ref e.2.1) = (M.map fun e => (V.ref e.2.1, dOf (wordsK e.1))).map (·.1) := by
      unfold entF
      rw [List.map_map, List.map_map]
      rfl
    have es : (M.map fun e => (V.ref e.2.1, dOf (wordsK e.1))).map (·.2) = (M.map (·.1)).map fun g => dOf (wordsK g) := by
      rw [List.map_map, List.map_map]
      rfl
    refine ⟨p1, M.map fun e => (V.ref e.2.1, dOf (wordsK e.1)), rfl, .inl (by rw [← ef]; exact sql_of f1), fun p hp => ?_, ?_, ?_, fun p2 hp2 => ?_⟩
    · obtain ⟨e, he, rfl⟩ := List.mem_map.mp hp
      exact ⟨nk_dp (nk_words (s1' _ _ (fd.ns e he).at_)), by rw [dOf_depth]; exact Nat.le_trans dep_words (by decide)⟩
    · rw [es]
      exact alikeA_words _
    · rw [es]
      exact sortable_words fun h hh => ((L.mem h).mp hh).ne okU gne
    rw [sort_map (fun e : List Str × Addr × V => dOf (wordsK e.1)) (fun e => V.ref e.2.1) M, List.map_map]
    have em : (M.mergeSort (PySem.W.dataLe false fun e : List Str × Addr × V => dOf (wordsK e.1))).map (·.1) = sortG (M.map (·.1)) := by
      refine List.map_mergeSort fun a _ b _ => ?_
      rw [PySem.W.dataLe_eq, PySem.W.dataLe_eq]
    have pm := List.mergeSort_perm M (PySem.W.dataLe false fun e : List Str × Addr × V => dOf (wordsK e.1))
    generalize M.mergeSort (PySem.W.dataLe false fun e : List Str × Addr × V => dOf (wordsK e.1)) = S at em pm ⊢
    have e5 : S.map ((fun x : V × PyData => x.1) ∘ fun e : List Str × Addr × V => (V.ref e.2.1, dOf (wordsK e.1))) = (S.map fun e => (e.1, e.2.1)).map fun e => V.ref e.2 := by rw [List.map_map]; rfl
    rw [e5]
    have s2' := same_new (o := .lst ((S.map fun e => (e.1, e.2.1)).map fun e => V.ref e.2)) hp2
    have f2 : upd H1' p2 (.lst ((S.map fun e => (e.1, e.2.1)).map fun e => V.ref e.2)) p2 = some (.lst ((S.map fun e => (e.1, e.2.1)).map fun e => V.ref e.2)) := upd_same
    generalize upd H1' p2 (.lst ((S.map fun e => (e.1, e.2.1)).map fun e => V.ref e.2)) = H2' at *
    refine tupL (sql_of f2) fun p3 hp3 => ?_
    have s3' := same_new (o := .tup ((S.map fun e => (e.1, e.2.1)).map fun e => V.ref e.2)) hp3
    have f3 : upd H2' p3 (.tup ((S.map fun e => (e.1, e.2.1)).map fun e => V.ref e.2)) p3 = some (.tup ((S.map fun e => (e.1, e.2.1)).map fun e => V.ref e.2)) := upd_same
    generalize upd H2' p3 (.tup ((S.map fun e => (e.1, e.2.1)).map fun e => V.ref e.2)) = H3' at *
    have sE := s1'.trans (s2'.trans s3')
    refine q (M.map (·.1)) L.nd L.mem L.le p3 H3' (sA.trans sE) ⟨S.map fun e => (e.1, e.2.1), f3, ?_, fun e he => ?_⟩
    · rw [← em, List.map_map]
      rfl
    · obtain ⟨e', he', rfl⟩ := List.mem_map.mp he
      exact (fd.ns e' (pm.mem_iff.mp he')).same sE
end

local macro_rules | `(tactic| walk_at "rdx") => `(tactic| ((try simp only [tFld, gTup, gStar, tJs, tFmt, sFld, tSc_eq, StX.tStar, RZ.iZipA, tCKw]); try walk_at "rd"))
theorem along_len (cvs : List Cv) : ∀ gs : List (List Str), (alongC cvs gs).length = gs.length - 1
  | [] => rfl
  | [_] => rfl
  | g :: h :: r => by
    show (alongC cvs (h :: r)).length + 1 = _
    rw [along_len cvs (h :: r)]
    rfl
theorem along_at (cvs : List Cv) : ∀ {gs : List (List Str)} {i : Nat} {g h : List Str}, gs[i]? = some g → gs[i + 1]? = some h → (alongC cvs gs)[i]? = some (rankC cvs g h)
  | g0 :: h0 :: r, 0, g, h, e1, e2 => by cases e1; cases e2; rfl
  | g0 :: h0 :: r, i + 1, g, h, e1, e2 => along_at cvs (gs := h0 :: r) (i := i) e1 e2
theorem range_optV (L : List (Option Int)) : (List.range L.length).map (fun i => optV (L[i]?.getD none)) = L.map optV := by
  apply List.ext_getElem (by simp)
  intro i h1 h2
  have h : i < L.length := by simpa using h2
  rw [List.getElem_map, List.getElem_range, List.getElem_map, List.getElem?_eq_getElem h]
  rfl
section
variable {w : World} {K : PySem.W.Frag} {mg : Str → Option Value} {base : Heap}
/-- a row of names -/
structure RowA (H : Hp) (t : Addr) (gs : List (List Str)) : Prop where
  ex : ∃ bs : List Addr, H t = some (.tup (bs.map V.ref)) ∧ bs.length = gs.length ∧ ∀ (i : Nat) g, gs[i]? = some g → ∃ b, bs[i]? = some b ∧ NsA H b g
  ln : gs.length ≤ 4000
theorem RowA.same {H H' : Hp} {t : Addr} {gs : List (List Str)} (h : RowA H t gs) (s : Same H H') : RowA H' t gs := let ⟨⟨bs, h1, h2, h3⟩, h4⟩ := h; ⟨⟨bs, s _ _ h1, h2, fun i g e => let ⟨b, e1, e2⟩ := h3 i g e; ⟨b, e1, e2.same s⟩⟩, h4⟩
def sp_ranks (K : PySem.W.Frag) (CL CC : Addr) : Sp := fun vs H Q _ => ∃ (a t : Addr) (l : Lb) (gs : List (List Str)), vs = [.ref a, .ref t] ∧ LbR K CL CC H a l ∧ RowA H t gs ∧ ∀ p H', Same H H' → H' p = some (.lst ((alongC l.cv gs).map optV)) → Q (.ref p) H'
theorem ok_ranks_along (T : Tx K mg) : FnOk P w K mg base CX0 4 T.f_ranks_along T.d_ranks_along ["library", "types"] (sp_ranks K T.C_Library T.C_Candidate) := by
  refine T.F_ranks_along.ok sc_ranks_along (fun vs H Q E h => ?_) (fun cdv A outer s H vs Q E hr h => ?_)
  · obtain ⟨a, t, l, gs, rfl, _⟩ := h
    rfl
  · obtain ⟨a, t, l, gs, rfl, hl, ⟨⟨bs, ht, lb, fb⟩, ln⟩, q⟩ := h
    refine ⟨_, (pss_one (ps_ret (pe_lc (own := [("one", 2), ("other", 3)]) (g := gTup K 2 (gCons (gName 2) (gCons (gName 3) gNil))) (by rfl) sc_ranks_along.nd (RZ.pi_zipA (by rfl) T.n_zip (pa_cons (pv 1) (pa_cons (pe_slice sl_tupA (pv 1) (po_some pe_int) po_none) pa_nil))) (blkOk_by (own := [("one", 2), ("other", 3)]) (N := ["library", "types", "one", "other"]) (sc := defScope s_ranks_along) (by decide +kernel)) (fun _ _ _ _ _ => (pg_tup (n := 2) rfl (pgs_cons (pg_name (i := 2) sc_ranks_along.nd rfl (Or.inl rfl)) (pgs_cons (pg_name (i := 3) sc_ranks_along.nd rfl (Or.inl rfl)) pgs_nil)))) (fun _ _ _ _ _ => pts_nil) (fun _ _ _ _ _ => (pe_call (ok_step_rank T) (hr.mono (by decide)) (by rfl) T.g_step_rank T.F_step_rank.kp T.b_step_rank .nil pass0 (pa_cons (pv 0) (pa_cons (pv 2) (pa_cons (pv 3) pa_nil)))))))), ?_⟩
    walk_at "rd"
    simp only [RZ.iZipA]
    walk_at "rd"
    refine slT ht fun p H1 s1 hp => ⟨p, rfl, _, _, .inr ⟨sqt_of (s1 _ _ ht), sqt_of hp, ?_⟩⟩
    have ec : cutV (bs.map V.ref) (some 1) none = (bs.drop 1).map V.ref := by
      rw [List.map_drop]
      exact cut_from (xs := bs.map V.ref) 1
    rw [ec] at hp
    have al := along_len l.cv gs
    refine lc_same (walk_zipT (xs := bs.map V.ref) (ys := (bs.drop 1).map V.ref) (n := (alongC l.cv gs).length) (by rw [List.length_map, List.length_map, List.length_drop, al, lb]; omega)) (fun i => optV ((alongC l.cv gs)[i]?.getD none)) (sz100 (by omega)) (fun H' s => ⟨sqt_of (s _ _ (s1 _ _ ht)), sqt_of (s _ _ hp)⟩) ?_ mono_pair mono_yes ?_
    · rintro i x Ha Hb hi sa ⟨T', x', y', rfl, hT', rfl, hx, hy⟩ R hR
      have hx : (bs.map V.ref)[i]? = some x' := hx
      have hy : ((bs.drop 1).map V.ref)[i]? = some y' := hy
      have i1 : i + 1 < gs.length := by omega
      obtain ⟨b1, e1, n1⟩ := fb i _ (List.getElem?_eq_getElem (by omega))
      obtain ⟨b2, e2, n2⟩ := fb (i + 1) _ (List.getElem?_eq_getElem i1)
      rw [List.getElem?_map, e1] at hx
      rw [List.getElem?_map, List.getElem?_drop, Nat.add_comm, e2] at hy
      cases hx
      cases hy
      have sT := same_new (o := .tup [V.ref b1, V.ref b2]) hT'
      have fT : upd Ha T' (.tup [V.ref b1, V.ref b2]) T' = some (.tup [V.ref b1, V.ref b2]) := upd_same
      generalize upd Ha T' (.tup [V.ref b1, V.ref b2]) = Hc at *
      have s0 := s1.trans (sa.trans sT)
      simp only [gTup]
      walk_at "rd"
      refine ⟨_, sqt_of fT, rfl, _, _, rfl, _, _, rfl, rfl, a, b1, b2, l, _, _, rfl, hl.same s0, n1.same s0, n2.same s0, fun H' s' => ?_⟩
      have := hR H' (sT.trans s')
      rw [along_at l.cv (List.getElem?_eq_getElem (by omega)) (List.getElem?_eq_getElem i1)] at this
      exact this
    intro H2 D s2 hD fD
    rw [range_optV] at fD
    exact q D H2 (s1.trans s2) fD
end

local macro_rules | `(tactic| walk_at "rdx") => `(tactic| ((try simp only [tFld, gTup, gStar, tJs, tFmt, sFld, tSc_eq, StX.tStar, RZ.iZipA, tCKw]); try walk_at "rd"))
theorem inV_opt : ∀ L : List (Option Int), inV .non (L.map optV) = !(L.all Option.isSome)
  | [] => rfl
  | none :: L => by
    show (eqV (optV none) .non || inV .non (L.map optV)) = _
    rfl
  | some i :: L => by
    show (eqV (optV (some i)) .non || inV .non (L.map optV)) = _
    rw [inV_opt L]
    rfl
theorem flat_opt (L : List (Option Int)) : (L.map optV).all flatV = true := by
  rw [List.all_map, List.all_eq_true]
  intro o _
  cases o <;> rfl
def linkedC (cvs : List Cv) (gs : List (List Str)) : Bool := (alongC cvs gs).all Option.isSome
section
variable {w : World} {K : PySem.W.Frag} {mg : Str → Option Value} {base : Heap}
/-- whether v is a row of types over l -/
inductive LkIs (H : Hp) (l : Lb) : V → Option (List (List Str)) → Prop
  | oth {v : V} {t : String} (k : Kn H v t) (n : t ≠ "tuple") : LkIs H l v none
  | bad {a : Addr} {xs : List V} (f : Nat → Bool) (h : H a = some (.tup xs)) (z : xs.length ≤ 4000) (k : ∀ i x, xs[i]? = some x → OvIs H l none x (f i)) (b : (List.range xs.length).all f = false) : LkIs H l (.ref a) none
  | nil {a : Addr} (h : H a = some (.tup [])) : LkIs H l (.ref a) none
  | row {a : Addr} {gs : List (List Str)} (h : RowA H a gs) (ne : gs ≠ []) (ov : ∀ g ∈ gs, ovB l none (g.map V.str) = true) : LkIs H l (.ref a) (some gs)
theorem OvIs.same {H H' : Hp} {l : Lb} {m : Option Int} {v : V} {b : Bool} (h : OvIs H l m v b) (s : Same H H') : OvIs H' l m v b := by
  cases h with
  | oth k n => exact .oth (k.same s) n
  | tup h k z => exact .tup (s _ _ h) (fun x hx => let ⟨t, k⟩ := k x hx; ⟨t, k.same s⟩) z
theorem NsA.ov {H : Hp} {b : Addr} {g : List Str} {l : Lb} {m : Option Int} (h : NsA H b g) : OvIs H l m (.ref b) (ovB l m (g.map V.str)) := .tup h.at_ (fun x hx => by
  obtain ⟨z, _, rfl⟩ := List.mem_map.mp hx
  exact ⟨_, .str _⟩) (by rw [List.length_map]; exact h.ln)
def lkB (l : Lb) : Option (List (List Str)) → Bool
  | none => false
  | some gs => linkedC l.cv gs
def sp_linked (K : PySem.W.Frag) (CL CC : Addr) : Sp := fun vs H Q _ => ∃ (a : Addr) (v : V) (l : Lb) (o : Option (List (List Str))), vs = [.ref a, v] ∧ LbR K CL CC H a l ∧ LkIs H l v o ∧ ∀ H', Same H H' → Q (.bl (lkB l o)) H'
theorem ok_are_linked (T : Tx K mg) : FnOk P w K mg base CX0 5 T.f_are_linked T.d_are_linked ["library", "value"] (sp_linked K T.C_Library T.C_Candidate) := by
  obtain ⟨dsv, hdv, hbv⟩ := T.F_is_over.binds1 (ps := ["library", "value", "most"]) 2 0 (fun z => nomatch z) rfl (fun _ _ _ _ _ _ _ us its l1 l2 => match us, l1, its, l2 with | [_, _], _, [_], _ => ⟨_, rfl, rfl⟩)
  refine T.F_are_linked.ok sc_are_linked (fun vs H Q E h => ?_) (fun cdv A outer s H vs Q E hr h => ?_)
  · obtain ⟨a, v, l, o, rfl, _⟩ := h
    rfl
  · obtain ⟨a, v, l, o, rfl, hl, hk, q⟩ := h
    refine ⟨_, (pss_cons (ps_if (PW.pt (pw_or (pt_not (pt_val (pe_callB call_isi (by rfl) T.n_isinstance (by decide +kernel) (pa_cons (pv 1) (pa_cons (pe_bltn (v := .ty "tuple") (by rfl) T.n_tuple (by decide +kernel) rfl) pa_nil))))) (pw_or (pt_cmpR op_eq (pe_callB call_lenQ (by rfl) T.n_len (by decide +kernel) (pa_cons (pv 1) pa_nil)) pe_int (nomark _)) (pw_or1 (pt_not (pt_val (pe_callB (cr_all rfl) (by rfl) T.n_all (by decide +kernel) (pa_cons (pe_lc (own := [("part", 2)]) (g := gName 2) (by rfl) sc_are_linked.nd (pi_tup (pv 1)) (blkOk_by (own := [("part", 2)]) (N := ["library", "value", "part"]) (sc := defScope s_are_linked) (by decide +kernel)) (fun _ _ _ _ _ => (pg_name (i := 2) sc_are_linked.nd rfl (Or.inl rfl))) (fun _ _ _ _ _ => pts_nil) (fun _ _ _ _ _ => (pe_call (ok_is_over T) (hr.mono (by decide)) (by rfl) T.g_is_over T.F_is_over.kp hbv hdv pass0 (pa_cons (pv 0) (pa_cons (pv 2) pa_nil))))) pa_nil)))))))) (pss_one (ps_ret pe_bl)) pss_nil)
      (pss_one (ps_ret (pe_cmpR op_notIn_seq pe_non (pe_call (ok_ranks_along T) (hr.mono (by decide)) (by rfl) T.g_ranks_along T.F_ranks_along.kp T.b_ranks_along .nil pass0 (pa_cons (pv 0) (pa_cons (pv 1) pa_nil))) (by rfl))))), ?_⟩
    refine seqN fun N1 hN1 => ?_
    walk_at "rd"
    walk_at "rdx"
    have tup : ∀ (t : Addr) (xs : List V) (f : Nat → Bool), H t = some (.tup xs) → xs.length ≤ 4000 → xs ≠ [] → (∀ i x, xs[i]? = some x → OvIs H l none x (f i)) → ((List.range xs.length).all f = false → ∀ H', Same H H' → Q (.bl false) H') → ((List.range xs.length).all f = true → ∀ H', Same H H' → N1 [some (.ref a), some (.ref t), none] H') →
        rLenQ K [.ref t] H fun x H1 => scal x (V.int 0) = true ∧ if decide (x = V.int 0) = true then Q (V.bl false) H1 else
          ∃ a_1, V.ref t = V.ref a_1 ∧ (∃ xs, SqT K H1 a_1 xs) ∧ LcB (Itt K a_1) (gName 2) tYes (tCall (sp_is_over K T.C_Library T.C_Candidate) (List.drop 0 [V.non]) E0 (tCons (tVar 0) (tCons (tVar 2) tNil))) [2] [some (V.ref a), some (.ref t), none]
            (fun x H1 => rAll K [x] H1 fun x H1 => ∃ c, x = V.bl c ∧ if (!c) = true then Q (V.bl false) H1 else N1 [some (V.ref a), some (.ref t), none] H1) H1 := by
      intro t xs f ht z ne k q0 q1
      refine lenT (sqt_of ht) ⟨rfl, ?_⟩
      have lp : 1 ≤ xs.length := List.length_pos_iff.mpr ne
      rw [decide_eq_false (show ¬ V.int (xs.length : Nat) = V.int 0 from fun e => by injection e; omega)]
      refine iteF ⟨t, rfl, ⟨_, sqt_of ht⟩, ?_⟩
      refine lc_same (walk_tup (xs := xs)) (fun i => .bl (f i)) (sz100 (by omega)) (fun H' s => sqt_of (s _ _ ht)) ?_ mono_name mono_yes ?_
      · rintro i x Ha Hb hi sa ⟨rfl, hx⟩ R hR
        walk_at "rd"
        exact ⟨a, l, x, none, f i, rfl, hl.lb.same sa, (k i x hx).same sa, fun H' s' => hR H' s'⟩
      intro H1 D s1 hD fD
      have e3 : ((List.range xs.length).map fun i => V.bl (f i)) = ((List.range xs.length).map f).map V.bl := by
        rw [List.map_map]
        rfl
      rw [e3] at fD
      refine ⟨D, _, rfl, .inl (.inl fD), _, rfl, ?_⟩
      rw [List.all_map]
      cases e : (List.range xs.length).all f with
      | false => exact iteP (by simpa using e) (q0 e H1 s1)
      | true => exact iteN (by simpa using e) (q1 e H1 s1)
    cases hk with
    | oth k n => exact isi_kn k (kit_ntup k n) ⟨_, rfl, iteP rfl (q _ (Same.refl _))⟩
    | nil h =>
      walk_at "isi"
      refine ⟨_, rfl, iteN (by simp) (lenT (sqt_of h) ⟨rfl, iteP (by simp) (q _ (Same.refl _))⟩)⟩
    | @bad t xs f h z k b =>
      walk_at "isi"
      refine ⟨_, rfl, iteN (by simp) (tup t xs f h z (fun e => ?_) k (fun _ => q) (fun e => ?_))⟩
      · rw [e] at b
        cases b
      · rw [b] at e
        cases e
    | @row t gs h ne ov =>
      have h0 := h
      obtain ⟨⟨bs, ht, lb, fb⟩, ln⟩ := h
      walk_at "isi"
      refine ⟨_, rfl, iteN (by simp) (tup t (bs.map V.ref) (fun _ => true) ht (by rw [List.length_map]; omega) (fun e => ?_) (fun i x e => ?_) (fun e => ?_) (fun _ H1 s1 => ?_))⟩
      · have := List.map_eq_nil_iff.mp e
        subst this
        exact ne (List.length_eq_zero_iff.mp lb.symm)
      · have hi : i < gs.length := by
          have := (List.getElem?_eq_some_iff.mp e).1
          rw [List.length_map] at this
          omega
        obtain ⟨b, e1, n1⟩ := fb i _ (List.getElem?_eq_getElem hi)
        rw [List.getElem?_map, e1] at e
        cases e
        have := n1.ov (l := l) (m := none)
        rw [ov _ (List.getElem_mem hi)] at this
        exact this
      · simp at e
      refine hN1 _ _ ?_
      clear hN1 tup
      walk_at "rd"
      walk_at "rdx"
      refine ⟨a, t, l, gs, rfl, hl.same s1, h0.same s1, fun p H2 s2 hp => ?_⟩
      refine ⟨p, _, rfl, .inl (sql_of hp), rfl, flat_opt _, ?_⟩
      rw [inV_opt, if_pos rfl, Bool.not_not]
      exact q H2 (s1.trans s2)
def spx_is_chain (K : PySem.W.Frag) (CI CL CC : Addr) : Sp := fun vs H Q E => ∃ v u, vs = [v, u] ∧ ((NoLib K CL H v ∧ ∀ H', Same H H' → E (.ref CI) none H') ∨ ∃ a l o, v = .ref a ∧ LbR K CL CC H a l ∧ LkIs H l u o ∧ ∀ H', Same H H' → Q (.bl (lkB l o)) H')
theorem ok_is_chain (T : Tx K mg) : FnOk P w K mg base (L2.CX P w) 6 T.f_is_chain T.d_is_chain ["library", "value"] (spx_is_chain K T.C_InvalidLibrary T.C_Library T.C_Candidate) := by
  refine T.F_is_chain.okX sc_is_chain (fun vs H Q E h => ?_) (fun cdv A outer s H vs Q E hr h => ?_)
  · obtain ⟨v, u, rfl, _⟩ := h
    rfl
  · obtain ⟨v, u, rfl, h⟩ := h
    refine ⟨_, (pss_cons (ps_expr (pe_call (ok_require_library T) (hr.mono (by decide)) (by rfl) T.g_require_library T.F_require_library.kp T.b_require_library .nil (passes_call (takes_of rfl rfl rfl rfl) (fun _ _ _ _ h => h)) (pa_cons (pv 0) pa_nil)))
      (pss_one (ps_ret (pe_call (ok_are_linked T) (hr.mono (by decide)) (by rfl) T.g_are_linked T.F_are_linked.kp T.b_are_linked .nil pass0 (pa_cons (pv 0) (pa_cons (pv 1) pa_nil)))))), ?_⟩
    walk_at "rd"
    rcases h with ⟨nl, q0⟩ | ⟨a, l, o, rfl, hl, hk, q⟩
    · exact ⟨v, rfl, .inl ⟨nl, q0⟩⟩
    refine ⟨_, rfl, .inr ⟨⟨a, l, rfl, hl.lb⟩, ?_⟩⟩
    exact ⟨a, u, l, o, rfl, hl, hk, q⟩
/-- the rank of a row of types -/
def greatO : List (Option Int) → Int := fun L => match L.filterMap id with
  | [] => 0
  | n :: ms => ms.foldl max n
def spx_chain_rank (K : PySem.W.Frag) (CI CO CL CC : Addr) : Sp := fun vs H Q E => ∃ v u, vs = [v, u] ∧ ((NoLib K CL H v ∧ ∀ H', Same H H' → E (.ref CI) none H') ∨ ∃ a l o, v = .ref a ∧ LbR K CL CC H a l ∧ LkIs H l u o ∧
  (lkB l o = false → ∀ H', Same H H' → E (.ref CO) none H') ∧ ∀ gs, o = some gs → lkB l o = true → ∀ H', Same H H' → Q (.int (greatO (alongC l.cv gs))) H')
theorem some_ints : ∀ {L : List (Option Int)}, L.all Option.isSome = true → L.map optV = (L.filterMap id).map V.int
  | [], _ => rfl
  | none :: L, h => nomatch h
  | some i :: L, h => by
    rw [List.map_cons, List.filterMap_cons]
    show optV (some i) :: L.map optV = V.int i :: (L.filterMap id).map V.int
    rw [some_ints (L := L) (by simpa using h)]
    rfl
theorem ok_chain_rank (T : Tx K mg) : FnOk P w K mg base (L2.CX P w) 6 T.f_chain_rank T.d_chain_rank ["library", "chain"] (spx_chain_rank K T.C_InvalidLibrary T.C_InvalidOperation T.C_Library T.C_Candidate) := by
  refine T.F_chain_rank.okX sc_chain_rank (fun vs H Q E h => ?_) (fun cdv A outer s H vs Q E hr h => ?_)
  · obtain ⟨v, u, rfl, _⟩ := h
    rfl
  · obtain ⟨v, u, rfl, h⟩ := h
    refine ⟨_, (pss_cons (ps_expr (pe_call (ok_require_library T) (hr.mono (by decide)) (by rfl) T.g_require_library T.F_require_library.kp T.b_require_library .nil (passes_call (takes_of rfl rfl rfl rfl) (fun _ _ _ _ h => h)) (pa_cons (pv 0) pa_nil)))
      (pss_cons (ps_if (pt_not (pt_val (pe_call (ok_are_linked T) (hr.mono (by decide)) (by rfl) T.g_are_linked T.F_are_linked.kp T.b_are_linked .nil pass0 (pa_cons (pv 0) (pa_cons (pv 1) pa_nil))))) (pss_one (ps_raise rfl (takes_of rfl rfl rfl rfl) (pmk_own PySem.F.excBase_ValueError T.x_InvalidOperation.ex T.x_InvalidOperation.g T.x_InvalidOperation.kp (raises_own T.x_InvalidOperation.sb T.x_InvalidOperation.ty) (by rfl)))) pss_nil)
      (pss_one (ps_ret (pe_callBK (cr_maxD rfl hr.units) (by rfl) T.n_max (by decide +kernel) (pa_cons (pe_call (ok_ranks_along T) (hr.mono (by decide)) (by rfl) T.g_ranks_along T.F_ranks_along.kp T.b_ranks_along .nil pass0 (pa_cons (pv 0) (pa_cons (pv 1) pa_nil))) pa_nil) (pk_cons pe_int pk_nil)))))), ?_⟩
    walk_at "rd"
    rcases h with ⟨nl, q0⟩ | ⟨a, l, o, rfl, hl, hk, q0, q⟩
    · exact ⟨v, rfl, .inl ⟨nl, q0⟩⟩
    refine ⟨_, rfl, .inr ⟨⟨a, l, rfl, hl.lb⟩, ?_⟩⟩
    refine ⟨a, u, l, o, rfl, hl, hk, fun H1 s1 => ⟨_, rfl, ?_⟩⟩
    cases e : lkB l o with
    | false => exact iteP rfl (q0 e H1 s1)
    | true =>
      refine iteN (by simp) ?_
      walk_at "rdx"
      cases hk with
      | oth k n => cases e
      | bad f h z k b => cases e
      | nil h => cases e
      | @row t gs h ne ov =>
        refine ⟨a, t, l, gs, rfl, hl.same s1, h.same s1, fun p H2 s2 hp => ?_⟩
        have e : (alongC l.cv gs).all Option.isSome = true := e
        rw [some_ints e] at hp
        have hq := q gs rfl e H2 (s1.trans s2)
        unfold greatO at hq
        refine ⟨p, _, .int 0, rfl, rfl, sql_of hp, fun z => ?_, fun n ms z => ?_⟩
        · rw [z] at hq
          exact hq
        · rw [z] at hq
          exact hq
end

local macro_rules | `(tactic| walk_at "rdx") => `(tactic| ((try simp only [tFld, gTup, gStar, tJs, tFmt, sFld, tSc_eq, StX.tStar, RZ.iZipA, tCKw, tDGet]); try walk_at "rd"))
section
variable {w : World} {K : PySem.W.Frag} {mg : Str → Option Value} {base : Heap}
theorem ok_law_after (T : Tx K mg) : FnOk P w K mg base CX0 1 T.f__law_after T.d__law_after ["_law_conversion_here", "_law_names_here"] sp_step_in := by
  refine T.F__law_after.ok sc_law_after (fun vs H Q E h => ?_) (fun cdv A outer s H vs Q E hr h => ?_)
  · obtain ⟨a, b, c, g, rfl, _⟩ := h
    rfl
  · obtain ⟨a, b, c, g, rfl, ⟨l1, r1, j1, j2, j3⟩, ok, hb, nm, lg, q⟩ := h
    refine ⟨_, (pss_cons (ps_asg (pv 0) (pg_tup (n := 4) rfl (pgs_cons (pg_name (i := 2) sc_law_after.nd rfl (Or.inl rfl)) (pgs_cons (pg_name (i := 3) sc_law_after.nd rfl (Or.inl rfl)) (pgs_cons (pg_name (i := 4) sc_law_after.nd rfl (Or.inl rfl)) (pgs_cons (pg_name (i := 5) sc_law_after.nd rfl (Or.inl rfl)) pgs_nil))))))
      (pss_cons (ps_if (pt_cmpR op_eq (pv 2) pe_str (nomark _)) (pss_one (ps_ret (pe_ifExp (pt_cmpR (op_eqD hr.units) (pv 1) (pv 3) (nomark _)) (pv 4) pe_non))) pss_nil)
      (pss_cons (ps_if (PW.pt (pw_or (pt_cmpR op_le (pe_callB call_lenQ (by rfl) T.n_len (by decide +kernel) (pa_cons (pv 1) pa_nil)) (pe_callB call_lenQ (by rfl) T.n_len (by decide +kernel) (pa_cons (pv 3) pa_nil)) (nomark _)) (pw_or1 (pt_cmpR (op_neD hr.units) (pe_slice sl_tupA (pv 1) po_none (po_some (pe_callB call_lenQ (by rfl) T.n_len (by decide +kernel) (pa_cons (pv 3) pa_nil)))) (pv 3) (nomark _))))) (pss_one (ps_ret pe_non)) pss_nil)
      (pss_cons (ps_set (i := 6) sc_law_after.nd rfl (Or.inl rfl) (pe_ifExp (pt_cmpR op_eq (pv 2) pe_str (nomark _)) (pe_op op_catA (pv 4) (pe_slice sl_tupA (pv 1) (po_some (pe_callB call_lenQ (by rfl) T.n_len (by decide +kernel) (pa_cons (pv 3) pa_nil))) po_none)) (pv 4)))
      (pss_one (ps_ret (pe_ifExp (pt_cmpR (op_eqD hr.units) (pv 6) (pv 1) (nomark _)) pe_non (pv 6)))))))), ?_⟩
    refine seqN fun N1 hN1 => ?_
    walk_at "rd"
    walk_at "rdx"
    refine ⟨_, sqt_of j1, rfl, _, _, rfl, _, _, rfl, _, _, rfl, _, _, rfl, rfl, hN1 _ _ ?_⟩
    clear hN1
    obtain ⟨kd, lf, rt, rk⟩ := c
    obtain ⟨n1, n2, z1, z2, nlr, _⟩ := cv_names ok
    have j2 : H l1 = some (.tup (lf.map V.str)) := j2
    have j3 : H r1 = some (.tup (rt.map V.str)) := j3
    have n1 : ∀ w ∈ lf, isNm w = true := n1
    have n2 : ∀ w ∈ rt, isNm w = true := n2
    have p1 : ∀ w ∈ lf, Pl w := fun w hw => pl_of (n1 w hw)
    have p2 : ∀ w ∈ rt, Pl w := fun w hw => pl_of (n2 w hw)
    have pg : ∀ w ∈ g, Pl w := fun w hw => pl_of (nm w hw)
    refine seqN fun N2 hN2 => ?_
    walk_at "rd"
    walk_at "rdx"
    have rest : kd ≠ .closed → N2 [some (.ref a), some (.ref b), some (.str (wK kd)), some (.ref l1), some (.ref r1), some (.int (rk : Nat)), none] H := by
      intro nk
      refine hN2 _ _ ?_
      clear hN2
      refine seqN fun N3 hN3 => ?_
      walk_at "rd"
      walk_at "rdx"
      have hno : beginsB g lf = false → ∀ H', Same H H' → Q .non H' := fun e H' s => q _ H' s (by
        cases kd with
        | closed => exact absurd rfl nk
        | open_ => exact (show OptT H' (if beginsB g lf = true then some (rt ++ g.drop lf.length) else none) .non by rw [e]; exact (rfl : V.non = V.non))
        | drop => exact (show OptT H' (if beginsB g lf = true then (if g = rt then none else some rt) else none) .non by rw [e]; exact (rfl : V.non = V.non)))
      refine lenT (sqt_of hb) (lenT (sqt_of j2) ⟨_, rfl, _, rfl, ite2 (fun e => ?_) (fun e => ?_)⟩)
      · have e := of_decide_eq_true e
        rw [List.length_map, List.length_map] at e
        refine hno ?_ _ (Same.refl _)
        unfold beginsB
        rw [decide_eq_false]
        omega
      have e : lf.length < g.length := by
        have e : decide (((g.map V.str).length : Int) ≤ ((lf.map V.str).length : Int)) = false := by simpa using e
        have := of_decide_eq_false e
        rw [List.length_map, List.length_map] at this
        omega
      refine lenT (sqt_of j2) ⟨_, rfl, slT hb fun p3 H1 s1 hp => ?_⟩
      rw [cut_to, List.length_map, ← List.map_take] at hp
      refine neT (sqt_of hp) (sqt_of (s1 _ _ j2)) (fun z hz => pg z (List.mem_of_mem_take hz)) p1 ⟨_, rfl, ite2 (fun e2 => ?_) (fun e2 => hN3 _ _ ?_)⟩
      · refine hno ?_ _ s1
        unfold beginsB
        rw [decide_eq_false]
        rintro ⟨_, e3⟩
        simp [e3] at e2
      clear hN3
      have e2 : g.take lf.length = lf := by simpa using e2
      have eb : beginsB g lf = true := by
        unfold beginsB
        exact decide_eq_true ⟨e, e2⟩
      have eg : g = lf ++ g.drop lf.length := by
        conv => lhs; rw [← List.take_append_drop lf.length g, e2]
      have hb1 := s1 _ _ hb
      refine seqN fun N4 hN4 => ?_
      have fin : ∀ (p4 : Addr) (us : List Str) (H2 : Hp), Same H H2 → H2 p4 = some (.tup (us.map V.str)) → (∀ z ∈ us, isNm z = true) → stepC ⟨kd, lf, rt, rk⟩ g = (if us = g then none else some us) → N4 [some (.ref a), some (.ref b), some (.str (wK kd)), some (.ref l1), some (.ref r1), some (.int (rk : Nat)), some (.ref p4)] H2 := by
        intro p4 us H2 s2 hp4 nu eu
        refine hN4 _ _ ?_
        walk_at "rd"
        walk_at "rdx"
        refine eqT (sqt_of hp4) (sqt_of (s2 _ _ hb)) (fun z hz => pl_of (nu z hz)) pg ⟨_, rfl, ite2 (fun e3 => q _ _ s2 ?_) (fun e3 => q _ _ s2 ?_)⟩
        · rw [eu, if_pos (of_decide_eq_true e3)]
          exact (rfl : V.non = V.non)
        · rw [eu, if_neg (by simpa using e3)]
          exact ⟨p4, rfl, hp4⟩
      clear hN4
      walk_at "rd"
      walk_at "rdx"
      cases kd with
      | closed => exact absurd rfl nk
      | open_ =>
        refine ⟨rfl, iteP (by decide) (lenT (sqt_of (s1 _ _ j2)) ⟨_, rfl, slT hb1 fun p4 H2 s2 hp4 => ?_⟩)⟩
        rw [cut_from, List.length_map, ← List.map_drop] at hp4
        have z2 : rt.length ≤ 5 := z2
        refine catT (s2 _ _ (s1 _ _ j3)) hp4 (sz100 (by simp; omega)) fun p5 H3 s3 hp5 => ?_
        rw [← List.map_append] at hp5
        refine fin p5 _ H3 (s1.trans (s2.trans s3)) hp5 (fun z hz => ?_) ?_
        · rcases List.mem_append.mp hz with hz | hz
          · exact n2 z hz
          · exact nm z (List.mem_of_mem_drop hz)
        · show (if beginsB g lf = true then some (rt ++ g.drop lf.length) else none) = _
          rw [eb, if_pos rfl, if_neg]
          intro e3
          exact nlr (fun z => nomatch z) (List.append_cancel_right (e3.trans eg)).symm
      | drop =>
        refine ⟨rfl, iteN (by decide) ?_⟩
        refine fin r1 rt H1 s1 (s1 _ _ j3) n2 ?_
        show (if beginsB g lf = true then (if g = rt then none else some rt) else none) = _
        rw [eb, if_pos rfl]
        by_cases e3 : g = rt
        · rw [if_pos e3, if_pos e3.symm]
        · rw [if_neg e3, if_neg fun h => e3 h.symm]
    cases kd with
    | closed =>
      clear hN2 rest
      refine ⟨rfl, iteP (by decide) (eqT (sqt_of hb) (sqt_of j2) pg p1 ⟨_, rfl, ?_⟩)⟩
      have hq : ∀ v, OptT H (if g = lf then some rt else none) v → Q v H := fun v h => q v H (Same.refl _) h
      refine ite2 (fun e => hq _ ?_) (fun e => hq _ ?_)
      · rw [if_pos (of_decide_eq_true e)]
        exact ⟨r1, rfl, j3⟩
      · rw [if_neg (by simpa using e)]
        rfl
    | open_ => exact ⟨rfl, iteN (by decide) (rest (fun e => nomatch e))⟩
    | drop => exact ⟨rfl, iteN (by decide) (rest (fun e => nomatch e))⟩
end

local macro_rules | `(tactic| walk_at "rdx") => `(tactic| ((try simp only [tFld, gTup, gStar, tJs, tFmt, sFld, tSc_eq, tDGet, tDisp1N, sDPutN, tDGetN, tDNewN, tPar3, tFor_eq]); try walk_at "rd"))
section
variable {w : World} {K : PySem.W.Frag} {mg : Str → Option Value} {base : Heap}
def sp_law_within (P : Program) (w : World) (K : PySem.W.Frag) : Sp := fun vs H Q _ => ∃ (d p b : Addr) (pl : Pn) (g : List Str) (n t lim : Nat), vs = [.ref p, .ref b, .int (n : Nat), .int (t : Nat), .int (lim : Nat)] ∧ PnA H d p pl ∧ PnOk pl ∧ NsA H b g ∧ n ≤ 20 ∧ 1 ≤ lim ∧ lim ≤ 400 ∧ g.length ≤ 500 ∧
  (∀ q H', Same H H' → DnA P w K H' q [] → Q (.ref q) H') ∧
  (∀ q H' M, Same H H' → DnA P w K H' q M → (M.map (·.1)).Nodup → (∀ x, x ∈ M.map (·.1) ↔ Rc (usableC pl.cv t) g n x) → M.length ≤ lim → Q (.ref q) H')
/-- the heap at the beginning of a turn -/
structure OutW (P : Program) (w : World) (K : PySem.W.Frag) (H0 : Hp) (cv f ly : Addr) (U C : List Cv) (g : List Str) (lim i : Nat) (H : Hp) : Prop where
  s : Same H0 H
  hf : H0 f = none
  cvF : CvL H cv C
  ex : ∃ (M : Fnd) (xs : List (List Str × Addr)), DnA P w K H f M ∧ LsN H ly xs ∧ LayI lim U g i (M.map (·.1)) (xs.map (·.1))
def inv_outW (P : Program) (w : World) (K : PySem.W.Frag) (p b : Addr) (n t l : Int) (cv f : Addr) (U C : List Cv) (g : List Str) (lim : Nat) (H0 : Hp) : Nat → L2.St → Hp → Prop := fun i σ H =>
  ∃ (ly : Addr) (x7 x8 x9 x10 x11 : Option V), σ = [some (.ref p), some (.ref b), some (.int n), some (.int t), some (.int l), some (.ref f), some (.ref ly), x7, x8, x9, x10, x11] ∧ OutW P w K H0 cv f ly U C g lim i H
def inv_midW (P : Program) (w : World) (K : PySem.W.Frag) (p b : Addr) (n t l i : Int) (cv f ly lt : Addr) (U C : List Cv) (F0 : List (List Str)) (xs : List (List Str × Addr)) (lim : Nat) (H0 : Hp) : Nat → L2.St → Hp → Prop := fun j σ H =>
  (∃ (x9 x10 x11 : Option V), σ = [some (.ref p), some (.ref b), some (.int n), some (.int t), some (.int l), some (.ref f), some (.ref ly), some (.int i), some (.ref lt), x9, x10, x11]) ∧ ∃ (M : Fnd) (N : List (List Str × Addr)), InH P w K H0 cv f ly lt C xs H M N ∧ MidI (lim + 16 * j) U F0 (xs.map (·.1)) j (M.map (·.1)) (N.map (·.1))
def inv_inW (P : Program) (w : World) (K : PySem.W.Frag) (p b ob : Addr) (n t l i : Int) (cv f ly lt : Addr) (U C : List Cv) (F0 : List (List Str)) (xs : List (List Str × Addr)) (lim j : Nat) (one : List Str) (H0 : Hp) : Nat → L2.St → Hp → Prop := fun k σ H =>
  (∃ (x10 x11 : Option V), σ = [some (.ref p), some (.ref b), some (.int n), some (.int t), some (.int l), some (.ref f), some (.ref ly), some (.int i), some (.ref lt), some (.ref ob), x10, x11]) ∧ NsA H ob one ∧ ∃ (M : Fnd) (N : List (List Str × Addr)), InH P w K H0 cv f ly lt C xs H M N ∧ InI (lim + 16 * j + k) U C F0 (xs.map (·.1)) j one k (M.map (·.1)) (N.map (·.1))
theorem ok_law_within (T : Tx K mg) : FnOk P w K mg base CX0 2 T.f__law_within T.d__law_within ["_law_plain_here", "_law_start", "_law_many", "_law_top", "_law_limit"] (sp_law_within P w K) := by
  refine T.F__law_within.ok sc_law_within (fun vs H Q E h => ?_) (fun cdv A outer s H vs Q E hr h => ?_)
  · obtain ⟨d, p, b, pl, g, n, t, lim, rfl, _⟩ := h
    rfl
  · obtain ⟨d, p, b, pl, g, n, t, lim, rfl, hp, ok, hb, n20, l1, l400, gl, q0, q⟩ := h
    refine ⟨_, (pss_cons (ps_par (i := 5) (j := 6) (by rfl) sc_law_within.nd rfl rfl (by decide) rfl rfl (pa_cons (pe_disp1N (u16 hr.units) (pv 1) pe_int) (pa_cons (pe_lst (pa_cons (pv 1) pa_nil)) pa_nil)) (by rfl))
      (pss_cons (ps_for PassesOwn.never rfl (pi_range1 (by rfl) T.n_range (pa_cons (pv 2) pa_nil)) (pg_name (i := 7) sc_law_within.nd rfl (Or.inl rfl)) (pss_cons (ps_set (i := 8) sc_law_within.nd rfl (Or.inl rfl) (pe_lst pa_nil))
      (pss_cons (ps_for PassesOwn.never rfl (pi_list (pv 6)) (pg_name (i := 9) sc_law_within.nd rfl (Or.inl rfl)) (pss_one (ps_for PassesOwn.never rfl (pi_list (pe_dget (u1 hr.units) (pv 0) pe_str (fun _ _ => rfl))) (pg_name (i := 10) sc_law_within.nd rfl (Or.inl rfl)) (pss_cons (ps_set (i := 11) sc_law_within.nd rfl (Or.inl rfl) (pe_call (ok_law_after T) (hr.mono (by decide)) (by rfl) T.g__law_after T.F__law_after.kp T.b__law_after .nil pass0 (pa_cons (pv 10) (pa_cons (pv 9) pa_nil))))
      (pss_one (ps_if (PW.pt (pw_and (pt_cmpR op_le (pe_ix ix_tup (pv 10) pe_int (fun _ _ => rfl)) (pv 3) (nomark _)) (pw_and (pt_cmpR op_notN (pv 11) pe_non (nomark _)) (pw_and1 (pt_cmpR (op_notInDN (u16 hr.units)) (pv 11) (pv 5) (by rfl)))))) (pss_cons (ps_dputN (u16 hr.units) (pv 5) (pv 11) (pe_op op_add (pv 7) pe_int) rfl)
      (pss_one (ps_expr (pe_bm PySem.F.plainAttrs_list PySem.F.slot_list_append PySem.F.type_list_append mt_append (pv 8) (pa_cons (pv 11) pa_nil))))) pss_nil))))))
      (pss_cons (ps_if (pt_cmpR op_gt (pe_callB call_lenDN (by rfl) T.n_len (by decide +kernel) (pa_cons (pv 5) pa_nil)) (pv 4) (nomark _)) (pss_one (ps_ret pe_dnewN)) pss_nil)
      (pss_cons (ps_if (pt_cmpR (op_eqLE hr.units) (pv 8) (pe_lst pa_nil) (nomark _)) (pss_one (ps_ret (pv 5))) pss_nil)
      (pss_one (ps_set (i := 6) sc_law_within.nd rfl (Or.inl rfl) (pe_callTy call_list_of (by rfl) T.n_list (by decide +kernel) (pa_cons (pv 8) pa_nil)))))))))
      (pss_one (ps_ret (pv 5))))), ?_⟩
    refine seqN fun N1 hN1 => ?_
    walk_at "rd"
    walk_at "rdx"
    intro f hf
    have s3 := same_new (o := DicNO P w f []) hf
    have f3 : upd H f (DicNO P w f []) f = some (DicNO P w f []) := upd_same
    generalize upd H f (DicNO P w f []) = H3 at *
    refine ⟨f3, wordsK g, ⟨nk_words (s3 _ _ hb.at_), Nat.le_trans dep_words (by decide)⟩, by decide, fun ly hly => hN1 _ _ ?_⟩
    clear hN1
    have s4 : Same H (upd H3 f (DicNO P w f [(wordsK g, b, .int 0)])) := same_upd s3 hf
    have f4 : (upd H3 f (DicNO P w f [(wordsK g, b, .int 0)])) f = some (DicNO P w f (entF [(g, b, .int 0)])) := upd_same
    generalize upd H3 f (DicNO P w f [(wordsK g, b, .int 0)]) = H4 at *
    have s5 := same_new (o := .lst [V.ref b]) hly
    have f5 : upd H4 ly (.lst [V.ref b]) ly = some (.lst [V.ref b]) := upd_same
    generalize upd H4 ly (.lst [V.ref b]) = H5 at *
    have s45 := s4.trans s5
    have hb5 : NsA H5 b g := hb.same s45
    obtain ⟨am, ab, lc, Mc, hF⟩ := id hp
    have hcv0 : CvL H lc pl.cv := by rw [hF.ec]; exact cvl_of hF.hc hF.kc
    have O : OutW P w K H lc f ly (usableC pl.cv t) pl.cv g lim 0 H5 := by
      refine ⟨s45, hf, hcv0.same s45, [(g, b, .int 0)], [(g, b)], ⟨s5 _ _ f4, fun e he => ?_⟩, ⟨f5, fun e he => ?_⟩, LayI.start l1⟩
      · rw [List.mem_singleton.mp he]
        exact hb5
      · rw [List.mem_singleton.mp he]
        exact hb5
    have okU : ∀ c ∈ usableC pl.cv t, cvOk c = true := fun c hc => (ok.cv c (List.mem_filter.mp hc).1).1
    have uc : ∀ c ∈ usableC pl.cv t, c ∈ pl.cv := fun c hc => (List.mem_filter.mp hc).1
    have cu : ∀ c ∈ pl.cv, ((c.rk : Nat) : Int) ≤ ((t : Nat) : Int) → c ∈ usableC pl.cv t := fun c hc e => List.mem_filter.mpr ⟨hc, decide_eq_true e⟩
    have cun : ∀ c ∈ usableC pl.cv t, ((c.rk : Nat) : Int) ≤ ((t : Nat) : Int) := fun c hc => of_decide_eq_true (List.mem_filter.mp hc).2
    have lC := ok.lc
    generalize usableC pl.cv t = U at *
    clear f5 f4 s5 s4 hly f3 s3
    refine seqN fun N2 hN2 => ?_
    walk_at "rd"
    walk_at "rdx"
    refine ⟨by omega, by omega, forB walk_range (inv_outW P w K p b n t lim lc f U pl.cv g lim H) ⟨ly, _, _, _, _, _, rfl, O⟩ (fun _ _ _ _ _ => trivial) ?_ ?_⟩
    · clear O hN2
      rintro i x σ Ha Hb hi ⟨ly, x7, x8, x9, x10, x11, rfl, O⟩ ⟨rfl, rfl⟩
      obtain ⟨sA, fre, hcv, M0, xs0, fd, lsn, L⟩ := O
      refine seqN fun P1 hP1 => ?_
      walk_at "rd"
      refine ⟨by decide, fun lt hlt => hP1 _ _ ?_⟩
      clear hP1
      have sC := same_new (o := .lst []) hlt
      have fC : upd Hb lt (.lst []) lt = some (.lst []) := upd_same
      generalize upd Hb lt (.lst []) = Hc at *
      obtain ⟨cs, hcs, _⟩ := id hcv
      have I : InH P w K H lc f ly lt pl.cv xs0 Hc M0 [] := ⟨sA.trans sC, fre, free_of sA hlt, hcv.same sC, fd.same sC, lsn.same sC, ⟨fC, (fun _ h => nomatch h)⟩, (fun e => by have z := lsn.at_; rw [e, hlt] at z; cases z), (fun e => by rw [e, hlt] at hcs; cases hcs)⟩
      clear fC sC hcs hlt hcv fd lsn
      refine seqN fun P2 hP2 => ?_
      walk_at "rd"
      walk_at "rdx"
      refine ⟨⟨_, sql_of I.lyF.at_⟩, forB (walk_list (xs := xs0.map fun e => V.ref e.2)) (inv_midW P w K p b n t lim (0 + (i : Nat)) lc f ly lt U pl.cv (M0.map (·.1)) xs0 lim H) ⟨⟨_, _, _, rfl⟩, M0, [], I, L.mid⟩ (fun j σ H' _ h => let ⟨_, M, N, I, _⟩ := h; sql_of I.lyF.at_) ?_ ?_⟩
      · clear I hP2
        rintro j x σ Hd He hj ⟨⟨x9, x10, x11, rfl⟩, M, N, I, MI⟩ ⟨rfl, hxj⟩
        obtain ⟨e0, he0⟩ : ∃ e, xs0[j]? = some e := ⟨_, List.getElem?_eq_getElem (by rw [List.length_map] at hj; exact hj)⟩
        rw [List.getElem?_map, he0] at hxj
        cases hxj
        have ns0 := I.lyF.ns e0 (List.mem_of_getElem? he0)
        have he0' : (xs0.map (·.1))[j]? = some e0.1 := by rw [List.getElem?_map, he0]; rfl
        walk_at "rd"
        walk_at "rdx"
        refine ⟨_, DGet.k (k := keyC) (I.s _ _ hF.at_), lc, rfl, ⟨_, sql_of (I.s _ _ hF.hc)⟩, forB (walk_list (xs := Mc.map fun p => V.ref p.1)) (inv_inW P w K p b e0.2 n t lim (0 + (i : Nat)) lc f ly lt U pl.cv (M0.map (·.1)) xs0 lim j e0.1 H) ⟨⟨_, _, rfl⟩, ns0, M, N, I, MI.inn he0'⟩ (fun k σ H' _ h => let ⟨_, _, _, _, I, _⟩ := h; sql_of (I.s _ _ hF.hc)) ?_ ?_⟩
        · clear I MI ns0
          rintro k x σ Hh Hk hk ⟨⟨x10, x11, rfl⟩, ns0, M, N, I, II⟩ ⟨rfl, hxk⟩
          obtain ⟨⟨bc, c⟩, hc0⟩ : ∃ e, Mc[k]? = some e := ⟨_, List.getElem?_eq_getElem (by rw [List.length_map] at hk; exact hk)⟩
          rw [List.getElem?_map, hc0] at hxk
          cases hxk
          have hc : pl.cv[k]? = some c := by rw [hF.ec, List.getElem?_map, hc0]; rfl
          have hcm := List.mem_of_getElem? hc
          have hcv := cvA.same (hF.kc _ (List.mem_of_getElem? hc0)) I.s
          walk_at "rd"
          walk_at "rdx"
          refine ⟨bc, e0.2, c, e0.1, rfl, hcv, (ok.cv c hcm).1, ns0.at_, ns0.nm, ns0.ln, fun v Hl sv ov => ?_⟩
          have I := I.same sv
          have ns0 := ns0.same sv
          obtain ⟨l1', r1', j1, j2, j3⟩ := cvA.same hcv sv
          refine ixt_nat (j := 3) (sqt_of j1) rfl ⟨_, rfl, ?_⟩
          have sk : (c ∈ U → ∀ h, stepC c e0.1 = some h → h ∈ M.map (·.1)) → InI (lim + 16 * j + (k + 1)) U pl.cv (M0.map (·.1)) (xs0.map (·.1)) j e0.1 (k + 1) (M.map (·.1)) (N.map (·.1)) := fun z => (II.skip hc z).mono (by omega)
          refine ite2 (fun e => ?_) (fun e => ?_)
          rotate_left
          · exact ⟨⟨_, _, rfl⟩, ns0, M, N, I, sk fun u => absurd (decide_eq_true (cun c u)) e⟩
          have cU : c ∈ U := cu c hcm (of_decide_eq_true e)
          cases hs : stepC c e0.1 with
          | none =>
            rw [hs] at ov
            cases (show v = V.non from ov)
            exact iteN (by decide) ⟨⟨_, _, rfl⟩, ns0, M, N, I, sk fun _ h e => by rw [hs] at e; cases e⟩
          | some h =>
            rw [hs] at ov
            obtain ⟨ab, rfl, hab⟩ := ov
            refine iteP (by simp) ?_
            have rc1 : Rc U g (i + 1) h := .inr ⟨e0.1, c, L.sub _ (List.mem_of_getElem? he0'), cU, hs⟩
            have i20 : i < 20 := by omega
            obtain ⟨nm, lh⟩ := rc1.nm okU hb5.nm
            have nsh : NsA Hl ab h := ⟨hab, nm, by omega⟩
            have kh : KeyAt K Hl (wordsK h) ab := ⟨nk_words hab, Nat.le_trans dep_words (by decide)⟩
            refine ⟨f, entF M, wordsK h, ab, rfl, rfl, I.fdF.at_, I.fdF.key, kh, _, rfl, ?_⟩
            have eM : (atE (entF M) (wordsK h)).isSome = decide (h ∈ M.map (·.1)) := atE_F
            have lM : (entF M).length = (M.map (·.1)).length := by unfold entF; rw [List.length_map, List.length_map]
            have l2 := II.mid.le
            have l3 := II.mid.ll
            have lk : k < 16 := by
              have := (List.getElem?_eq_some_iff.mp hc).1
              omega
            have lj : j < 400 := by
              have := (List.getElem?_eq_some_iff.mp he0').1
              have := L.ll
              omega
            refine ite2 (fun e => ?_) (fun e => ?_)
            rotate_left
            · have hin : h ∈ M.map (·.1) := by
                have e : (atE (entF M) (wordsK h)).isSome = true := by
                  cases z : (atE (entF M) (wordsK h)).isSome with
                  | true => rfl
                  | false => rw [z] at e; exact absurd rfl e
                rw [eM] at e
                exact of_decide_eq_true e
              exact ⟨⟨_, _, rfl⟩, ns0, M, N, I, sk fun _ h' e => by rw [hs] at e; cases e; exact hin⟩
            have nin : h ∉ M.map (·.1) := by
              have e : (atE (entF M) (wordsK h)).isSome = false := by simpa using e
              rw [eM] at e
              exact of_decide_eq_false e
            refine ⟨entF M, wordsK h, ab, rfl, I.fdF.at_, I.fdF.key, kh, sz100' (by omega), ?_⟩
            have nf := ext_ne I.fdF.at_ I.ltF.at_
            have sm1 := smt_ext (o := DicNO P w f (putE (entF M) (wordsK h) ab (.int (0 + (i : Nat) + 1)))) I.fdF.at_
            have h1 : (upd Hl f (DicNO P w f (putE (entF M) (wordsK h) ab (.int (0 + (i : Nat) + 1))))) lt = some (.lst (N.map fun e => V.ref e.2)) := by rw [upd_ne nf]; exact I.ltF.at_
            have sm2 := smt_lst (o := .lst ((N.map fun e => V.ref e.2) ++ [.ref ab])) h1
            have lN : (N.map fun e => V.ref e.2).length = (N.map (·.1)).length := by rw [List.length_map, List.length_map]
            refine ⟨.inl ⟨rfl, _, sql_of h1⟩, lt, _, _, rfl, rfl, h1, sz100' (by omega), ⟨_, _, rfl⟩, (ns0.smt sm1).smt sm2, M ++ [(h, ab, .int (0 + (i : Nat) + 1))], N ++ [(h, ab)], I.put nin nsh, ?_⟩
            rw [List.map_append, List.map_append]
            exact II.add hc cU hs nin (by omega)
        rintro σ H' ⟨⟨x10, x11, rfl⟩, ns0, M, N, I, II⟩
        rw [show (Mc.map fun p => V.ref p.1).length = pl.cv.length by rw [hF.ec, List.length_map, List.length_map]] at II
        exact ⟨⟨_, _, _, rfl⟩, M, N, I, (II.next uc).mono (by omega)⟩
      rintro σ H' ⟨⟨x9, x10, x11, rfl⟩, M, N, I, MI⟩
      refine hP2 _ _ ?_
      clear hP2
      rw [show (xs0.map fun e => V.ref e.2).length = (xs0.map (·.1)).length by rw [List.length_map, List.length_map]] at MI
      have L' := MI.lay L
      have ll := MI.ll
      refine seqN fun P3 hP3 => ?_
      walk_at "rd"
      walk_at "rdx"
      have lM : (entF M).length = (M.map (·.1)).length := by unfold entF; rw [List.length_map, List.length_map]
      refine ⟨f, entF M, rfl, I.fdF.at_, I.fdF.key, _, rfl, ite2 (fun e p1 hp1 => ?_) (fun e => hP3 _ _ ?_)⟩
      · skip
        have s1' := same_new (o := DicNO P w p1 []) hp1
        have f1 : upd H' p1 (DicNO P w p1 []) p1 = some (DicNO P w p1 []) := upd_same
        generalize upd H' p1 (DicNO P w p1 []) = H1' at *
        exact q0 p1 H1' (I.s.trans s1') ⟨f1, fun e he => nomatch he⟩
      clear hP3
      have le : (M.map (·.1)).length ≤ lim := by
        have e := of_decide_eq_false (by simpa using e : decide (((lim : Nat) : Int) < (((entF M).length : Nat) : Int)) = false)
        omega
      have L2 : LayI lim U g (i + 1) (M.map (·.1)) (N.map (·.1)) := ⟨L'.nd, L'.mem, le, L'.sub, Nat.le_trans ll le, L'.dn⟩
      clear L' MI
      refine seqN fun P4 hP4 => ?_
      walk_at "rd"
      walk_at "rdx"
      refine ⟨by decide, fun p2 hp2 => ?_⟩
      have s2' := same_new (o := .lst []) hp2
      have f2 : upd H' p2 (.lst []) p2 = some (.lst []) := upd_same
      generalize upd H' p2 (.lst []) = H2' at *
      have I2 := I.same s2'
      refine ⟨lt, p2, _, rfl, rfl, sql_of I2.ltF.at_, sql_of f2, _, rfl, ite2 (fun e => ?_) (fun e => hP4 _ _ ?_)⟩
      · have nz : N = [] := by
          cases N with
          | nil => rfl
          | cons _ _ => cases e
        subst nz
        exact q f H2' M I2.s I2.fdF L2.nd (fun x => LayI.all L2 (by omega)) (by rw [List.length_map] at le; exact le)
      clear hP4
      walk_at "rd"
      walk_at "rdx"
      refine ⟨_, .inl (sql_of I2.ltF.at_), fun p3 hp3 => ?_⟩
      have s3' := same_new (o := .lst (N.map fun e => V.ref e.2)) hp3
      have f3 : upd H2' p3 (.lst (N.map fun e => V.ref e.2)) p3 = some (.lst (N.map fun e => V.ref e.2)) := upd_same
      generalize upd H2' p3 (.lst (N.map fun e => V.ref e.2)) = H3' at *
      have I3 := I2.same s3'
      exact ⟨p3, _, _, _, _, _, rfl, I3.s, fre, I3.cvF, M, N, I3.fdF, ⟨f3, I3.ltF.ns⟩, L2⟩
    rintro σ H' ⟨ly, x7, x8, x9, x10, x11, rfl, sA, fre, hcv, M, xs, fd, lsn, L⟩
    refine hN2 _ _ ?_
    walk_at "rd"
    exact q f H' M sA fd L.nd L.mem (by have := L.le; rw [List.length_map] at this; exact this)
end

section
variable {w : World} {K : PySem.W.Frag} {mg : Str → Option Value} {base : Heap}
theorem SmX.gt {T : List (Addr × Str)} {d : Addr} {H H' : Hp} (g : Gt T d H H') : SmX H H' := fun b o n1 n2 h => g.keep b o (fun e => by
  obtain ⟨x, y, z, hd⟩ := g.pre
  rw [e, hd] at h
  cases h
  exact n1 _ rfl) n2 h
theorem sqt_smx {H H' : Hp} {p : Addr} {xs : List V} (st : SmX H H') (h : SqT K H p xs) : SqT K H' p xs := by
  rcases h with (h | ⟨u, h⟩) | h
  · exact .inl (.inl (st _ _ (fun _ e => nomatch e) (fun _ e => nomatch e) h))
  · exact .inl (.inr ⟨u, st _ _ (fun _ e => nomatch e) (fun _ e => nomatch e) h⟩)
  · exact .inr h
theorem LbA.smx {CL CC a : Addr} {H H' : Hp} {l : Lb} (st : SmX H H') (h : LbA K CL CC H a l) : LbA K CL CC H' a l := by
  obtain ⟨dx, am, ab, ac, ad, fs, k⟩ := h
  refine ⟨dx, am, ab, ac, ad, fs, st _ _ (fun _ e => nomatch e) (fun _ e => nomatch e) k.at_, k.f1, k.f2, k.f3, k.f4, k.f5, k.f6, st.smt _ _ k.hm, st.smt _ _ k.hb, ?_, ?_⟩
  · obtain ⟨xs, h1, h2, h3⟩ := k.hc
    exact ⟨xs, sqt_smx st h1, h2, fun i c e => let ⟨b, e1, e2⟩ := h3 i c e; ⟨b, e1, cvA.smt st.smt e2⟩⟩
  · obtain ⟨xs, h1, h2, h3⟩ := k.hd
    exact ⟨xs, sqt_smx st h1, h2, fun i c e => let ⟨b, e1, e2⟩ := h3 i c e; ⟨b, e1, e2.smx st⟩⟩
theorem PnA.gt {T : List (Addr × Str)} {d a : Addr} {pl : Pn} {H H' : Hp} (h : PnA H d a pl) (g : Gt T d H H') : PnA H' d a pl := by
  obtain ⟨am, ab, lc, M, hf⟩ := h
  have st := SmX.gt g
  exact ⟨am, ab, lc, M, st _ _ (fun _ e => nomatch e) (fun _ e => nomatch e) hf.at_, hf.nc, st.smt _ _ hf.hm, st.smt _ _ hf.hb, g.keep _ _ hf.nc (fun _ e => nomatch e) hf.hc, hf.ec, fun p hp => cvA.smt st.smt (hf.kc p hp)⟩
theorem PnA.ext {d a : Addr} {pl : Pn} {H H' : Hp} (h : PnA H d a pl) (g : LamX.ExtN H H') : PnA H' d a pl := by
  obtain ⟨am, ab, lc, M, hf⟩ := h
  have st : SmT H H' := fun b xs e => g _ _ e fun _ z => nomatch z
  exact ⟨am, ab, lc, M, g _ _ hf.at_ (fun _ e => nomatch e), hf.nc, st _ _ hf.hm, st _ _ hf.hb, g _ _ hf.hc (fun _ e => nomatch e), hf.ec, fun p hp => cvA.smt st (hf.kc p hp)⟩
theorem ov_ty {l : Lb} {ws : List Str} (ty : tyIn l.ms l.bs ws) (wl : ws.length ≤ 401) : ovB l (some 400) (ws.map V.str) = true := by
  obtain ⟨xs, z, rfl, h1, h2⟩ := ty
  rw [List.length_append, List.length_singleton] at wl
  unfold ovB
  have e1 : ((xs ++ [z]).map V.str).isEmpty = false := by simp
  have e2 : ovM (some 400) ((xs ++ [z]).map V.str).length = false := by
    show decide ((400 : Int) + 1 < _) = false
    rw [List.length_map, List.length_append, List.length_singleton, decide_eq_false]
    omega
  rw [e1, e2, List.map_append, List.map_cons, List.map_nil, List.getLast?_append, List.dropLast_concat]
  show (true && (true && (decide (z ∈ l.bs) && _))) = true
  rw [decide_eq_true h2, List.all_eq_true.mpr fun x hx => by
    obtain ⟨u, hu, rfl⟩ := List.mem_map.mp hx
    exact decide_eq_true (h1 u hu)]
  rfl
structure RtL (K : PySem.W.Frag) (T : List (Addr × Str)) (CL CC d a b : Addr) (pl : Pn) (H H' : Hp) : Prop where
  g : Gt T d H H'
  pa : PnA H' d a pl
  lb : LbA K CL CC H' b (libOf pl [])
theorem RtL.gt {T : List (Addr × Str)} {CL CC d a b : Addr} {pl : Pn} {H H1 H2 : Hp} (h : RtL K T CL CC d a b pl H H1) (g : Gt T d H1 H2) : RtL K T CL CC d a b pl H H2 := ⟨h.g.trans g, h.pa.gt g, h.lb.smx (SmX.gt g)⟩
theorem RtL.gr {T : List (Addr × Str)} {CL CC d a b : Addr} {pl : Pn} {H H1 H2 : Hp} (h : RtL K T CL CC d a b pl H H1) (g : Gr d H1 H2) : RtL K T CL CC d a b pl H H2 := h.gt ((Gt.refl h.g.dice h.g.tabs).gr g)
theorem RtL.same {T : List (Addr × Str)} {CL CC d a b : Addr} {pl : Pn} {H H1 H2 : Hp} (h : RtL K T CL CC d a b pl H H1) (g : Same H1 H2) : RtL K T CL CC d a b pl H H2 := h.gr (Gr.same h.g.dice g)
theorem RtL.lr {T : List (Addr × Str)} {CL CC d a b : Addr} {pl : Pn} {H H1 : Hp} (h : RtL K T CL CC d a b pl H H1) (ok : PnOk pl) : LbR K CL CC H1 b (libOf pl []) :=
  ⟨h.lb, by show (sortCv pl.cv).length ≤ 16; rw [(show (sortCv pl.cv).Perm pl.cv from List.mergeSort_perm _ _).length_eq]; exact ok.lc, fun c hc => (ok.cv c ((show (sortCv pl.cv).Perm pl.cv from List.mergeSort_perm _ _).mem_iff.mp hc)).1⟩
end

/-! ### plain law: rows of types that follow one another -/
theorem sides_within {ms bs : List Str} {it : Itm} (h : withinB ms bs it = true) {p : Bool × List Str} (hp : p ∈ sidesI it) (ok : sdOk p) : sideIn ms bs p := by
  unfold withinB at h
  rw [Bool.and_eq_true, List.all_eq_true, List.all_eq_true] at h
  obtain ⟨o, ws⟩ := p
  unfold sideIn
  cases o with
  | false =>
    have tm : ws ∈ typesOf (sidesI it) := List.mem_filterMap.mpr ⟨(false, ws), hp, rfl⟩
    have ne : ws ≠ [] := ok.2.2 rfl
    rw [if_neg (by simp)]
    refine ⟨ws.dropLast, ws.getLast ne, (List.dropLast_concat_getLast ne).symm, fun m hm => of_decide_eq_true (h.1 m ?_), of_decide_eq_true (h.2 _ ?_)⟩
    · exact List.mem_append.mpr (.inr (List.mem_flatMap.mpr ⟨ws, tm, hm⟩))
    · exact List.mem_map.mpr ⟨ws, tm, by rw [List.getLast?_eq_some_getLast ne]; rfl⟩
  | true =>
    have fm : ws ∈ frontsOf (sidesI it) := List.mem_filterMap.mpr ⟨(true, ws), hp, rfl⟩
    rw [if_pos rfl]
    exact fun m hm => of_decide_eq_true (h.1 m (List.mem_append.mpr (.inl (List.mem_flatten.mpr ⟨ws, fm, hm⟩))))
theorem step_ty {ms bs g h : List Str} {c : Cv} (ok : cvOk c = true) (wi : withinB ms bs (.cv c) = true) (ty : tyIn ms bs g) (e : stepC c g = some h) : tyIn ms bs h := by
  have sd := (sides_ok (it := .cv c) ok).2
  obtain ⟨k, lf, rt, rk⟩ := c
  have s2 := sides_within wi (p := (decide (k = .open_), rt)) (.tail _ (.head _)) (sd _ (.tail _ (.head _)))
  unfold sideIn at s2
  unfold stepC at e
  cases k with
  | closed =>
    have e : (if g = lf then some rt else none) = some h := e
    split at e
    · cases e
      rwa [if_neg (fun z => nomatch z)] at s2
    · cases e
  | drop =>
    have e : (if beginsB g lf = true then (if g = rt then none else some rt) else none) = some h := e
    split at e
    · split at e
      · cases e
      · cases e
        rwa [if_neg (fun z => nomatch z)] at s2
    · cases e
  | open_ =>
    have e : (if beginsB g lf = true then some (rt ++ g.drop lf.length) else none) = some h := e
    split at e
    · rename_i b
      cases e
      replace s2 : ∀ m ∈ rt, m ∈ ms := s2
      obtain ⟨xs, z, rfl, h1, h2⟩ := ty
      have l := (of_decide_eq_true b).1
      rw [List.length_append, List.length_singleton] at l
      refine ⟨rt ++ xs.drop lf.length, z, ?_, fun m hm => ?_, h2⟩
      · rw [List.drop_append_of_le_length (by omega), List.append_assoc]
      · rcases List.mem_append.mp hm with hm | hm
        · exact s2 m hm
        · exact h1 m (List.mem_of_mem_drop hm)
    · cases e
/-- a row in which some conversion leads from each to the next -/
def Lk (cvs : List Cv) (gs : List (List Str)) : Prop := ∀ i g h, gs[i]? = some g → gs[i + 1]? = some h → ∃ c ∈ cvs, stepC c g = some h
theorem Lk.tail {cvs : List Cv} {g : List Str} {gs : List (List Str)} (k : Lk cvs (g :: gs)) : Lk cvs gs := fun i x y e1 e2 => k (i + 1) x y e1 e2
theorem Lk.drop {cvs : List Cv} {gs : List (List Str)} (k : Lk cvs gs) (n : Nat) : Lk cvs (gs.drop n) := fun i x y e1 e2 => by
  rw [List.getElem?_drop] at e1 e2
  exact k (n + i) x y e1 e2
theorem Lk.take {cvs : List Cv} {gs : List (List Str)} (k : Lk cvs gs) (n : Nat) : Lk cvs (gs.take n) := fun i x y e1 e2 => by
  rw [List.getElem?_take] at e1 e2
  split at e1
  · split at e2
    · exact k i x y e1 e2
    · cases e2
  · cases e1
theorem Lk.more {cvs : List Cv} {gs : List (List Str)} {g h : List Str} (k : Lk cvs gs) (l : gs.getLast? = some g) (s : ∃ c ∈ cvs, stepC c g = some h) : Lk cvs (gs ++ [h]) := fun i x y e1 e2 => by
  rcases Nat.lt_trichotomy (i + 1) gs.length with c | c | c
  · rw [List.getElem?_append_left (by omega)] at e1
    rw [List.getElem?_append_left c] at e2
    exact k i x y e1 e2
  · rw [List.getElem?_append_left (by omega)] at e1
    rw [List.getElem?_append_right (by omega), show i + 1 - gs.length = 0 by omega] at e2
    cases e2
    rw [List.getLast?_eq_getElem?, show gs.length - 1 = i by omega, e1] at l
    cases l
    exact s
  · rw [List.getElem?_append_right (by omega)] at e2
    obtain ⟨k', e⟩ : ∃ k', i + 1 - gs.length = k' + 1 := ⟨i - gs.length, by omega⟩
    rw [e] at e2
    cases e2
theorem min_pos : ∀ {l : List Int} {n : Int}, 0 ≤ n → (∀ x ∈ l, 0 ≤ x) → 0 ≤ l.foldl min n
  | [], n, h, _ => h
  | x :: l, n, h, k => min_pos (l := l) (n := min n x) (by have := k x (.head _); omega) fun y hy => k y (.tail _ hy)
theorem ranks_pos {cvs : List Cv} {g h : List Str} : ∀ x ∈ ranksC cvs g h, (0 : Int) ≤ x := fun x hx => by
  obtain ⟨c, _, rfl⟩ := List.mem_map.mp hx
  exact Int.natCast_nonneg _
theorem rank_pos {cvs : List Cv} {g h : List Str} {r : Int} (e : rankC cvs g h = some r) : 0 ≤ r := by
  have k := ranks_pos (cvs := cvs) (g := g) (h := h)
  unfold rankC at e
  cases q : ranksC cvs g h with
  | nil => rw [q] at e; cases e
  | cons n l =>
    rw [q] at e k
    cases e
    exact min_pos (k n (.head _)) fun x hx => k x (.tail _ hx)
theorem rank_some {cvs : List Cv} {g h : List Str} (e : ∃ c ∈ cvs, stepC c g = some h) : (rankC cvs g h).isSome = true := by
  obtain ⟨c, hc, e⟩ := e
  have m : (c.rk : Int) ∈ ranksC cvs g h := List.mem_map.mpr ⟨c, List.mem_filter.mpr ⟨hc, decide_eq_true e⟩, rfl⟩
  unfold rankC
  cases q : ranksC cvs g h with
  | nil => rw [q] at m; cases m
  | cons n l => rfl
theorem Lk.linked {cvs : List Cv} : ∀ {gs : List (List Str)}, Lk cvs gs → linkedC cvs gs = true
  | [], _ => rfl
  | [_], _ => rfl
  | g :: h :: r, k => by
    have := Lk.linked (gs := h :: r) k.tail
    show (Option.isSome (rankC cvs g h) && (alongC cvs (h :: r)).all Option.isSome) = true
    rw [rank_some (k 0 g h rfl rfl)]
    exact this
theorem along_pos {cvs : List Cv} : ∀ {gs : List (List Str)}, ∀ x ∈ (alongC cvs gs).filterMap id, (0 : Int) ≤ x
  | [], x, h => by cases h
  | [_], x, h => by cases h
  | g :: h :: r, x, hx => by
    obtain ⟨o, ho, e⟩ := List.mem_filterMap.mp hx
    rcases List.mem_cons.mp (show o ∈ rankC cvs g h :: alongC cvs (h :: r) from ho) with q | q
    · exact rank_pos (cvs := cvs) (g := g) (h := h) (by rw [← q]; exact e)
    · exact along_pos (gs := h :: r) x (List.mem_filterMap.mpr ⟨o, q, e⟩)
def topI (l : List Int) : Int := l.foldl max 0
theorem max_out : ∀ (l : List Int) (x y : Int), l.foldl max (max x y) = max x (l.foldl max y)
  | [], _, _ => rfl
  | z :: l, x, y => by
    rw [List.foldl_cons, List.foldl_cons, Int.max_assoc, max_out l]
theorem top_app (l m : List Int) : topI (l ++ m) = max (topI l) (topI m) := by
  have n : (0 : Int) ≤ topI l := by
    unfold topI
    have := max_out l 0 0
    rw [Int.max_self] at this
    omega
  unfold topI at *
  rw [List.foldl_append]
  generalize l.foldl max 0 = x at n ⊢
  rw [← max_out, show max x 0 = x by omega]
theorem great_top {L : List (Option Int)} (h : ∀ x ∈ L.filterMap id, (0 : Int) ≤ x) : greatO L = topI (L.filterMap id) := by
  unfold greatO topI
  cases q : L.filterMap id with
  | nil => rfl
  | cons n l =>
    rw [q] at h
    rw [List.foldl_cons, show max 0 n = n by have := h n (.head _); omega]
theorem along_drop (cvs : List Cv) : ∀ (i : Nat) (gs : List (List Str)), alongC cvs (gs.drop i) = (alongC cvs gs).drop i
  | 0, gs => rfl
  | i + 1, [] => rfl
  | i + 1, [g] => by
    rw [List.drop_succ_cons, List.drop_nil]
    rfl
  | i + 1, g :: h :: r => along_drop cvs i (h :: r)
theorem along_take (cvs : List Cv) : ∀ (i : Nat) (gs : List (List Str)), alongC cvs (gs.take (i + 1)) = (alongC cvs gs).take i
  | _, [] => by simp [alongC]
  | _, [g] => by simp [alongC]
  | 0, g :: h :: r => rfl
  | i + 1, g :: h :: r => by
    have := along_take cvs i (h :: r)
    show rankC cvs g h :: alongC cvs ((h :: r).take (i + 1)) = rankC cvs g h :: (alongC cvs (h :: r)).take i
    rw [this]
/-- the rank of a row is the greater one of those of its parts -/
theorem parts (cvs : List Cv) (gs : List (List Str)) (i : Nat) : max (greatO (alongC cvs (gs.drop i))) (greatO (alongC cvs (gs.take (i + 1)))) = greatO (alongC cvs gs) := by
  rw [great_top along_pos, great_top along_pos, great_top along_pos, along_drop, along_take]
  have e : (alongC cvs gs).filterMap id = ((alongC cvs gs).take i).filterMap id ++ ((alongC cvs gs).drop i).filterMap id := by
    rw [← List.filterMap_append, List.take_append_drop]
  rw [e, top_app, Int.max_comm]
/-! ### reached by parts -/
theorem Rc.comp {U : List Cv} {g h : List Str} {n : Nat} : ∀ {m : Nat}, Rc U g (n + m) h ↔ ∃ k, Rc U g n k ∧ Rc U k m h
  | 0 => by
    constructor
    · exact fun r => ⟨h, r, rfl⟩
    · rintro ⟨k, r, e⟩
      rw [show h = k from e]
      exact r
  | m + 1 => by
    constructor
    · rintro (r | ⟨x, c, r, hc, e⟩)
      · obtain ⟨k, r1, r2⟩ := Rc.comp.mp r
        exact ⟨k, r1, .inl r2⟩
      · obtain ⟨k, r1, r2⟩ := Rc.comp.mp r
        exact ⟨k, r1, .inr ⟨x, c, r2, hc, e⟩⟩
    · rintro ⟨k, r1, r2 | ⟨x, c, r2, hc, e⟩⟩
      · exact .inl (Rc.comp.mpr ⟨k, r1, r2⟩)
      · exact .inr ⟨x, c, Rc.comp.mpr ⟨k, r1, r2⟩, hc, e⟩
theorem Rc.sub {U U' : List Cv} {g : List Str} (s : ∀ c ∈ U, c ∈ U') : ∀ {n : Nat} {h : List Str}, Rc U g n h → Rc U' g n h
  | 0, _, r => r
  | n + 1, h, .inl r => .inl (Rc.sub s r)
  | n + 1, h, .inr ⟨m, c, r, hc, e⟩ => .inr ⟨m, c, Rc.sub s r, s c hc, e⟩
theorem us_sub {cvs : List Cv} {t u : Int} (h : t ≤ u) : ∀ c ∈ usableC cvs t, c ∈ usableC cvs u := fun c hc => by
  obtain ⟨h1, h2⟩ := List.mem_filter.mp hc
  have := of_decide_eq_true h2
  exact List.mem_filter.mpr ⟨h1, decide_eq_true (by omega)⟩
theorem us_all {cvs : List Cv} (ok : ∀ c ∈ cvs, cvOk c = true) : ∀ c, c ∈ usableC cvs ((9 : Nat) : Int) ↔ c ∈ cvs := fun c => by
  unfold usableC
  rw [List.mem_filter]
  refine ⟨fun h => h.1, fun h => ⟨h, decide_eq_true ?_⟩⟩
  obtain ⟨_, _, _, _, _, _, k⟩ := cv_names (ok c h)
  omega
theorem Rc.ty {ms bs : List Str} {U : List Cv} {g : List Str} (ok : ∀ c ∈ U, cvOk c = true ∧ withinB ms bs (.cv c) = true) (ty : tyIn ms bs g) : ∀ {n : Nat} {h : List Str}, Rc U g n h → tyIn ms bs h
  | 0, h, r => by
    rw [show h = g from r]
    exact ty
  | n + 1, h, .inl r => r.ty ok ty
  | n + 1, h, .inr ⟨m, c, r, hc, e⟩ => step_ty (ok c hc).1 (ok c hc).2 (r.ty ok ty) e

local macro_rules | `(tactic| walk_at "rdx") => `(tactic| ((try simp only [tFld, gTup, gStar, tJs, tFmt, sFld, tSc_eq, StX.tStar, RZ.iZipA, tCKw, tDGet, LiI.tListItems]); try walk_at "rd"))
section
variable {w : World} {K : PySem.W.Frag} {mg : Str → Option Value} {base : Heap}
theorem sqL_same {H H' : Hp} {s : Addr} {xs : List V} (h : SqL K H s xs) (k : Same H H') : SqL K H' s xs := by
  rcases h with (h | ⟨u, h⟩) | h
  · exact .inl (.inl (k _ _ h))
  · exact .inl (.inr ⟨u, k _ _ h⟩)
  · exact .inr h
theorem PnA.same {d a : Addr} {pl : Pn} {H H' : Hp} (h : PnA H d a pl) (s : Same H H') : PnA H' d a pl := h.ext fun b o e _ => s b o e
theorem NsA.gr {d : Addr} {H H' : Hp} {b : Addr} {g : List Str} (h : NsA H b g) (s : Gr d H H') : NsA H' b g := ⟨SmT.gr s _ _ h.at_, h.nm, h.ln⟩
/-- a list of names that follow one another, being filled -/
structure LsR (H : Hp) (p : Addr) (pl : Pn) (g0 : List Str) (gs : List (List Str)) : Prop where
  ex : ∃ bs : List Addr, H p = some (.lst (bs.map V.ref)) ∧ bs.length = gs.length ∧ ∀ (i : Nat) g, gs[i]? = some g → ∃ b, bs[i]? = some b ∧ NsA H b g
  hd : gs.head? = some g0
  lk : Lk pl.cv gs
  ty : ∀ g ∈ gs, tyIn pl.ms pl.bs g ∧ g.length ≤ 95
theorem LsR.same {H H' : Hp} {p : Addr} {pl : Pn} {g0 : List Str} {gs : List (List Str)} (h : LsR H p pl g0 gs) (s : Same H H') : LsR H' p pl g0 gs := let ⟨⟨bs, h1, h2, h3⟩, h4, h5, h6⟩ := h; ⟨⟨bs, s _ _ h1, h2, fun i g e => let ⟨b, e1, e2⟩ := h3 i g e; ⟨b, e1, e2.same s⟩⟩, h4, h5, h6⟩
theorem LsR.gr {d : Addr} {H H' : Hp} {p : Addr} {pl : Pn} {g0 : List Str} {gs : List (List Str)} (h : LsR H p pl g0 gs) (s : Gr d H H') (n : p ≠ d) : LsR H' p pl g0 gs := let ⟨⟨bs, h1, h2, h3⟩, h4, h5, h6⟩ := h; ⟨⟨bs, s.keep _ _ n h1, h2, fun i g e => let ⟨b, e1, e2⟩ := h3 i g e; ⟨b, e1, e2.gr s⟩⟩, h4, h5, h6⟩
def sp_long (K : PySem.W.Frag) : Sp := fun vs H Q _ => ∃ (s a b d : Addr) (zs : List Int) (pl : Pn) (g : List Str), vs = [.ref s, .ref a, .ref b] ∧ SqL K H s (zs.map V.int) ∧ zs.length ≤ 63 ∧ PnA H d a pl ∧ PnOk pl ∧ NsA H b g ∧ tyIn pl.ms pl.bs g ∧ g.length ≤ 10 ∧
  ∀ p H' gs, Same H H' → RowA H' p gs → gs.head? = some g → Lk pl.cv gs → (∀ g ∈ gs, tyIn pl.ms pl.bs g ∧ g.length ≤ 95) → gs.length ≤ 64 → Q (.ref p) H'
def inv_long (s a b p : Addr) (pl : Pn) (g : List Str) (H : Hp) : Nat → L2.St → Hp → Prop := fun i σ H' => (∃ x4 x5, σ = [some (.ref s), some (.ref a), some (.ref b), some (.ref p), x4, x5, none, none]) ∧ Same H H' ∧ ∃ gs, LsR H' p pl g gs ∧ gs.length ≤ i + 1
theorem ok_law_long_row (T : Tx K mg) : FnOk P w K mg base CX0 3 T.f__law_long_row T.d__law_long_row ["_law_script", "_law_plain_here", "_law_start"] (sp_long K) := by
  refine T.F__law_long_row.ok sc_law_long_row (fun vs H Q E h => ?_) (fun cdv A outer s H vs Q E hr h => ?_)
  · obtain ⟨s, a, b, d, zs, pl, g, rfl, _⟩ := h
    rfl
  · obtain ⟨sa, a, b, d, zs, pl, g, rfl, hS, zl, hp, ok, hb, ty, gl, q⟩ := h
    refine ⟨_, (pss_cons (ps_set (i := 3) sc_law_long_row.nd rfl (Or.inr rfl) (pe_lst (pa_cons (pv 2) pa_nil)))
      (pss_cons (ps_for PassesOwn.never rfl (pi_range1 (by rfl) T.n_range (pa_cons (pe_callB (call_max2 rfl) (by rfl) T.n_max (by decide +kernel) (pa_cons pe_int (pa_cons (pe_callB (call_min2 rfl) (by rfl) T.n_min (by decide +kernel) (pa_cons pe_int (pa_cons (pe_callB call_len (by rfl) T.n_len (by decide +kernel) (pa_cons (pv 0) pa_nil)) pa_nil))) pa_nil))) pa_nil)) (pg_name (i := 4) sc_law_long_row.nd rfl (Or.inl rfl)) (pss_cons (ps_setLc (i := 5) (own := [("_law_one", 6)]) (g := gName 6) (by rfl) sc_law_long_row.nd rfl rfl (sw_true rfl rfl rfl (by decide +kernel)) (pi_list (pe_dget (u1 hr.units) (pv 1) pe_str (fun _ _ => rfl))) (blkOk_by (own := [("_law_one", 6)]) (N := ["_law_script", "_law_plain_here", "_law_start", "_law_row", "_law_at", "_law_some", "_law_one", "_law_names_here"]) (sc := defScope s_law_long_row) (by decide +kernel)) (fun _ _ _ _ _ => (pg_name (i := 6) sc_law_long_row.nd rfl (Or.inl rfl))) (fun _ _ _ _ _ => pts_nil) (fun _ _ _ _ _ => (pe_call (ok_law_after T) (hr.mono (by decide)) (by rfl) T.g__law_after T.F__law_after.kp T.b__law_after .nil pass0 (pa_cons (pv 6) (pa_cons (pe_ix (ix_list : IxR _ (rIxL K)) (pv 3) (pe_un un_neg pe_int) (fun _ _ => rfl)) pa_nil)))))
      (pss_cons (ps_setLc (i := 5) (own := [("_law_names_here", 7)]) (g := gName 7) (by rfl) sc_law_long_row.nd rfl rfl (sw_true rfl rfl rfl (by decide +kernel)) (pi_list (pv 5)) (blkOk_by (own := [("_law_names_here", 7)]) (N := ["_law_script", "_law_plain_here", "_law_start", "_law_row", "_law_at", "_law_some", "_law_one", "_law_names_here"]) (sc := defScope s_law_long_row) (by decide +kernel)) (fun _ _ _ _ _ => (pg_name (i := 7) sc_law_long_row.nd rfl (Or.inl rfl))) (fun _ _ _ _ _ => (pts_one (pt_cmpR op_notN (pv 7) pe_non (nomark _)))) (fun _ _ _ _ _ => (pv 7)))
      (pss_one (ps_if (PW.pt (pw_and (pt_cmpR (op_neE hr.units) (pv 5) (pe_lst pa_nil) (nomark _)) (pw_and1 (pt_cmpR op_lt (pe_callB call_lenQ (by rfl) T.n_len (by decide +kernel) (pa_cons (pe_ix ix_list (pv 3) (pe_un un_neg pe_int) (fun _ _ => rfl)) pa_nil)) pe_int (nomark _))))) (pss_one (ps_expr (pe_bm PySem.F.plainAttrs_list PySem.F.slot_list_append PySem.F.type_list_append mt_append (pv 3) (pa_cons (pe_call (ok_law_pick T) (hr.mono (by decide)) (by rfl) T.g__law_pick T.F__law_pick.kp T.b__law_pick .nil pass0 (pa_cons (pe_call (ok_law_feed T) (hr.mono (by decide)) (by rfl) T.g__law_feed T.F__law_feed.kp T.b__law_feed .nil pass0 (pa_cons (pv 0) (pa_cons (pv 4) pa_nil))) (pa_cons (pv 5) pa_nil))) pa_nil)))) pss_nil)))))
      (pss_one (ps_ret (pe_callTy call_tupL (by rfl) T.n_tuple (by decide +kernel) (pa_cons (pv 3) pa_nil)))))), ?_⟩
    refine seqN fun N1 hN1 => ?_
    walk_at "rd"
    walk_at "rdx"
    refine ⟨by decide, fun p1 hp1 => ?_⟩
    have s1 := same_new (o := .lst [V.ref b]) hp1
    have f1 : upd H p1 (.lst [V.ref b]) p1 = some (.lst [V.ref b]) := upd_same
    generalize upd H p1 (.lst [V.ref b]) = H1 at *
    refine hN1 _ _ ?_
    clear hN1
    refine seqN fun N2 hN2 => ?_
    walk_at "rd"
    walk_at "rdx"
    have hS1 := sqL_same hS s1
    refine ⟨zs.length, .inl ⟨_, hS1, by rw [List.length_map]⟩, ?_⟩
    obtain ⟨m, em, hm, hm1⟩ : ∃ m : Nat, (if (if (zs.length : Int) < 63 then (zs.length : Int) else 63) > 1 then if (zs.length : Int) < 63 then (zs.length : Int) else 63 else 1) = (m : Int) ∧ m ≤ 63 ∧ 1 ≤ m := by
      refine ⟨(if (if (zs.length : Int) < 63 then (zs.length : Int) else 63) > 1 then if (zs.length : Int) < 63 then (zs.length : Int) else 63 else 1).toNat, ?_, ?_, ?_⟩ <;> (split <;> split <;> omega)
    rw [em]
    refine ⟨by omega, by omega, forB walk_range (inv_long sa a b p1 pl g H) ⟨⟨_, _, rfl⟩, s1, [g], ⟨⟨[b], f1, rfl, fun i g' e => ?_⟩, rfl, fun i x y e1 e2 => (by cases e2), fun g' h => by rw [List.mem_singleton.mp h]; exact ⟨ty, by omega⟩⟩, Nat.le_refl 1⟩ (fun _ _ _ _ _ => trivial) ?_ ?_⟩
    · cases i with
      | zero => cases e; exact ⟨b, rfl, hb.same s1⟩
      | succ i => cases e
    · rintro i x σ Ha Hb hi ⟨⟨y4, y5, rfl⟩, s0, gs, hL, ll⟩ ⟨rfl, rfl⟩
      refine seqN fun N3 hN3 => ?_
      walk_at "rd"
      walk_at "rdx"
      obtain ⟨am, ab, lc, M, hf⟩ := hp.same s0
      have hc := hf.ec
      obtain ⟨⟨bs, hl, lb, fb⟩, hh, lk, ty4⟩ := id hL
      have ne : gs ≠ [] := fun e => by rw [e] at hh; cases hh
      obtain ⟨y, hy⟩ : ∃ y, gs.getLast? = some y := ⟨_, List.getLast?_eq_some_getLast ne⟩
      have iy : gs[gs.length - 1]? = some y := by rw [← List.getLast?_eq_getElem?]; exact hy
      obtain ⟨b0, eb0, nb0⟩ := fb _ _ iy
      have at1 : atI (bs.map V.ref) (-1) = some (V.ref b0) := by
        have nb : bs ≠ [] := fun e => by rw [e] at lb; exact ne (List.length_eq_zero_iff.mp lb.symm)
        rw [at_last (by simpa using nb), List.getLast?_map, List.getLast?_eq_getElem?, lb, eb0]
        rfl
      have ly := ty4 y (List.mem_of_getLast? hy)
      refine ⟨_, DGet.k (k := keyC) hf.at_, lc, rfl, ⟨_, sql_of hf.hc⟩, ?_⟩
      have lM : (M.map fun p => V.ref p.1).length = pl.cv.length := by rw [hf.ec, List.length_map, List.length_map]
      refine lc_mon (walk_list (xs := M.map fun p => V.ref p.1)) (fun i v H' => ∃ c, pl.cv[i]? = some c ∧ OptT H' (stepC c y) v) (fun i v H1 H2 s ⟨c, e, o⟩ => ⟨c, e, ?_⟩) (sz100 (by have := ok.lc; omega)) (fun H' s => sql_of (s _ _ hf.hc)) ?_ mono_name mono_yes ?_
      · cases h : stepC c y with
        | none => rw [h] at o; exact o
        | some ws => rw [h] at o; obtain ⟨b, e, hb⟩ := o; exact ⟨b, e, s _ _ hb⟩
      · rintro i x Hc Hd hi sa' ⟨rfl, hxi⟩ R hR
        obtain ⟨p, hp⟩ : ∃ p, M[i]? = some p := ⟨_, List.getElem?_eq_getElem (by rw [List.length_map] at hi; exact hi)⟩
        have hc : pl.cv[i]? = some p.2 := by rw [hf.ec, List.getElem?_map, hp]; rfl
        rw [List.getElem?_map, hp] at hxi
        cases hxi
        have hcv := hf.kc p (List.mem_of_getElem? hp)
        walk_at "rdx"
        have okc := (ok.cv p.2 (List.mem_of_getElem? hc)).1
        have hgb := nb0.same sa'
        refine ⟨p1, _, -1, _, rfl, rfl, sql_of (sa' _ _ hl), at1, ?_⟩
        exact ⟨p.1, b0, p.2, y, rfl, cvA.same hcv sa', okc, hgb.at_, hgb.nm, hgb.ln, fun v H' sv ov => hR v H' sv ⟨p.2, hc, ov⟩⟩
      intro H2 D ys s2 nD yl yP hD
      rw [lM] at yl
      refine hN3 _ _ ?_
      clear hN3
      refine seqN fun N4 hN4 => ?_
      walk_at "rd"
      walk_at "rdx"
      refine ⟨⟨_, sql_of hD⟩, ?_⟩
      refine lc_filt (walk_list (xs := ys)) (fun v => !decide (v = V.non)) (sz100 (by have := ok.lc; omega)) (fun H' s => sql_of (s _ _ hD)) ?_ ?_
      · rintro x H3 hx hS C C' c1 c2
        walk_at "rdx"
        exact ite2 (fun e => c1 e _ (Same.refl _)) (fun e => c2 (by simpa using e) _ (Same.refl _))
      intro H3 D2 s3 nD2 hD2
      have opt : ∀ v ∈ ys.filter (fun v => !decide (v = V.non)), ∃ b ws, v = .ref b ∧ NsA H3 b ws ∧ ws.length ≤ y.length + 5 ∧ tyIn pl.ms pl.bs ws ∧ ∃ c ∈ pl.cv, stepC c y = some ws := by
        intro v hv
        obtain ⟨h1, h2⟩ := List.mem_filter.mp hv
        obtain ⟨j, hj⟩ := List.getElem?_of_mem h1
        obtain ⟨c, e1, e2⟩ := yP j v hj
        have mc := List.mem_of_getElem? e1
        have okc := ok.cv c mc
        cases e : stepC c y with
        | none =>
          rw [e] at e2
          rw [show v = V.non from e2] at h2
          cases h2
        | some ws =>
          rw [e] at e2
          obtain ⟨b, e3, e4⟩ := e2
          obtain ⟨nm, lw⟩ := step_nm okc.1 nb0.nm e
          exact ⟨b, ws, e3, ⟨s3 _ _ e4, nm, by omega⟩, lw, step_ty okc.1 okc.2 ly.1 e, c, mc, e⟩
      refine hN4 _ _ ?_
      clear hN4
      walk_at "rd"
      walk_at "rdx"
      refine ⟨by decide, fun p2 hp2 => ?_⟩
      have s4 := same_new (o := .lst []) hp2
      have f4 : upd H3 p2 (.lst []) p2 = some (.lst []) := upd_same
      generalize upd H3 p2 (.lst []) = H4 at *
      refine ⟨D2, p2, _, rfl, rfl, sql_of (s4 _ _ hD2), sql_of f4, _, rfl, ?_⟩
      have s24 := s2.trans (s3.trans s4)
      have s04 := s0.trans s24
      have hL4 := hL.same s24
      refine ite2 (fun e => ?_) (fun e => ⟨⟨_, _, rfl⟩, s04, gs, hL4, by omega⟩)
      refine ⟨p1, _, -1, _, rfl, rfl, sql_of (s24 _ _ hl), at1, lenT (sqt_of (s24 _ _ nb0.at_)) ⟨_, rfl, ite2 (fun lt => ?_) (fun _ => ⟨⟨_, _, rfl⟩, s04, gs, hL4, by omega⟩)⟩⟩
      have lt : y.length < 90 := by
        rw [List.length_map] at lt
        have := of_decide_eq_true lt
        omega
      refine ⟨tyl (sql_of (s24 _ _ hl)), sa, zs, i, by rw [Int.zero_add], sqL_same hS s04, by omega, fun ed x1 x2 x3 hed => ?_⟩
      have s5 := same_new (o := .lst [.int x1, .int x2, .int x3]) hed
      have ny : ys.filter (fun v => !decide (v = V.non)) ≠ [] := fun h => by rw [h] at e; cases e
      have hD4 := s4 _ _ hD2
      refine .inl ⟨ed, _, rfl, ⟨x1, x2, x3, upd_same⟩, .inl ⟨D2, _, rfl, ne_of_none hD4 hed, sql_of (s5 _ _ hD4), ny, ?_, fun v H6 hv g6 => ?_⟩⟩
      · have := List.length_filter_le (fun v => !decide (v = V.non)) ys
        have := ok.lc
        omega
      obtain ⟨b1, ws, rfl, nb1, lw, tw, st⟩ := opt v hv
      have s46 : Same H4 H6 := fun c o h => g6.keep c o (ne_of_none h hed) (s5 c o h)
      have s06 := s04.trans s46
      obtain ⟨⟨bs6, hl6, lb6, fb6⟩, hh6, lk6, ty6⟩ := hL4.same s46
      have nb6 := (nb1.same s4).same s46
      refine ⟨p1, bs6.map V.ref, _, rfl, rfl, hl6, by rw [List.length_map]; exact sz100' (by omega), ⟨_, _, rfl⟩, fun c o h => by rw [upd_ne (ne_of_none h hp1)]; exact s06 c o h, gs ++ [ws], ⟨⟨bs6 ++ [b1], by rw [upd_same, List.map_append]; rfl, by rw [List.length_append, List.length_append, lb6]; rfl, fun j g hj => ?_⟩, ?_, lk6.more hy st, fun g hg => ?_⟩, by rw [List.length_append, List.length_singleton]; omega⟩
      · have keep : ∀ {b g}, NsA H6 b g → NsA (upd H6 p1 (.lst (bs6.map V.ref ++ [V.ref b1]))) b g := fun {b g} h => ⟨by rw [upd_ne fun e => by have := h.at_; rw [e, hl6] at this; cases this]; exact h.at_, h.nm, h.ln⟩
        rcases Nat.lt_or_ge j gs.length with h | h
        · rw [List.getElem?_append_left h] at hj
          obtain ⟨b, e1, e2⟩ := fb6 j g hj
          exact ⟨b, by rw [List.getElem?_append_left (by omega)]; exact e1, keep e2⟩
        · rw [List.getElem?_append_right h] at hj
          have : j - gs.length = 0 := by
            have := (List.getElem?_eq_some_iff.mp hj).1
            rw [List.length_singleton] at this
            omega
          rw [this] at hj
          cases hj
          exact ⟨b1, by rw [List.getElem?_append_right (by omega), lb6, this]; rfl, keep nb6⟩
      · cases gs with
        | nil => exact absurd rfl ne
        | cons z zs => exact hh6
      · rcases List.mem_append.mp hg with h | h
        · exact ty6 g h
        · rw [List.mem_singleton.mp h]
          exact ⟨tw, by omega⟩
    rintro σ H5 ⟨⟨y4, y5, rfl⟩, s5, gs, hL, ll⟩
    refine hN2 _ _ ?_
    clear hN2
    walk_at "rd"
    walk_at "rdx"
    obtain ⟨⟨bs, hl, lb, fb⟩, hh, lk, ty5⟩ := hL
    refine tupL (sql_of hl) fun p2 hp2 => ?_
    have s6 := same_new (o := .tup (bs.map V.ref)) hp2
    have f6 : upd H5 p2 (.tup (bs.map V.ref)) p2 = some (.tup (bs.map V.ref)) := upd_same
    generalize upd H5 p2 (.tup (bs.map V.ref)) = H6 at *
    have lg : gs.length ≤ 64 := by
      have : (m : Int).toNat = m := Int.toNat_natCast m
      omega
    exact q p2 H6 gs (s5.trans s6) ⟨⟨bs, f6, lb, fun i g e => let ⟨b, e1, e2⟩ := fb i g e; ⟨b, e1, e2.same s6⟩⟩, by omega⟩ hh lk ty5 lg
end

local macro_rules | `(tactic| walk_at "rdx") => `(tactic| ((try simp only [tFld, gTup, gStar, tJs, tFmt, sFld, tSc_eq, StX.tStar, RZ.iZipA, tCKw, tDGet, LiI.tListItems]); try walk_at "rd"))
section
variable {w : World} {K : PySem.W.Frag} {mg : Str → Option Value} {base : Heap}
/-- a row that is a chain -/
structure ChA (H : Hp) (l : Lb) (t : Addr) (gs : List (List Str)) : Prop where
  row : RowA H t gs
  ne : gs ≠ []
  ov : ∀ g ∈ gs, ovB l none (g.map V.str) = true
  lk : Lk l.cv gs
theorem ChA.same {H H' : Hp} {l : Lb} {t : Addr} {gs : List (List Str)} (h : ChA H l t gs) (s : Same H H') : ChA H' l t gs := ⟨h.row.same s, h.ne, h.ov, h.lk⟩
theorem ChA.is {H : Hp} {l : Lb} {t : Addr} {gs : List (List Str)} (h : ChA H l t gs) : LkIs H l (.ref t) (some gs) := .row h.row h.ne h.ov
theorem ChA.lkB {H : Hp} {l : Lb} {t : Addr} {gs : List (List Str)} (h : ChA H l t gs) : lkB l (some gs) = true := h.lk.linked
theorem row_at {H : Hp} {t : Addr} {gs : List (List Str)} {bs : List Addr} (h : H t = some (.tup (bs.map V.ref))) (l : bs.length = gs.length) (k : ∀ (i : Nat) g, gs[i]? = some g → ∃ b, bs[i]? = some b ∧ NsA H b g) (z : gs.length ≤ 4000) : RowA H t gs := ⟨⟨bs, h, l, k⟩, z⟩
theorem ch_drop {H : Hp} {l : Lb} {t : Addr} {gs : List (List Str)} {i : Nat} {j : Int} {Q : VK} (hc : ChA H l t gs) (hi : i < gs.length) (hj : j = (i : Nat)) (q : ∀ p H', Same H H' → ChA H' l p (gs.drop i) → Q (.ref p) H') : rSlA K (.ref t) (some j) none H Q := by
  subst hj
  obtain ⟨⟨bs, ht, lb, fb⟩, lg⟩ := id hc.row
  refine slT ht fun p H' s hp => q p H' s ⟨row_at (bs := bs.drop i) ?_ ?_ (fun j g e => ?_) ?_, ?_, fun g hg => hc.ov g (List.mem_of_mem_drop hg), hc.lk.drop i⟩
  · rw [hp, cut_from, List.map_drop]
  · rw [List.length_drop, List.length_drop, lb]
  · rw [List.getElem?_drop] at e ⊢
    obtain ⟨b, e1, e2⟩ := fb _ g e
    exact ⟨b, e1, e2.same s⟩
  · rw [List.length_drop]
    omega
  · exact fun e => absurd (List.drop_eq_nil_iff.mp e) (by omega)
theorem ch_take {H : Hp} {l : Lb} {t : Addr} {gs : List (List Str)} {i : Nat} {j : Int} {Q : VK} (hc : ChA H l t gs) (hj : j = ((i + 1 : Nat) : Int)) (q : ∀ p H', Same H H' → ChA H' l p (gs.take (i + 1)) → Q (.ref p) H') : rSlA K (.ref t) none (some j) H Q := by
  subst hj
  obtain ⟨⟨bs, ht, lb, fb⟩, lg⟩ := id hc.row
  refine slT ht fun p H' s hp => q p H' s ⟨row_at (bs := bs.take (i + 1)) ?_ ?_ (fun j g e => ?_) ?_, ?_, fun g hg => hc.ov g (List.mem_of_mem_take hg), hc.lk.take (i + 1)⟩
  · rw [hp, cut_to, List.map_take]
  · rw [List.length_take, List.length_take, lb]
  · rw [List.getElem?_take] at e ⊢
    split at e
    · rename_i lt
      rw [if_pos lt]
      obtain ⟨b, e1, e2⟩ := fb _ g e
      exact ⟨b, e1, e2.same s⟩
    · cases e
  · rw [List.length_take]
    omega
  · intro e
    rcases List.take_eq_nil_iff.mp e with e | e
    · cases e
    · exact hc.ne e
theorem max_if (x y : Int) : (if y > x then y else x) = max x y := by
  split <;> omega
def sp_parts (K : PySem.W.Frag) (CL CC : Addr) : Sp := fun vs H Q _ => ∃ (b t : Addr) (l : Lb) (gs : List (List Str)), vs = [.ref b, .ref t] ∧ LbR K CL CC H b l ∧ ChA H l t gs ∧ ∀ H', Same H H' → Q (.bl true) H'
def inv_parts (b t : Addr) (l : Lb) (gs : List (List Str)) (H : Hp) : Nat → L2.St → Hp → Prop := fun _ σ H' => (∃ x3, σ = [some (.ref b), some (.ref t), some (.int (greatO (alongC l.cv gs))), x3]) ∧ Same H H'
theorem ok_law_parts_right (T : Tx K mg) : FnOk P w K mg base CX0 8 T.f__law_parts_right T.d__law_parts_right ["_law_library_here", "_law_row"] (sp_parts K T.C_Library T.C_Candidate) := by
  refine T.F__law_parts_right.ok sc_law_parts_right (fun vs H Q E h => ?_) (fun cdv A outer s H vs Q E hr h => ?_)
  · obtain ⟨b, t, l, gs, rfl, _⟩ := h
    rfl
  · obtain ⟨b, t, l, gs, rfl, hl, hc, q⟩ := h
    refine ⟨_, (pss_cons (ps_set (i := 2) sc_law_parts_right.nd rfl (Or.inl rfl) (pe_call (ok_chain_rank T) (hr.mono (by decide)) (by rfl) T.g_chain_rank T.F_chain_rank.kp T.b_chain_rank .nil passL (pa_cons (pv 0) (pa_cons (pv 1) pa_nil))))
      (pss_cons (ps_for PassesOwn.never rfl (pi_range1 (by rfl) T.n_range (pa_cons (pe_callB call_lenQ (by rfl) T.n_len (by decide +kernel) (pa_cons (pv 1) pa_nil)) pa_nil)) (pg_name (i := 3) sc_law_parts_right.nd rfl (Or.inl rfl)) (pss_cons (ps_if (PW.pt (pw_or (pt_cmpR op_notBl (pe_call (ok_is_chain T) (hr.mono (by decide)) (by rfl) T.g_is_chain T.F_is_chain.kp T.b_is_chain .nil passL (pa_cons (pv 0) (pa_cons (pe_slice sl_tupA (pv 1) (po_some (pv 3)) po_none) pa_nil))) pe_bl (nomark _)) (pw_or1 (pt_cmpR op_notBl (pe_call (ok_is_chain T) (hr.mono (by decide)) (by rfl) T.g_is_chain T.F_is_chain.kp T.b_is_chain .nil passL (pa_cons (pv 0) (pa_cons (pe_slice sl_tupA (pv 1) po_none (po_some (pe_op op_add (pv 3) pe_int))) pa_nil))) pe_bl (nomark _))))) (pss_one (ps_ret pe_bl)) pss_nil)
      (pss_one (ps_if (pt_cmpR op_ne (pe_callB (call_max2 rfl) (by rfl) T.n_max (by decide +kernel) (pa_cons (pe_call (ok_chain_rank T) (hr.mono (by decide)) (by rfl) T.g_chain_rank T.F_chain_rank.kp T.b_chain_rank .nil passL (pa_cons (pv 0) (pa_cons (pe_slice sl_tupA (pv 1) (po_some (pv 3)) po_none) pa_nil))) (pa_cons (pe_call (ok_chain_rank T) (hr.mono (by decide)) (by rfl) T.g_chain_rank T.F_chain_rank.kp T.b_chain_rank .nil passL (pa_cons (pv 0) (pa_cons (pe_slice sl_tupA (pv 1) po_none (po_some (pe_op op_add (pv 3) pe_int))) pa_nil))) pa_nil))) (pv 2) (nomark _)) (pss_one (ps_ret pe_bl)) pss_nil))))
      (pss_one (ps_ret pe_bl)))), ?_⟩
    refine seqN fun N1 hN1 => ?_
    walk_at "rd"
    walk_at "rdx"
    refine ⟨.ref b, .ref t, rfl, .inr ⟨b, l, some gs, rfl, hl, hc.is, fun e => (by rw [hc.lkB] at e; cases e), fun gs' e _ H1 s1 => hN1 _ _ ?_⟩⟩
    cases e
    clear hN1
    obtain ⟨⟨bs, ht, lb, fb⟩, lg⟩ := id hc.row
    refine seqN fun N2 hN2 => ?_
    walk_at "rd"
    walk_at "rdx"
    refine lenT (sqt_of (s1 _ _ ht)) ?_
    have lx : (bs.map V.ref).length = gs.length := by rw [List.length_map, lb]
    refine ⟨_, rfl, by rw [lx]; omega, by rw [lx]; omega, ?_⟩
    rw [lx]
    refine forB walk_range (inv_parts b t l gs H) ⟨⟨_, rfl⟩, s1⟩ (fun _ _ _ _ _ => trivial) ?_ ?_
    · rintro i x σ Ha Hb hi ⟨⟨y3, rfl⟩, s0⟩ ⟨rfl, rfl⟩
      have hi : i < gs.length := by
        rw [Int.toNat_natCast] at hi
        exact hi
      have ej : (0 + (i : Int)) = (i : Nat) := Int.zero_add _
      have ek : (0 + (i : Int) + 1) = ((i + 1 : Nat) : Int) := by omega
      refine seqN fun N3 hN3 => ?_
      walk_at "rd"
      walk_at "rdx"
      have lD : ∀ {H' : Hp} {p : Addr}, Same H H' → ChA H' l p (gs.drop i) → LbR K T.C_Library T.C_Candidate H' b l := fun s _ => hl.same s
      refine ch_drop (hc.same s0) hi ej fun p1 H2 s2 c1 => ?_
      refine ⟨.ref b, .ref p1, rfl, .inr ⟨b, l, _, rfl, hl.same (s0.trans s2), c1.is, fun H3 s3 => ?_⟩⟩
      rw [c1.lkB]
      refine ⟨true, true, rfl, rfl, _, rfl, iteN (by decide) ?_⟩
      have s03 := s0.trans (s2.trans s3)
      refine ch_take (hc.same s03) ek fun p2 H4 s4 c2 => ?_
      refine ⟨.ref b, .ref p2, rfl, .inr ⟨b, l, _, rfl, hl.same (s03.trans s4), c2.is, fun H5 s5 => ?_⟩⟩
      rw [c2.lkB]
      refine ⟨true, true, rfl, rfl, _, rfl, iteN (by decide) (hN3 _ _ ?_)⟩
      clear hN3
      have s05 := s03.trans (s4.trans s5)
      clear c1 c2 s2 s3 s4 s5 s03
      walk_at "rd"
      walk_at "rdx"
      refine ch_drop (hc.same s05) hi ej fun p1 H2 s2 c1 => ?_
      refine ⟨.ref b, .ref p1, rfl, .inr ⟨b, l, _, rfl, hl.same (s05.trans s2), c1.is, fun e => (by rw [c1.lkB] at e; cases e), fun gs1 e _ H3 s3 => ?_⟩⟩
      cases e
      have s03 := s05.trans (s2.trans s3)
      refine ch_take (hc.same s03) ek fun p2 H4 s4 c2 => ?_
      refine ⟨.ref b, .ref p2, rfl, .inr ⟨b, l, _, rfl, hl.same (s03.trans s4), c2.is, fun e => (by rw [c2.lkB] at e; cases e), fun gs2 e _ H5 s5 => ?_⟩⟩
      cases e
      have s06 := s03.trans (s4.trans s5)
      have pt := parts l.cv gs i
      rw [← max_if] at pt
      exact ⟨_, rfl, _, rfl, rfl, iteN (by rw [pt]; simp) ⟨⟨_, rfl⟩, s06⟩⟩
    · rintro σ H5 ⟨⟨y3, rfl⟩, s5⟩
      refine hN2 _ _ ?_
      clear hN2
      walk_at "rd"
      exact q _ s5
end

section
open PySem PySem.Spec PyProof.Rows L2 Lv PySem.W
section
variable {w : World} {K : PySem.W.Frag} {mg : Str → Option Value} {base : Heap}
theorem u40 {a : Nat} (h : a + 64 < cLine) : a + 40 < cLine := by omega
def keyN (x : List Str × Addr) : NestedKey × Addr := (wordsK x.1, x.2)
theorem pull_back {N : List (List Str × Addr)} : ∀ {M : Mems}, (∀ e ∈ M, ∃ x ∈ N, e = keyN x) → ∃ N' : List (List Str × Addr), M = N'.map keyN ∧ ∀ x ∈ N', x ∈ N
  | [], _ => ⟨[], rfl, fun x h => nomatch h⟩
  | e :: M, h => by
    obtain ⟨x, hx, rfl⟩ := h e (.head _)
    obtain ⟨N', e1, e2⟩ := pull_back fun y hy => h y (.tail _ hy)
    exact ⟨x :: N', by rw [List.map_cons, ← e1], fun y hy => (List.mem_cons.mp hy).elim (fun z => z ▸ hx) (e2 y)⟩
/-- tuple(sorted(set(names))) -/
theorem set_sort {H : Hp} {q : Addr} {N : List (List Str × Addr)} {Q : VK} (hq : LsN H q N) (ne : ∀ e ∈ N, e.1 ≠ []) (few : ∃ F : List (List Str), F.length < 299 ∧ ∀ e ∈ N, e.1 ∈ F)
    (k : ∀ p H' F, Same H H' → RwA H' p (sortG F) → F.Nodup → (∀ x, x ∈ F ↔ x ∈ N.map (·.1)) → Q (.ref p) H') : rSetX K w [.ref q] H fun x H1 => rSortX K w [x] H1 fun x H1 => rTupL K [x] H1 Q := by
  obtain ⟨at_, ns⟩ := hq
  obtain ⟨kf, hkf⟩ : ∃ kf : Nat → NestedKey, ∀ i e, N[i]? = some e → kf i = wordsK e.1 := ⟨fun i => wordsK (N[i]?.getD ([], 0)).1, fun i e h => by simp only [h]; rfl⟩
  obtain ⟨af, haf⟩ : ∃ af : Nat → Addr, ∀ i e, N[i]? = some e → af i = e.2 := ⟨fun i => (N[i]?.getD ([], 0)).2, fun i e h => by simp only [h]; rfl⟩
  have get : ∀ i, i < N.length → ∃ e, N[i]? = some e ∧ e ∈ N := fun i hi => ⟨N[i], List.getElem?_eq_getElem hi, List.getElem_mem hi⟩
  have el : N.map (fun e => V.ref e.2) = (List.range N.length).map fun i => V.ref (af i) := by
    apply List.ext_getElem (by simp)
    intro i h1 h2
    have hi : i < N.length := by simpa using h1
    rw [List.getElem_map, List.getElem_map, List.getElem_range, haf i N[i] (List.getElem?_eq_getElem hi)]
  rw [el] at at_
  refine ⟨q, N.length, kf, af, rfl, sql_of at_, ?_, fun i hi => ?_, fun p hp => ?_⟩
  · obtain ⟨F, f1, f2⟩ := few
    refine ⟨F.map wordsK, by rw [List.length_map]; exact f1, fun i hi => ?_⟩
    obtain ⟨e, h1, h2⟩ := get i hi
    rw [hkf i e h1]
    exact List.mem_map_of_mem (f2 e h2)
  · obtain ⟨e, h1, h2⟩ := get i hi
    rw [hkf i e h1, haf i e h1]
    exact ⟨nk_words (ns e h2).at_, Nat.le_trans dep_words (by decide)⟩
  have s1 := same_new (o := SetXO w p kf af N.length) hp
  have f1 : upd H p (SetXO w p kf af N.length) p = some (SetXO w p kf af N.length) := upd_same
  generalize upd H p (SetXO w p kf af N.length) = H1 at s1 f1 ⊢
  refine ⟨p, N.length, kf, af, rfl, f1, fun i hi => ?_, fun ds hds => ?_, fun p2 M hp2 m1 m2 nd lM => ?_⟩
  · obtain ⟨e, h1, h2⟩ := get i hi
    rw [hkf i e h1, haf i e h1]
    exact ⟨⟨nk_words ((ns e h2).same s1).at_, Nat.le_trans dep_words (by decide)⟩, by rw [dOf_depth]; exact Nat.le_trans dep_words (by decide)⟩
  · have of : ∀ d ∈ ds, ∃ e ∈ N, d = dOf (wordsK e.1) := fun d hd => by
      obtain ⟨i, hi, rfl⟩ := hds d hd
      obtain ⟨e, h1, h2⟩ := get i hi
      exact ⟨e, h2, by rw [hkf i e h1]⟩
    refine ⟨fun d hd d' hd' => ?_, .inl fun d hd => ?_⟩
    · obtain ⟨e, _, rfl⟩ := of d hd
      obtain ⟨e', _, rfl⟩ := of d' hd'
      exact alike_wk _ _
    · obtain ⟨e, he, rfl⟩ := of d hd
      have := ne e he
      cases h : e.1 with
      | nil => exact absurd h this
      | cons x g =>
        unfold wordsK
        rw [List.map_cons, dOf, dsOf]
        exact ⟨_, _, rfl⟩
  obtain ⟨N', rfl, sub⟩ := pull_back (N := N) (M := M) fun e he => by
    obtain ⟨i, hi, rfl⟩ := m1 e he
    obtain ⟨x, h1, h2⟩ := get i hi
    exact ⟨x, h2, by rw [hkf i x h1, haf i x h1]; rfl⟩
  have em0 : (N'.map keyN).mergeSort (dataLe false fun p : NestedKey × Addr => dOf p.1) = (N'.mergeSort (dataLe false fun e : List Str × Addr => dOf (wordsK e.1))).map keyN := by
    refine (List.map_mergeSort fun a _ b _ => ?_).symm
    rw [PySem.W.dataLe_eq, PySem.W.dataLe_eq]
    rfl
  have em : (N'.mergeSort (dataLe false fun e : List Str × Addr => dOf (wordsK e.1))).map (·.1) = sortG (N'.map (·.1)) := by
    refine List.map_mergeSort fun a _ b _ => ?_
    rw [PySem.W.dataLe_eq, PySem.W.dataLe_eq]
  have pm := List.mergeSort_perm N' (dataLe false fun e : List Str × Addr => dOf (wordsK e.1))
  rw [em0]
  generalize N'.mergeSort (dataLe false fun e : List Str × Addr => dOf (wordsK e.1)) = S at em pm ⊢
  have e5 : (S.map keyN).map (fun e => V.ref e.2) = S.map fun e => V.ref e.2 := by rw [List.map_map]; rfl
  rw [e5]
  have s2 := same_new (o := .lst (S.map fun e => V.ref e.2)) hp2
  have f2 : upd H1 p2 (.lst (S.map fun e => V.ref e.2)) p2 = some (.lst (S.map fun e => V.ref e.2)) := upd_same
  generalize upd H1 p2 (.lst (S.map fun e => V.ref e.2)) = H2 at *
  refine tupL (sql_of f2) fun p3 hp3 => ?_
  have s3 := same_new (o := .tup (S.map fun e => V.ref e.2)) hp3
  have f3 : upd H2 p3 (.tup (S.map fun e => V.ref e.2)) p3 = some (.tup (S.map fun e => V.ref e.2)) := upd_same
  generalize upd H2 p3 (.tup (S.map fun e => V.ref e.2)) = H3 at *
  have s13 := s1.trans (s2.trans s3)
  refine k p3 H3 (N'.map (·.1)) s13 ⟨S, f3, em.symm, fun e he => (ns e (sub e (pm.mem_iff.mp he))).same s13⟩ ?_ fun x => ?_
  · have : ((N'.map (·.1)).map wordsK).Nodup := by
      rw [List.map_map]
      rw [List.map_map] at nd
      exact nd
    exact List.Pairwise.of_map wordsK (fun a b ne e => ne (congrArg wordsK e)) this
  · constructor
    · intro hx
      obtain ⟨y, hy, rfl⟩ := List.mem_map.mp hx
      exact List.mem_map_of_mem (sub y hy)
    · intro hx
      obtain ⟨y, hy, rfl⟩ := List.mem_map.mp hx
      obtain ⟨i, hi, e⟩ := List.getElem_of_mem hy
      have h1 : N[i]? = some y := by rw [List.getElem?_eq_getElem hi, e]
      have h2 := m2 i hi
      rw [hkf i y h1, List.map_map] at h2
      obtain ⟨z, hz, e⟩ := List.mem_map.mp h2
      rw [← wordsK_inj (show wordsK z.1 = wordsK y.1 from e)]
      exact List.mem_map_of_mem hz
end
end

local macro_rules | `(tactic| walk_at "rdx") => `(tactic| ((try simp only [tFld, gTup, gLst, gStar, tJs, tFmt, sFld, tSc_eq, tDGet, tMake, tMakeK, tProp, tMeth, tDNewN, tPar3, tFor_eq, tCallN, tListG, tCallG, LiI.tListItems]); try walk_at "rd"))
section
variable {w : World} {K : PySem.W.Frag} {mg : Str → Option Value} {base : Heap}
theorem noStop0 {K : PySem.W.Frag} : NoStop K E0 := fun _ _ _ h => False.elim h
theorem smx_gr {d : Addr} {H H' : Hp} (g : Gr d H H') : SmX H H' := fun b o n1 n2 h => g.keep b o (fun e => by
  obtain ⟨x, y, z, hd⟩ := g.pre
  rw [e, hd] at h
  cases h
  exact n1 _ rfl) h
theorem usable_sort (pl : Pn) (t : Nat) : ∀ c, c ∈ usableC (libOf pl []).cv t ↔ c ∈ usableC pl.cv t := fun c => by
  have pm : (sortCv pl.cv).Perm pl.cv := List.mergeSort_perm _ _
  unfold usableC
  rw [List.mem_filter, List.mem_filter]
  exact and_congr_left fun _ => pm.mem_iff
theorem ty_ne {ms bs ws : List Str} (ty : tyIn ms bs ws) : ws ≠ [] := by
  obtain ⟨xs, y, rfl, _⟩ := ty
  simp
theorem gd_words {ws : List Str} (h : ∀ w ∈ ws, isNm w = true) (hn : ws.length ≤ 466) : Gd (dS ws) 1 39147 := by
  refine (Gd.tuple (k := 0) (n := 82) fun d hd => ?_).mono (Nat.le_refl _) ?_
  · obtain ⟨w, hw, rfl⟩ := List.mem_map.mp hd
    have := isNm_len (h w hw)
    exact (Gd.str (pl_of (h w hw))).mono (Nat.le_refl _) (by omega)
  · rw [List.length_map]
    omega
theorem gd_types {gs : List (List Str)} (h : ∀ g ∈ gs, (∀ w ∈ g, isNm w = true) ∧ g.length ≤ 466) : Gd (.tuple (gs.map dS)) 2 (gs.length * 39149 + 3) := by
  have gd := Gd.tuple (k := 1) (n := 39147) (ds := gs.map dS) fun d hd => by
    obtain ⟨g, hg, rfl⟩ := List.mem_map.mp hd
    exact gd_words (h g hg).1 (h g hg).2
  rw [List.length_map] at gd
  exact gd
theorem RwA.dp {H : Hp} {u : Addr} {gs : List (List Str)} (h : RwA H u gs) : Dp K H (.ref u) (.tuple (gs.map dS)) := by
  obtain ⟨N, h1, rfl, h3⟩ := h
  refine .tup (sqt_of h1) ?_
  clear h1
  induction N with
  | nil => exact .nil
  | cons e N ih => exact .cons (.tup (sqt_of (h3 e (.head _)).at_) (dpS e.1)) (ih fun x hx => h3 x (.tail _ hx))
theorem eqv_types : ∀ gs : List (List Str), PyData.eqvAll (gs.map dS) (gs.map dS) = true
  | [] => rfl
  | g :: gs => by
    rw [List.map_cons, PyData.eqvAll, eqv_types gs, show PyData.eqv (dS g) (dS g) = true by simp [dS, PyData.eqv, eqvS]]
    rfl
theorem ne_same {H : Hp} {a b : Addr} {gs : List (List Str)} {Q : VK} (h : RwA H a gs) (k : RwA H b gs) (ok : ∀ g ∈ gs, (∀ w ∈ g, isNm w = true) ∧ g.length ≤ 466) (q : Q (.bl false) H) : rNeD K (.ref a) (.ref b) H Q := by
  have gd := gd_types ok
  refine ⟨_, _, h.dp, k.dp, gd.shaped (by decide), gd.shaped (by decide), ?_⟩
  rw [show PyData.eqv (.tuple (gs.map dS)) (.tuple (gs.map dS)) = true by rw [PyData.eqv, eqv_types]]
  exact q
theorem eq_same {H : Hp} {a b : Addr} {gs : List (List Str)} {Q : VK} (h : RwA H a gs) (k : RwA H b gs) (ok : ∀ g ∈ gs, (∀ w ∈ g, isNm w = true) ∧ g.length ≤ 466) (q : Q (.bl true) H) : rEqD K (.ref a) (.ref b) H Q := by
  have gd := gd_types ok
  refine ⟨_, _, h.dp, k.dp, gd.shaped (by decide), gd.shaped (by decide), ?_⟩
  rw [show PyData.eqv (.tuple (gs.map dS)) (.tuple (gs.map dS)) = true by rw [PyData.eqv, eqv_types]]
  exact q
theorem pairs_mem (cvs : List Cv) (g x : List Str) : (∃ p ∈ pairsC cvs g, p.2 = x) ↔ ∃ c ∈ cvs, stepC c g = some x := by
  unfold pairsC
  constructor
  · rintro ⟨p, hp, rfl⟩
    obtain ⟨i, _, e⟩ := List.mem_filterMap.mp hp
    obtain ⟨ws, h1, rfl⟩ := Option.map_eq_some_iff.mp e
    obtain ⟨c, hc, h2⟩ := Option.bind_eq_some_iff.mp h1
    exact ⟨c, List.mem_of_getElem? hc, h2⟩
  · rintro ⟨c, hc, e⟩
    obtain ⟨i, hi, rfl⟩ := List.getElem_of_mem hc
    exact ⟨(i, x), List.mem_filterMap.mpr ⟨i, List.mem_range.mpr hi, by rw [List.getElem?_eq_getElem hi]; show (stepC cvs[i] g).map _ = _; rw [e]; rfl⟩, rfl⟩
def inv_fnd (d a b n : Addr) (m o t : Nat) (U : List Cv) (S : List (List Str × Addr)) (H0 : Hp) : Nat → L2.St → Hp → Prop := fun i σ H' => ∃ (fl : Addr) (x8 : Option V), σ = [some (.ref d), some (.ref a), some (.ref b), some (.ref n), some (.int (m : Nat)), some (.int (o : Nat)), some (.int (t : Nat)), some (.ref fl), x8, none, none] ∧
  Same H0 H' ∧ ∃ N, LsN H' fl N ∧ N.length ≤ 150 * i ∧ ∀ x, x ∈ N.map (·.1) ↔ ∃ j e, j < i ∧ S[j]? = some e ∧ Rc U e.1 o x
def sp_reached (K : PySem.W.Frag) (CL CC : Addr) : Sp := fun vs H Q _ => ∃ (d a b n : Addr) (pl : Pn) (g : List Str), vs = [.ref d, .ref a, .ref b, .ref n] ∧ Dc H d ∧ PnA H d a pl ∧ PnOk pl ∧ LbR K CL CC H b (libOf pl []) ∧ NsA H n g ∧ tyIn pl.ms pl.bs g ∧ g.length ≤ 95 ∧ ∀ H', Gr d H H' → Q (.bl true) H'
theorem ok_law_reached_right (T : Tx K mg) : FnG P w K mg base CX0 9 T.f__law_reached_right T.d__law_reached_right ["_law_feed_here", "_law_plain_here", "_law_library_here", "_law_start"] (sp_reached K T.C_Library T.C_Candidate) := by
  refine okG T.F__law_reached_right sc_law_reached_right (fun vs H Q E h => ?_) (fun cdv A outer s H vs Q E hgd hr h => ?_)
  · obtain ⟨d, a, b, n, pl, g, rfl, _⟩ := h
    rfl
  · obtain ⟨d, a, b, n, pl, g, rfl, hd, hp, ok, hl, hn, ty, gl, q⟩ := h
    refine ⟨_, (pss_cons (ps_asg (pe_tup (pa_cons (pe_op op_add pe_int (pe_call (ok_law_draw T) (hr.mono (by decide)) (by rfl) T.g__law_draw T.F__law_draw.kp T.b__law_draw .nil pass0 (pa_cons (pv 0) (pa_cons pe_int pa_nil)))) (pa_cons (pe_call (ok_law_draw T) (hr.mono (by decide)) (by rfl) T.g__law_draw T.F__law_draw.kp T.b__law_draw .nil pass0 (pa_cons (pv 0) (pa_cons pe_int pa_nil))) (pa_cons (pe_call (ok_law_draw T) (hr.mono (by decide)) (by rfl) T.g__law_draw T.F__law_draw.kp T.b__law_draw .nil pass0 (pa_cons (pv 0) (pa_cons pe_int pa_nil))) pa_nil)))) (pg_tup (n := 3) rfl (pgs_cons (pg_name (i := 4) sc_law_reached_right.nd rfl (Or.inr rfl)) (pgs_cons (pg_name (i := 5) sc_law_reached_right.nd rfl (Or.inr rfl)) (pgs_cons (pg_name (i := 6) sc_law_reached_right.nd rfl (Or.inl rfl)) pgs_nil)))))
      (pss_cons (ps_if (pt_cmpR (op_eqDE hr.units) (pe_call (ok_law_within T) (hr.mono (by decide)) (by rfl) T.g__law_within T.F__law_within.kp T.b__law_within .nil pass0 (pa_cons (pv 1) (pa_cons (pv 3) (pa_cons (pe_op op_add (pv 4) (pv 5)) (pa_cons pe_int (pa_cons pe_int pa_nil)))))) pe_dnewN (nomark _)) (pss_one (ps_ret pe_bl)) pss_nil)
      (pss_cons (ps_set (i := 7) sc_law_reached_right.nd rfl (Or.inl rfl) (pe_lst pa_nil))
      (pss_cons (ps_for PassesOwn.never rfl (pi_tup (pe_callNG (n := 3) (ok_found_within T) hgd (hr.mono (by decide)) (by rfl) T.g_found_within T.F_found_within.kp T.kb1_found_within passL (pa_cons (pv 2) (pa_cons (pv 3) (pa_cons (pv 4) pa_nil))) (pk_cons (pv 6) pk_nil))) (pg_name (i := 8) sc_law_reached_right.nd rfl (Or.inl rfl)) (pss_one (ps_set (i := 7) sc_law_reached_right.nd rfl (Or.inl rfl) (pe_op op_cat (pv 7) (pe_callTy call_list_of (by rfl) T.n_list (by decide +kernel) (pa_cons (pe_callNG (n := 3) (ok_found_within T) hgd (hr.mono (by decide)) (by rfl) T.g_found_within T.F_found_within.kp T.kb1_found_within passL (pa_cons (pv 2) (pa_cons (pv 8) (pa_cons (pv 5) pa_nil))) (pk_cons (pv 6) pk_nil)) pa_nil))))))
      (pss_cons (ps_if (pt_cmpR (op_neD hr.units) (pe_callTy call_tupL (by rfl) T.n_tuple (by decide +kernel) (pa_cons (pe_callB (cr_sortX rfl (u40 hr.units)) (by rfl) T.n_sorted (by decide +kernel) (pa_cons (pe_callTy (cr_setX rfl (u40 hr.units)) (by rfl) T.n_set (by decide +kernel) (pa_cons (pv 7) pa_nil)) pa_nil)) pa_nil)) (pe_callNG (n := 3) (ok_found_within T) hgd (hr.mono (by decide)) (by rfl) T.g_found_within T.F_found_within.kp T.kb1_found_within passL (pa_cons (pv 2) (pa_cons (pv 3) (pa_cons (pe_op op_add (pv 4) (pv 5)) pa_nil))) (pk_cons (pv 6) pk_nil)) (nomark _)) (pss_one (ps_ret pe_bl)) pss_nil)
      (pss_cons (ps_if (pt_cmpR (op_neE hr.units) (pe_lc (own := [("_law_names_here", 8)]) (g := gName 8) (by rfl) sc_law_reached_right.nd (pi_list (pv 7)) (blkOk_by (own := [("_law_names_here", 8)]) (N := ["_law_feed_here", "_law_plain_here", "_law_library_here", "_law_start", "_law_many", "_law_other", "_law_top", "_law_found", "_law_names_here", "_law_near", "_law_pair"]) (sc := defScope s_law_reached_right) (by decide +kernel)) (fun _ _ _ _ _ => (pg_name (i := 8) sc_law_reached_right.nd rfl (Or.inl rfl))) (fun _ _ _ _ _ => (pts_one (pt_cmpR (op_notInT (u65 hr) : OpR _ _ (rNotInT K)) (pv 8) (pe_callNG (n := 3) (ok_found_within T) hgd (hr.mono (by decide)) (by rfl) T.g_found_within T.F_found_within.kp T.kb0_found_within passL (pa_cons (pv 2) (pa_cons (pv 3) (pa_cons (pe_op op_add (pv 4) (pv 5)) pa_nil))) pk_nil) (by rfl)))) (fun _ _ _ _ _ => (pv 8))) (pe_lst pa_nil) (nomark _)) (pss_one (ps_ret pe_bl)) pss_nil)
      (pss_cons (ps_set (i := 9) sc_law_reached_right.nd rfl (Or.inl rfl) (pe_op op_cat (pe_lst (pa_cons (pv 3) pa_nil)) (pe_lc (own := [("_law_pair", 10)]) (g := gName 10) (by rfl) sc_law_reached_right.nd (pi_list (pe_listG (pgen_call (E := E0) (ok_steps T) (hr.mono (by decide)) (by rfl) T.g_steps T.F_steps.kp T.b_steps .nil (pa_cons (pv 2) (pa_cons (pv 3) pa_nil))) passL noStop0 (hr.mono (by decide)) (by rfl) T.n_list (by decide +kernel))) (blkOk_by (own := [("_law_pair", 10)]) (N := ["_law_feed_here", "_law_plain_here", "_law_library_here", "_law_start", "_law_many", "_law_other", "_law_top", "_law_found", "_law_names_here", "_law_near", "_law_pair"]) (sc := defScope s_law_reached_right) (by decide +kernel)) (fun _ _ _ _ _ => (pg_name (i := 10) sc_law_reached_right.nd rfl (Or.inl rfl))) (fun _ _ _ _ _ => pts_nil) (fun _ _ _ _ _ => (pe_ix (ix_tup : IxR _ (rIxT K)) (pv 10) pe_int (fun _ _ => rfl))))))
      (pss_one (ps_ret (pe_cmpR (op_eqD hr.units) (pe_callNG (n := 3) (ok_found_within T) hgd (hr.mono (by decide)) (by rfl) T.g_found_within T.F_found_within.kp T.kb0_found_within passL (pa_cons (pv 2) (pa_cons (pv 3) (pa_cons pe_int pa_nil))) pk_nil) (pe_callTy call_tupL (by rfl) T.n_tuple (by decide +kernel) (pa_cons (pe_callB (cr_sortX rfl (u40 hr.units)) (by rfl) T.n_sorted (by decide +kernel) (pa_cons (pe_callTy (cr_setX rfl (u40 hr.units)) (by rfl) T.n_set (by decide +kernel) (pa_cons (pv 9) pa_nil)) pa_nil)) pa_nil)) (nomark _))))))))))), ?_⟩
    refine seqN fun N1 hN1 => ?_
    walk_at "rd"
    walk_at "rdx"
    refine roll_new hd (by decide) (by decide) fun i1 H1 i10 i11 g1 => ⟨_, rfl, roll_new g1.dice (by decide) (by decide) fun i2 H2 i20 i21 g2 => roll_new g2.dice (by decide) (by decide) fun i3 H3 i30 i31 g3 => ?_⟩
    obtain ⟨m, em, m2⟩ : ∃ m : Nat, (1 + i1 : Int) = (m : Nat) ∧ m ≤ 2 := ⟨(1 + i1).toNat, by omega, by omega⟩
    obtain ⟨o, rfl, o2⟩ : ∃ o : Nat, i2 = (o : Nat) ∧ o ≤ 2 := ⟨i2.toNat, by omega, by omega⟩
    obtain ⟨t, rfl, t9⟩ : ∃ t : Nat, i3 = (t : Nat) ∧ t ≤ 9 := ⟨i3.toNat, by omega, by omega⟩
    rw [em]
    clear em i10 i11 i20 i21 i30 i31
    refine ⟨by decide, fun p1 hp1 => ?_⟩
    have s4 := same_new (o := .tup [V.int (m : Nat), V.int (o : Nat), V.int (t : Nat)]) hp1
    have f4 : upd H3 p1 (.tup [V.int (m : Nat), V.int (o : Nat), V.int (t : Nat)]) p1 = some (.tup [V.int (m : Nat), V.int (o : Nat), V.int (t : Nat)]) := upd_same
    generalize upd H3 p1 (.tup [V.int (m : Nat), V.int (o : Nat), V.int (t : Nat)]) = H4 at *
    refine ⟨_, sqt_of f4, rfl, _, _, rfl, _, _, rfl, _, _, rfl, rfl, hN1 _ _ ?_⟩
    clear hN1
    have G4 := (g1.trans (g2.trans g3)).trans (Gr.same g3.dice s4)
    have hp4 := hp.gr G4
    have hl4 : LbR K T.C_Library T.C_Candidate H4 b (libOf pl []) := ⟨hl.lb.smx (smx_gr G4), hl.lc, hl.ok⟩
    have hn4 := hn.gr G4
    clear g1 g2 g3 s4 f4 hp1 hp hl hn
    refine seqN fun N2 hN2 => ?_
    walk_at "rd"
    walk_at "rdx"
    have emo : (m : Int) + (o : Int) = ((m + o : Nat) : Int) := by omega
    rw [emo]
    refine ⟨d, a, n, pl, g, m + o, 9, 150, rfl, hp4, ok, hn4, by omega, by decide, by decide, by omega, fun f H5 s5 fd p2 hp2 => ?_, fun f H5 M s5 fd nd mem l4 p2 hp2 => ?_⟩
    · skip
      have s6 := same_new (o := DicNO P w p2 []) hp2
      have f6 : upd H5 p2 (DicNO P w p2 []) p2 = some (DicNO P w p2 []) := upd_same
      generalize upd H5 p2 (DicNO P w p2 []) = H6 at *
      exact ⟨f, p2, _, rfl, rfl, s6 _ _ fd.at_, f6, _, rfl, iteP rfl (q _ (G4.trans (Gr.same G4.dice (s5.trans s6))))⟩
    have s6 := same_new (o := DicNO P w p2 []) hp2
    have f6 : upd H5 p2 (DicNO P w p2 []) p2 = some (DicNO P w p2 []) := upd_same
    generalize upd H5 p2 (DicNO P w p2 []) = H6 at *
    have ne0 : ¬ ((entF M).isEmpty = true) := fun e => by
      have e1 : entF M = [] := List.isEmpty_iff.mp e
      have e2 : M = [] := List.map_eq_nil_iff.mp e1
      have := (mem g).mpr (Rc.self _)
      rw [e2] at this
      cases this
    refine ⟨f, p2, _, rfl, rfl, s6 _ _ fd.at_, f6, _, rfl, iteN ne0 (hN2 _ _ ?_)⟩
    clear hN2
    have s46 := s5.trans s6
    have G6 := G4.trans (Gr.same G4.dice s46)
    have hp6 := hp4.same s46
    have hl6 := hl4.same s46
    have hn6 := hn4.same s46
    obtain ⟨F0, eF0⟩ : ∃ F0, F0 = M.map (·.1) := ⟨_, rfl⟩
    rw [← eF0] at nd mem
    have l0 : F0.length ≤ 150 := by rw [eF0, List.length_map]; exact l4
    clear eF0 l4 ne0 fd s5 s6 f6 hp2 s46 hp4 hl4 hn4 G4
    have mem : ∀ x, x ∈ F0 ↔ Rc (usableC (libOf pl []).cv ((9 : Nat) : Int)) g (m + o) x := fun x => (mem x).trans (Rc.congr (usable_sort pl 9)).symm
    have okU : ∀ c ∈ (libOf pl []).cv, cvOk c = true := hl6.ok
    refine seqN fun N3 hN3 => ?_
    walk_at "rd"
    walk_at "rdx"
    refine ⟨by decide, fun fl hfl => ?_⟩
    have s7 := same_new (o := .lst []) hfl
    have f7 : upd H6 fl (.lst []) fl = some (.lst []) := upd_same
    generalize upd H6 fl (.lst []) = H7 at *
    refine hN3 _ _ ?_
    clear hN3
    have G7 := G6.trans (Gr.same G6.dice s7)
    have hp7 := hp6.same s7
    have hl7 := hl6.same s7
    have hn7 := hn6.same s7
    clear G6 hp6 hl6 hn6 s7
    have gne : g ≠ [] := ty_ne ty
    have okt : ∀ t : Nat, ∀ c ∈ usableC (libOf pl []).cv t, cvOk c = true ∧ withinB pl.ms pl.bs (.cv c) = true := fun t c hc => ok.cv c ((List.mergeSort_perm _ _).mem_iff.mp (List.mem_filter.mp hc).1)
    have inF : ∀ {t i : Nat} {x : List Str}, t ≤ 9 → i ≤ m + o → Rc (usableC (libOf pl []).cv (t : Nat)) g i x → x ∈ F0 := fun h1 h2 r => (mem _).mpr ((Rc.sub (us_sub (by omega)) r).le h2)
    have no2 : ∀ {G : List (List Str)}, G.Nodup → G.length = 2001 → (∀ x ∈ G, x ∈ F0) → False := fun ndG lG h => by
      have := nd_len ndG h
      omega
    have facts : ∀ {t i : Nat} {x : List Str}, i ≤ 5 → Rc (usableC (libOf pl []).cv (t : Nat)) g i x → tyIn pl.ms pl.bs x ∧ x ≠ [] ∧ (∀ z ∈ x, isNm z = true) ∧ x.length ≤ 115 := fun {t i x} h r => by
      have tx := r.ty (okt t) ty
      have nx := r.nm (fun c hc => (okt t c hc).1) hn7.nm
      exact ⟨tx, ty_ne tx, nx.1, by omega⟩
    have ovx : ∀ {H' : Hp} {c : Addr} {x : List Str}, NsA H' c x → tyIn pl.ms pl.bs x → x.length ≤ 115 → OvIs H' (libOf pl []) (some 400) (.ref c) true := fun {H' c x} h tx lx => by
      have := nsa_ov (l := libOf pl []) (m := some 400) h
      rwa [ov_ty (l := libOf pl []) tx (by omega)] at this
    refine seqN fun N4 hN4 => ?_
    walk_at "rd"
    walk_at "rdx"
    refine ⟨b, n, libOf pl [], g, m, t, rfl, hl7, hn7, ovx hn7 ty (by omega), by omega, t9, gne, by omega, fun G ndG lG hG => (no2 ndG lG fun x hx => inF t9 (by omega) (hG x hx)).elim, fun F1 nd1 mem1 _ p1 H8 s8 rw1 => ?_⟩
    obtain ⟨S, hS, eS, nS⟩ := rw1
    have memS : ∀ e ∈ S, Rc (usableC (libOf pl []).cv (t : Nat)) g m e.1 := fun e he => by
      have : e.1 ∈ sortG F1 := by
        rw [eS]
        exact List.mem_map_of_mem he
      exact (mem1 e.1).mp ((sortG_perm F1).mem_iff.mp this)
    have lS : S.length ≤ 150 := by
      have h1 : S.length = F1.length := by rw [← (sortG_perm F1).length_eq, eS, List.length_map]
      have := nd_len nd1 fun x hx => inF t9 (by omega) ((mem1 x).mp hx)
      omega
    have f8 : LsN H8 fl [] := ⟨s8 _ _ f7, fun e h => nomatch h⟩
    refine ⟨p1, rfl, ⟨_, sqt_of hS⟩, forB (walk_tup (xs := S.map fun e => V.ref e.2)) (inv_fnd d a b n m o t (usableC (libOf pl []).cv (t : Nat)) S H8) ⟨fl, none, rfl, Same.refl _, [], f8, Nat.zero_le _, fun x => ⟨fun h => (nomatch h), fun ⟨j, e, h, _⟩ => absurd h (Nat.not_lt_zero j)⟩⟩ ?_ ?_ ?_⟩
    · rintro i σ H' hi ⟨fl', x8, rfl, sx, _⟩
      exact sqt_of (sx _ _ hS)
    · rintro i v σ Ka Kb hi ⟨fl', x8, rfl, sx, N, hN, lN, mN⟩ ⟨rfl, hv⟩
      obtain ⟨e, he⟩ : ∃ e, S[i]? = some e := ⟨_, List.getElem?_eq_getElem (by rwa [List.length_map] at hi)⟩
      rw [List.getElem?_map, he] at hv
      cases hv
      have me := List.mem_of_getElem? he
      have re := memS e me
      obtain ⟨te, ne, nme, le⟩ := facts (by omega) re
      have s8a := s8.trans sx
      have ne' := (nS e me).same sx
      walk_at "rd"
      walk_at "rdx"
      refine ⟨b, e.2, libOf pl [], e.1, o, t, rfl, hl7.same s8a, ne', ovx ne' te le, by omega, t9, ne, by omega, fun G ndG lG hG => (no2 ndG lG fun x hx => inF t9 (Nat.le_refl _) (Rc.comp.mpr ⟨_, re, hG x hx⟩)).elim, fun F2 nd2 mem2 _ p2 H9 s9 rw2 => ?_⟩
      obtain ⟨S2, hS2, eS2, nS2⟩ := rw2
      have l2 : S2.length ≤ 150 := by
        have h1 : S2.length = F2.length := by rw [← (sortG_perm F2).length_eq, eS2, List.length_map]
        have := nd_len nd2 fun x hx => inF t9 (Nat.le_refl _) (Rc.comp.mpr ⟨_, re, (mem2 x).mp hx⟩)
        omega
      have m2' : ∀ x, x ∈ S2.map (·.1) ↔ Rc (usableC (libOf pl []).cv (t : Nat)) e.1 o x := fun x => by
        rw [← eS2, (sortG_perm F2).mem_iff]
        exact mem2 x
      have iS : i < 150 := by
        rw [List.length_map] at hi
        omega
      have bd : N.length + S2.length ≤ 22500 := by
        have : 150 * i ≤ 150 * 149 := Nat.mul_le_mul_left _ (by omega)
        omega
      refine ⟨p2, rfl, _, .inr (sqt_of hS2), fun l hl => ?_⟩
      have sA := same_new (o := .lst (S2.map fun e => V.ref e.2)) hl
      have fA : upd H9 l (.lst (S2.map fun e => V.ref e.2)) l = some (.lst (S2.map fun e => V.ref e.2)) := upd_same
      generalize upd H9 l (.lst (S2.map fun e => V.ref e.2)) = HA at *
      have hNA := (hN.same s9).same sA
      refine Lv.catL hNA.at_ fA (sz100 (by rw [List.length_map, List.length_map]; omega)) fun r hr => ?_
      rw [← List.map_append]
      have sB := same_new (o := .lst ((N ++ S2).map fun e => V.ref e.2)) hr
      have fB : upd HA r (.lst ((N ++ S2).map fun e => V.ref e.2)) r = some (.lst ((N ++ S2).map fun e => V.ref e.2)) := upd_same
      generalize upd HA r (.lst ((N ++ S2).map fun e => V.ref e.2)) = HB at *
      refine ⟨r, _, rfl, ((sx.trans s9).trans sA).trans sB, N ++ S2, ⟨fB, fun z hz => ?_⟩, by rw [List.length_append]; omega, fun x => ?_⟩
      · rcases List.mem_append.mp hz with hz | hz
        · exact (hNA.ns z hz).same sB
        · exact ((nS2 z hz).same sA).same sB
      · rw [List.map_append, List.mem_append, mN x, m2' x]
        constructor
        · rintro (⟨j, e', h1, h2, h3⟩ | h)
          · exact ⟨j, e', by omega, h2, h3⟩
          · exact ⟨i, e, by omega, he, h⟩
        · rintro ⟨j, e', h1, h2, h3⟩
          by_cases c : j = i
          · rw [c, he] at h2
            cases h2
            exact .inr h3
          · exact .inl ⟨j, e', by omega, h2, h3⟩
    rintro σ HC ⟨fl', x8, rfl, sx, N, hN, lN, mN⟩
    refine hN4 _ _ ?_
    clear hN4
    have s7C := s8.trans sx
    have memN : ∀ x, x ∈ N.map (·.1) ↔ Rc (usableC (libOf pl []).cv (t : Nat)) g (m + o) x := fun x => by
      rw [mN x, Rc.comp]
      constructor
      · rintro ⟨j, e, _, h2, h3⟩
        exact ⟨e.1, memS e (List.mem_of_getElem? h2), h3⟩
      · rintro ⟨k, h1, h2⟩
        have : k ∈ S.map (·.1) := by
          rw [← eS, (sortG_perm F1).mem_iff]
          exact (mem1 k).mpr h1
        obtain ⟨e, he, rfl⟩ := List.mem_map.mp this
        obtain ⟨j, hj, ej⟩ := List.getElem_of_mem he
        exact ⟨j, e, by rw [List.length_map]; exact hj, by rw [List.getElem?_eq_getElem hj, ej], h2⟩
    have lNS : N.length ≤ 22500 := by
      rw [List.length_map] at lN
      have : 150 * S.length ≤ 150 * 150 := Nat.mul_le_mul_left _ lS
      omega
    have G8 := G7.trans (Gr.same G7.dice s7C)
    have hl8 := hl7.same s7C
    have hn8 := hn7.same s7C
    clear mN lN memS eS nS hS f8 f7 s8 sx lS mem1 nd1 hl7 hn7 G7 s7C hp7 hfl
    refine seqN fun N5 hN5 => ?_
    walk_at "rd"
    walk_at "rdx"
    have neN : ∀ e ∈ N, e.1 ≠ [] := fun e he => (facts (by omega) ((memN e.1).mp (List.mem_map_of_mem he))).2.1
    have inN : ∀ e ∈ N, e.1 ∈ F0 := fun e he => inF t9 (Nat.le_refl _) ((memN e.1).mp (List.mem_map_of_mem he))
    refine set_sort hN neN ⟨F0, by omega, inN⟩ fun p3 HD FS sD rwD ndD memD => ?_
    rw [emo]
    refine ⟨b, n, libOf pl [], g, m + o, t, rfl, hl8.same sD, hn8.same sD, ovx (hn8.same sD) ty (by omega), by omega, t9, gne, by omega, fun G ndG lG hG => (no2 ndG lG fun x hx => inF t9 (Nat.le_refl _) (hG x hx)).elim, fun F3 nd3 mem3 _ p4 HE sE rwE => ?_⟩
    have eG : sortG FS = sortG F3 := sortG_of ndD nd3 fun x => (memD x).trans ((memN x).trans (mem3 x).symm)
    rw [← eG] at rwE
    have okS : ∀ x ∈ sortG FS, (∀ z ∈ x, isNm z = true) ∧ x.length ≤ 466 := fun x hx => by
      have := facts (by omega) ((memN x).mp ((memD x).mp ((sortG_perm FS).mem_iff.mp hx)))
      exact ⟨this.2.2.1, by omega⟩
    refine ne_same (rwD.same sE) rwE okS ⟨_, rfl, iteN (by decide) (hN5 _ _ ?_)⟩
    clear hN5
    have sCE := sD.trans sE
    have G9 := G8.trans (Gr.same G8.dice sCE)
    have hl9 := hl8.same sCE
    have hn9 := hn8.same sCE
    have hN9 := hN.same sCE
    clear G8 hl8 hn8 hN sCE sD sE rwD rwE eG okS nd3 mem3 ndD memD
    refine seqN fun N6 hN6 => ?_
    walk_at "rd"
    walk_at "rdx"
    refine ⟨⟨_, sql_of hN9.at_⟩, ?_⟩
    refine lc_filt (walk_list (xs := N.map fun e => V.ref e.2)) (fun _ => false) (by rw [List.length_map]; exact sz100 (by omega)) (fun H' s => sql_of (s _ _ hN9.at_)) ?_ ?_
    · rintro x H3 hx hS C C' c1 c2
      obtain ⟨e, he, rfl⟩ := List.mem_map.mp hx
      have re := (memN e.1).mp (List.mem_map_of_mem he)
      have ke := facts (by omega) re
      walk_at "rd"
      walk_at "rdx"
      rw [emo]
      refine ⟨b, n, libOf pl [], g, m + o, 9, rfl, hl9.same hS, hn9.same hS, ovx (hn9.same hS) ty (by omega), by omega, by decide, gne, by omega, fun G ndG lG hG => (no2 ndG lG fun x hx => inF (Nat.le_refl 9) (Nat.le_refl _) (hG x hx)).elim, fun F9 nd9 mem9 _ p9 H4 s4 rw9 => ?_⟩
      have ok9 : ∀ x ∈ sortG F9, (∀ z ∈ x, isNm z = true) ∧ x.length ≤ 466 := fun x hx => by
        have := facts (by omega) ((mem9 x).mp ((sortG_perm F9).mem_iff.mp hx))
        exact ⟨this.2.2.1, by omega⟩
      have m9 : e.1 ∈ sortG F9 := (sortG_perm F9).mem_iff.mpr ((mem9 e.1).mpr (Rc.sub (us_sub (by omega)) re))
      have any9 : ((sortG F9).map dS).any (fun z => PyData.eqv z (dS e.1)) = true := List.any_eq_true.mpr ⟨dS e.1, List.mem_map_of_mem m9, by simp [dS, PyData.eqv, eqvS]⟩
      refine ⟨dS e.1, (sortG F9).map dS, .tup (sqt_of ((hN9.ns e he).same (hS.trans s4)).at_) (dpS e.1), rw9.dp, (gd_words ke.2.2.1 (by omega)).shaped (by decide), (gd_types ok9).shaped (by decide), ?_⟩
      rw [any9]
      exact ⟨_, rfl, iteN (by decide) (c2 rfl _ s4)⟩
    intro HF D sF nD hD
    rw [show (N.map fun e => V.ref e.2).filter (fun _ => false) = [] from List.filter_eq_nil_iff.mpr fun _ _ => by decide] at hD
    refine ⟨by decide, fun p5 hp5 => ?_⟩
    have sG := same_new (o := .lst []) hp5
    have fG : upd HF p5 (.lst []) p5 = some (.lst []) := upd_same
    generalize upd HF p5 (.lst []) = HG at *
    refine ⟨D, p5, [], rfl, rfl, sql_of (sG _ _ hD), sql_of fG, _, rfl, iteN (by decide) (hN6 _ _ ?_)⟩
    clear hN6
    have s9 := sF.trans sG
    have G10 := G9.trans (Gr.same G9.dice s9)
    have hl10 := hl9.same s9
    have hn10 := hn9.same s9
    clear G9 hl9 hn9 s9 sF sG hD nD fG hp5 hN9 memN neN inN lNS
    refine seqN fun N7 hN7 => ?_
    walk_at "rd"
    walk_at "rdx"
    refine ⟨by decide, fun p6 hp6 => ?_⟩
    have sI := same_new (o := .lst [V.ref n]) hp6
    have fI : upd HG p6 (.lst [V.ref n]) p6 = some (.lst [V.ref n]) := upd_same
    generalize upd HG p6 (.lst [V.ref n]) = HI at *
    have hl11 := hl10.same sI
    have hn11 := hn10.same sI
    refine ⟨.ref b, .ref n, rfl, .inr ⟨b, libOf pl [], rfl, hl11.lb, .inr ⟨n, g, rfl, hn11.at_, ovx hn11 ty (by omega), hn11.nm, by omega, hl11.lc, hl11.ok, fun out HJ sJ pa p7 hp7 => ?_⟩⟩⟩
    have sK := same_new (o := .lst out) hp7
    have fK : upd HJ p7 (.lst out) p7 = some (.lst out) := upd_same
    generalize upd HJ p7 (.lst out) = HK at *
    obtain ⟨ps, eps⟩ : ∃ ps, ps = pairsC (libOf pl []).cv g := ⟨_, rfl⟩
    rw [← eps] at pa
    obtain ⟨As, lA, hA⟩ := pick_all (P := fun i (p : Nat × List Str) a => ∃ q, out[i]? = some (.ref q) ∧ HJ q = some (.tup [.int (p.1 : Nat), .ref a]) ∧ HJ a = some (.tup (p.2.map V.str))) ps fun i p e => by
      obtain ⟨q, a, h1, h2, h3⟩ := pa.2 i p e
      exact ⟨a, q, h1, h2, h3⟩
    have lps : ps.length ≤ 16 := by
      rw [eps]
      exact Nat.le_trans (pairsTo_len _ _ _) hl11.lc
    refine ⟨⟨_, sql_of fK⟩, lc_same (walk_list (xs := out)) (fun i => V.ref (As[i]?.getD 0)) (sz100 (by rw [pa.1]; omega)) (fun H' s => sql_of (s _ _ fK)) ?_ (fun _ _ _ _ _ h f => h _ _ f) mono_yes ?_⟩
    · rintro i v Ka Kb hi sa ⟨rfl, hv⟩ R hR
      rw [pa.1] at hi
      obtain ⟨a', ha', q', h1, h2, h3⟩ := hA i _ (List.getElem?_eq_getElem hi)
      rw [h1] at hv
      cases hv
      walk_at "rd"
      walk_at "rdx"
      refine ⟨q', _, 1, _, rfl, rfl, sqt_of (sa _ _ (sK _ _ h2)), rfl, ?_⟩
      have := hR _ (Same.refl _)
      rw [ha'] at this
      exact this
    intro HL D sL nD hD
    obtain ⟨L, eL⟩ : ∃ L : List (List Str × Addr), L = (List.range ps.length).map fun i => ((ps[i]?.getD (0, [])).2, As[i]?.getD 0) := ⟨_, rfl⟩
    have hD' : HL D = some (.lst (L.map fun e => V.ref e.2)) := by
      rw [hD, eL, List.map_map, pa.1]
      rfl
    have s6L := sJ.trans (sK.trans sL)
    refine Lv.catL (s6L _ _ fI) hD' (sz100 (by rw [eL]; simp; omega)) fun r hr => hN7 _ _ ?_
    clear hN7
    rw [show [V.ref n] ++ L.map (fun e => V.ref e.2) = ((g, n) :: L).map fun e => V.ref e.2 from rfl]
    have sM := same_new (o := .lst (((g, n) :: L).map fun e => V.ref e.2)) hr
    have fM : upd HL r (.lst (((g, n) :: L).map fun e => V.ref e.2)) r = some (.lst (((g, n) :: L).map fun e => V.ref e.2)) := upd_same
    generalize upd HL r (.lst (((g, n) :: L).map fun e => V.ref e.2)) = HM at *
    have s6M := s6L.trans sM
    have hl12 := hl11.same s6M
    have hn12 := hn11.same s6M
    have hNn : LsN HM r ((g, n) :: L) := ⟨fM, fun e he => by
      rcases List.mem_cons.mp he with rfl | he
      · exact hn12
      · rw [eL] at he
        obtain ⟨i, hi, rfl⟩ := List.mem_map.mp he
        have hi := List.mem_range.mp hi
        obtain ⟨a', ha', q', h1, h2, h3⟩ := hA i _ (List.getElem?_eq_getElem hi)
        have st : ∃ c ∈ (libOf pl []).cv, stepC c g = some ps[i].2 := (pairs_mem _ _ _).mp ⟨ps[i], by rw [← eps]; exact List.getElem_mem hi, rfl⟩
        obtain ⟨c, hc, ec⟩ := st
        rw [ha', List.getElem?_eq_getElem hi]
        exact ⟨((sK.trans sL).trans sM) _ _ h3, (step_nm (okU c hc) hn12.nm ec).1, by have := (step_nm (okU c hc) hn12.nm ec).2; show ps[i].2.length ≤ 10000; omega⟩⟩
    have memL : ∀ x, x ∈ ((g, n) :: L).map (·.1) ↔ Rc (usableC (libOf pl []).cv ((9 : Nat) : Int)) g 1 x := fun x => by
      have e1 : L.map (·.1) = ps.map (·.2) := by
        rw [eL, List.map_map]
        apply List.ext_getElem (by simp)
        intro i h1 h2
        have hi : i < ps.length := by simpa using h2
        rw [List.getElem_map, List.getElem_map, List.getElem_range]
        show (ps[i]?.getD (0, [])).2 = _
        rw [List.getElem?_eq_getElem hi]
        rfl
      rw [List.map_cons, List.mem_cons, e1, List.mem_map, eps, pairs_mem]
      constructor
      · rintro (rfl | ⟨c, hc, ec⟩)
        · exact .inl rfl
        · exact .inr ⟨g, c, rfl, (us_all okU c).mpr hc, ec⟩
      · rintro (h | ⟨y, c, h, hc, ec⟩)
        · exact .inl h
        · rw [show y = g from h] at ec
          exact .inr ⟨c, (us_all okU c).mp hc, ec⟩
    have G12 := (G10.trans (Gr.same G10.dice sI)).trans (Gr.same (G10.trans (Gr.same G10.dice sI)).dice s6M)
    clear hl10 hn10 hl11 hn11 sI sJ sK sL sM s6L s6M fM fI fK hD hD' hA pa hp6 hp7 G10
    walk_at "rd"
    walk_at "rdx"
    have lL : ((g, n) :: L).length ≤ 17 := by
      rw [eL, List.length_cons, List.length_map, List.length_range]
      omega
    refine ⟨b, n, libOf pl [], g, 1, 9, rfl, hl12, hn12, ovx hn12 ty (by omega), by decide, by decide, gne, by omega, fun G ndG lG hG => ?_, fun F5 nd5 mem5 _ p8 HP sP rwP => ?_⟩
    · have := nd_len (F := ((g, n) :: L).map (·.1)) ndG fun x hx => (memL x).mpr (hG x hx)
      rw [List.length_map] at this
      omega
    have fct : ∀ x, x ∈ ((g, n) :: L).map (·.1) → tyIn pl.ms pl.bs x ∧ x ≠ [] ∧ (∀ z ∈ x, isNm z = true) ∧ x.length ≤ 115 := fun x hx => facts (by decide) ((memL x).mp hx)
    refine set_sort (hNn.same sP) (fun e he => (fct e.1 (List.mem_map_of_mem he)).2.1) ⟨((g, n) :: L).map (·.1), by rw [List.length_map]; omega, fun e he => List.mem_map_of_mem he⟩ fun p9 HQ FQ sQ rwQ ndQ memQ => ?_
    have eG : sortG FQ = sortG F5 := sortG_of ndQ nd5 fun x => (memQ x).trans ((memL x).trans (mem5 x).symm)
    rw [eG] at rwQ
    have okS : ∀ x ∈ sortG F5, (∀ z ∈ x, isNm z = true) ∧ x.length ≤ 466 := fun x hx => by
      have := fct x ((memL x).mpr ((mem5 x).mp ((sortG_perm F5).mem_iff.mp hx)))
      exact ⟨this.2.2.1, by omega⟩
    exact eq_same (rwP.same sQ) rwQ okS (q _ (G12.trans (Gr.same G12.dice (sP.trans sQ))))
end

local macro_rules | `(tactic| walk_at "rdx") => `(tactic| ((try simp only [tFld, gTup, gLst, gStar, tJs, tFmt, sFld, tSc_eq, tDGet, tMake, tMakeK, tProp, tMeth, tDNewN, tPar3, tFor_eq, tCallN, tListG, tCallG, LiI.tListItems]); try walk_at "rd"))
section
variable {w : World} {K : PySem.W.Frag} {mg : Str → Option Value} {base : Heap}
def spLaw (K : PySem.W.Frag) (cs : List (Addr × Addr)) : Sp := fun vs H Q _ => ∃ (a : Addr) (zs : List Int), vs = [.ref a] ∧ (∀ p ∈ cs, H p.2 = some (.tbl #[])) ∧ zs.length ≤ 63 ∧ SqL K H a (zs.map V.int) ∧ ∀ H', Q (.bl true) H'
theorem gt_sql {L : List (Addr × Str)} {H H0 H1 : Hp} {d s : Addr} {xs : List V} (h : SqL K H s xs) (he : H d = none) (s0 : Same H H0) (g : Gt L d H0 H1) : SqL K H1 s xs := by
  rcases h with (h | ⟨u, h⟩) | h
  · exact .inl (.inl (g.keep _ _ (ne_of_none h he) (fun ps z => nomatch z) (s0 _ _ h)))
  · exact .inl (.inr ⟨u, g.keep _ _ (ne_of_none h he) (fun ps z => nomatch z) (s0 _ _ h)⟩)
  · exact .inr h
theorem ovN_of {l : Lb} {xs : List V} (h : ovB l (some 400) xs = true) : ovB l none xs = true := by
  unfold ovB at *
  simp only [Bool.and_eq_true] at *
  exact ⟨h.1, rfl, h.2.2⟩
theorem lr_of {CL CC a : Addr} {H : Hp} {pl : Pn} (h : LbA K CL CC H a (libOf pl [])) (ok : PnOk pl) : LbR K CL CC H a (libOf pl []) :=
  ⟨h, by show (sortCv pl.cv).length ≤ 16; rw [(show (sortCv pl.cv).Perm pl.cv from List.mergeSort_perm _ _).length_eq]; exact ok.lc, fun c hc => (ok.cv c ((show (sortCv pl.cv).Perm pl.cv from List.mergeSort_perm _ _).mem_iff.mp hc)).1⟩
theorem ok_law (T : Tx K mg) (TB_Library___init__ : LamX.TabB base mg T.c_Library___init__ T.P_Library___init__) : FnG P w K mg base CX0 12 T.f_law T.d_law ["_law_script"] (spLaw K [(T.c_Library___init__, T.P_Library___init__)]) := by
  refine okG T.F_law sc_law (fun vs H Q E h => ?_) (fun cdv A outer s H vs Q E hgd hr h => ?_)
  · obtain ⟨a, zs, rfl, _⟩ := h
    rfl
  · obtain ⟨sa, zs, rfl, hC, zl, hS, q⟩ := h
    refine ⟨_, (pss_cons (ps_set (i := 1) sc_law.nd rfl (Or.inl rfl) (pe_call (ok_law_feed T) (hr.mono (by decide)) (by rfl) T.g__law_feed T.F__law_feed.kp T.b__law_feed .nil pass0 (pa_cons (pv 0) (pa_cons pe_int pa_nil))))
      (pss_cons (ps_set (i := 2) sc_law.nd rfl (Or.inl rfl) (pe_call (ok_law_plain T) (hr.mono (by decide)) (by rfl) T.g__law_plain T.F__law_plain.kp T.b__law_plain .nil pass0 (pa_cons (pv 1) (pa_cons (pe_call (ok_law_pick T) (hr.mono (by decide)) (by rfl) T.g__law_pick T.F__law_pick.kp T.b__law_pick .nil pass0 (pa_cons (pv 1) (pa_cons (pe_lst (pa_cons pe_int (pa_cons pe_int (pa_cons pe_int pa_nil)))) pa_nil))) (pa_cons (pe_call (ok_law_pick T) (hr.mono (by decide)) (by rfl) T.g__law_pick T.F__law_pick.kp T.b__law_pick .nil pass0 (pa_cons (pv 1) (pa_cons (pe_lst (pa_cons pe_int (pa_cons pe_int (pa_cons pe_int pa_nil)))) pa_nil))) pa_nil)))))
      (pss_cons (ps_par (i := 3) (j := 4) (by rfl) sc_law.nd rfl rfl (by decide) rfl rfl (pa_cons (pe_call (ok_law_library T TB_Library___init__) (hr.mono (by decide)) (by rfl) T.g__law_library T.F__law_library.kp T.b__law_library .nil pass0 (pa_cons (pv 2) pa_nil)) (pa_cons (pe_call (ok_law_names T) (hr.mono (by decide)) (by rfl) T.g__law_names T.F__law_names.kp T.b__law_names .nil pass0 (pa_cons (pv 1) (pa_cons (pv 2) (pa_cons pe_int pa_nil)))) pa_nil)) (by rfl))
      (pss_cons (ps_set (i := 5) sc_law.nd rfl (Or.inl rfl) (pe_call (ok_law_long_row T) (hr.mono (by decide)) (by rfl) T.g__law_long_row T.F__law_long_row.kp T.b__law_long_row .nil pass0 (pa_cons (pv 0) (pa_cons (pv 2) (pa_cons (pv 4) pa_nil)))))
      (pss_cons (ps_if (PW.pt (pw_or (pt_cmpR op_notBl (pe_call (ok_is_chain T) (hr.mono (by decide)) (by rfl) T.g_is_chain T.F_is_chain.kp T.b_is_chain .nil passL (pa_cons (pv 3) (pa_cons (pv 5) pa_nil))) pe_bl (nomark _)) (pw_or1 (pt_not (pt_val (pe_call (ok_law_parts_right T) (hr.mono (by decide)) (by rfl) T.g__law_parts_right T.F__law_parts_right.kp T.b__law_parts_right .nil pass0 (pa_cons (pv 3) (pa_cons (pv 5) pa_nil)))))))) (pss_one (ps_ret pe_bl)) pss_nil)
      (pss_one (ps_ret (pe_and (pe_callG (ok_law_reached_right T) hgd (hr.mono (by decide)) (by rfl) T.g__law_reached_right T.F__law_reached_right.kp T.b__law_reached_right .nil pass0 (pa_cons (pv 1) (pa_cons (pv 2) (pa_cons (pv 3) (pa_cons (pv 4) pa_nil))))) (pe_one (pe_callG (ok_law_reached_right T) hgd (hr.mono (by decide)) (by rfl) T.g__law_reached_right T.F__law_reached_right.kp T.b__law_reached_right .nil pass0 (pa_cons (pv 1) (pa_cons (pv 2) (pa_cons (pv 3) (pa_cons (pe_ix ix_tup (pv 5) (pe_un un_neg pe_int) (fun _ _ => rfl)) pa_nil)))))))))))))), ?_⟩
    have hT : LamX.Tabs (tabs T) H := by
      intro p hp
      simp only [tabs, List.mem_cons, List.not_mem_nil, or_false] at hp
      rcases hp with rfl
      exact LamX.TabS.nil (hC (T.c_Library___init__, T.P_Library___init__) (by simp))
    clear hC
    refine seqN fun N1 hN1 => ?_
    walk_at "rd"
    walk_at "rdx"
    refine ⟨sa, zs, 0, rfl, hS, by decide, fun d x y z hd => hN1 _ _ ?_⟩
    clear hN1
    have e0 : Dc (upd H d (.lst [.int x, .int y, .int z])) d := ⟨x, y, z, upd_same⟩
    have s0 := same_new (o := .lst [.int x, .int y, .int z]) hd
    have t0 : LamX.Tabs (tabs T) (upd H d (.lst [.int x, .int y, .int z])) := hT.ext s0
    have hS0 := sqL_same hS s0
    generalize upd H d (.lst [.int x, .int y, .int z]) = H0 at *
    refine seqN fun N2 hN2 => ?_
    walk_at "rd"
    walk_at "rdx"
    refine ⟨by decide, fun p1 hp1 => .inl (pick_new e0 hp1 (by simp) (by simp) fun y1 H1 hy g1 => ?_)⟩
    obtain ⟨k, rfl, k16⟩ : ∃ k : Nat, y1 = .int k ∧ k ≤ 16 := by
      simp only [List.mem_cons, List.not_mem_nil, or_false] at hy
      rcases hy with h | h | h <;> subst h
      · exact ⟨3, rfl, by decide⟩
      · exact ⟨5, rfl, by decide⟩
      · exact ⟨8, rfl, by decide⟩
    refine ⟨by decide, fun p2 hp2 => .inl (pick_new g1.dice hp2 (by simp) (by simp) fun y2 H1' hy g1' => ?_)⟩
    obtain ⟨k2, rfl, k23⟩ : ∃ k : Nat, y2 = .int k ∧ k ≤ 3 := by
      simp only [List.mem_cons, List.not_mem_nil, or_false] at hy
      rcases hy with h | h | h <;> subst h
      · exact ⟨0, rfl, by decide⟩
      · exact ⟨1, rfl, by decide⟩
      · exact ⟨2, rfl, by decide⟩
    refine ⟨d, k, k2, rfl, (g1.trans g1').dice, k16, by omega, by omega, fun a H2 pl g2 pa ok => hN2 _ _ ?_⟩
    clear hN2
    have G2 : Gt (tabs T) d H0 H2 := (Gt.refl e0 t0).gr ((g1.trans g1').trans g2)
    refine seqN fun N3 hN3 => ?_
    walk_at "rd"
    walk_at "rdx"
    refine ⟨d, a, pl, rfl, pa, ok, G2.tabs, fun b H3 x3 t3 l3 => ?_⟩
    have G3 := G2.ext x3 t3
    have pa3 := pa.ext x3
    obtain ⟨am, ab, lc, M, pf⟩ := id pa3
    refine ⟨d, a, am, ab, lc, 6, pl.ms, pl.bs, rfl, G3.dice, pf.sp, ok.nm, by decide, by decide, fun n H4 ws g4 hn ty wl => hN3 _ _ ?_⟩
    clear hN3
    have G4 := G3.gr g4
    have pa4 := pa3.gr g4
    have l4 : LbA K T.C_Library T.C_Candidate H4 b (libOf pl []) := l3.smx (smx_gr g4)
    have nm := ty.nm ok.nm.nm ok.nm.nb
    have hn4 : NsA H4 n ws := ⟨hn, nm.1, by omega⟩
    have sc4 := gt_sql hS hd s0 G4
    clear pf am ab lc M pa3 l3 x3 t3 G3 pa G2 g4 hn g1 g1' g2 hp1 hp2 hS0 t0 e0
    refine seqN fun N4 hN4 => ?_
    walk_at "rd"
    walk_at "rdx"
    refine ⟨sa, a, n, d, zs, pl, ws, rfl, sc4, zl, pa4, ok, hn4, ty, by omega, fun p H5 gs s5 row hdg lk tyg lg => hN4 _ _ ?_⟩
    clear hN4
    have G5 := G4.same s5
    have pa5 := pa4.same s5
    have lr5 := lr_of (l4.same s5) ok
    have hn5 := hn4.same s5
    have ch : ChA H5 (libOf pl []) p gs := ⟨row, (fun e => by rw [e] at hdg; cases hdg), fun g hg => ovN_of (ov_ty (l := libOf pl []) (tyg g hg).1 (by have := (tyg g hg).2; omega)), fun i x y e1 e2 => by
      obtain ⟨c, hc, e⟩ := lk i x y e1 e2
      exact ⟨c, (show (sortCv pl.cv).Perm pl.cv from List.mergeSort_perm _ _).mem_iff.mpr hc, e⟩⟩
    clear row lk hdg s5 sc4 pa4 l4 hn4 G4
    refine seqN fun N5 hN5 => ?_
    walk_at "rd"
    walk_at "rdx"
    refine ⟨.ref b, .ref p, rfl, .inr ⟨b, libOf pl [], some gs, rfl, lr5, ch.is, fun H6 s6 => ?_⟩⟩
    rw [ch.lkB]
    refine ⟨true, true, rfl, rfl, _, rfl, iteN (by decide) ?_⟩
    refine ⟨b, p, libOf pl [], gs, rfl, lr5.same s6, ch.same s6, fun H7 s7 => ⟨_, rfl, iteN (by decide) (hN5 _ _ ?_)⟩⟩
    clear hN5
    have s67 := s6.trans s7
    have G7 := G5.same s67
    have pa7 := pa5.same s67
    have lr7 := lr5.same s67
    have hn7 := hn5.same s67
    have ch7 := ch.same s67
    clear ch hn5 lr5 pa5 G5 s6 s7 s67
    walk_at "rd"
    walk_at "rdx"
    refine ⟨d, a, b, n, pl, ws, rfl, G7.dice, pa7, ok, lr7, hn7, ty, by omega, fun H8 g8 => ⟨_, rfl, iteP rfl ?_⟩⟩
    obtain ⟨⟨bs, hr7, lb, fb⟩, _⟩ := id ch7.row
    have ne := ch7.ne
    obtain ⟨y, hy⟩ : ∃ y, gs.getLast? = some y := ⟨_, List.getLast?_eq_some_getLast ne⟩
    have iy : gs[gs.length - 1]? = some y := by rw [← List.getLast?_eq_getElem?]; exact hy
    obtain ⟨b0, eb0, nb0⟩ := fb _ _ iy
    have at1 : atI (bs.map V.ref) (-1) = some (V.ref b0) := by
      have nb : bs ≠ [] := fun e => by rw [e] at lb; exact ne (List.length_eq_zero_iff.mp lb.symm)
      rw [at_last (by simpa using nb), List.getLast?_map, List.getLast?_eq_getElem?, lb, eb0]
      rfl
    have ly := tyg y (List.mem_of_getLast? hy)
    refine ⟨p, _, -1, _, rfl, rfl, sqt_of (SmT.gr g8 _ _ hr7), at1, ?_⟩
    exact ⟨d, a, b, b0, pl, y, rfl, g8.dice, pa7.gr g8, ok, ⟨lr7.lb.smx (smx_gr g8), lr7.lc, lr7.ok⟩, nb0.gr g8, ly.1, ly.2, fun H9 _ => q H9⟩
end

section
open PySem PySem.Spec PyProof.Rows L2 Lv LamX
theorem law_sp (K : PySem.W.Frag) (cs : List (Addr × Addr)) (H : Hp) (a : Addr) (ns : List Int) (zl : ns.length ≤ 63) (hC : ∀ p ∈ cs, H p.2 = some (.tbl #[])) (hS : SqL K H a (ns.map V.int)) : spLaw K cs [.ref a] H (fun v _ => v = .bl true) E0 :=
  ⟨a, ns, rfl, hC, zl, hS, fun _ => rfl⟩
theorem all_mk {w : World} {K : PySem.W.Frag} {h : Heap} {mg : Str → Option Value} {fa : Addr} (X : K.In h) (G : h.Ns mainGlobals mg) (tab : ∀ y, ((recsOf q).any fun e => e.name == y) = true → TabOf mg h y) (hfa : mg "law" = some (.ref fa))
    {f0 : Addr} {od0 an0 : Option Addr} {sl0 : Array (Option Value)} {oc0 kV0 dc0 pm0 cd0 ct0 : Value}
    {f1 : Addr} {od1 an1 : Option Addr} {sl1 : Array (Option Value)} {oc1 kV1 dc1 pm1 cd1 ct1 : Value}
    {f2 : Addr} {od2 an2 : Option Addr} {sl2 : Array (Option Value)} {oc2 kV2 dc2 pm2 cd2 ct2 : Value}
    {f3 : Addr} {od3 an3 : Option Addr} {sl3 : Array (Option Value)} {oc3 kV3 dc3 pm3 cd3 ct3 : Value}
    {f4 : Addr} {od4 an4 : Option Addr} {sl4 : Array (Option Value)} {oc4 kV4 dc4 pm4 cd4 ct4 : Value}
    {f5 : Addr} {od5 an5 : Option Addr} {sl5 : Array (Option Value)} {oc5 kV5 dc5 pm5 cd5 ct5 : Value}
    {f6 : Addr} {od6 an6 : Option Addr} {sl6 : Array (Option Value)} {oc6 kV6 dc6 pm6 cd6 ct6 : Value}
    {f7 : Addr} {od7 an7 : Option Addr} {sl7 : Array (Option Value)} {oc7 kV7 dc7 pm7 cd7 ct7 : Value}
    {f8 : Addr} {od8 an8 : Option Addr} {sl8 : Array (Option Value)} {oc8 kV8 dc8 pm8 cd8 ct8 : Value}
    {f9 : Addr} {od9 an9 : Option Addr} {sl9 : Array (Option Value)} {oc9 kV9 dc9 pm9 cd9 ct9 : Value}
    {f10 : Addr} {od10 an10 : Option Addr} {sl10 : Array (Option Value)} {oc10 kV10 dc10 pm10 cd10 ct10 : Value}
    {f11 : Addr} {od11 an11 : Option Addr} {sl11 : Array (Option Value)} {oc11 kV11 dc11 pm11 cd11 ct11 : Value}
    {f12 : Addr} {od12 an12 : Option Addr} {sl12 : Array (Option Value)} {oc12 kV12 dc12 pm12 cd12 ct12 : Value}
    {f13 : Addr} {od13 an13 : Option Addr} {sl13 : Array (Option Value)} {oc13 kV13 dc13 pm13 cd13 ct13 : Value}
    {f14 : Addr} {od14 an14 : Option Addr} {sl14 : Array (Option Value)} {oc14 kV14 dc14 pm14 cd14 ct14 : Value}
    {f15 : Addr} {od15 an15 : Option Addr} {sl15 : Array (Option Value)} {oc15 kV15 dc15 pm15 cd15 ct15 : Value}
    {f16 : Addr} {od16 an16 : Option Addr} {sl16 : Array (Option Value)} {oc16 kV16 dc16 pm16 cd16 ct16 : Value}
    {DT16 : Addr} {DC16 : Value} {DD16 : Option Addr} {DN16 : Nat} {DS16 : Array (Option Value)}
    {f17 : Addr} {od17 an17 : Option Addr} {sl17 : Array (Option Value)} {oc17 kV17 dc17 pm17 cd17 ct17 : Value}
    {f18 : Addr} {od18 an18 : Option Addr} {sl18 : Array (Option Value)} {oc18 kV18 dc18 pm18 cd18 ct18 : Value}
    {f19 : Addr} {od19 an19 : Option Addr} {sl19 : Array (Option Value)} {oc19 kV19 dc19 pm19 cd19 ct19 : Value}
    {f20 : Addr} {od20 an20 : Option Addr} {sl20 : Array (Option Value)} {oc20 kV20 dc20 pm20 cd20 ct20 : Value}
    {f21 : Addr} {od21 an21 : Option Addr} {sl21 : Array (Option Value)} {oc21 kV21 dc21 pm21 cd21 ct21 : Value}
    {f22 : Addr} {od22 an22 : Option Addr} {sl22 : Array (Option Value)} {oc22 kV22 dc22 pm22 cd22 ct22 : Value}
    {f23 : Addr} {od23 an23 : Option Addr} {sl23 : Array (Option Value)} {oc23 kV23 dc23 pm23 cd23 ct23 : Value}
    {f24 : Addr} {od24 an24 : Option Addr} {sl24 : Array (Option Value)} {oc24 kV24 dc24 pm24 cd24 ct24 : Value}
    {f25 : Addr} {od25 an25 : Option Addr} {sl25 : Array (Option Value)} {oc25 kV25 dc25 pm25 cd25 ct25 : Value}
    {f26 : Addr} {od26 an26 : Option Addr} {sl26 : Array (Option Value)} {oc26 dc26 pm26 cd26 ct26 : Value}
    {KD26 : Addr}
    {tk26_most : Tok}
    {f27 : Addr} {od27 an27 : Option Addr} {sl27 : Array (Option Value)} {oc27 kV27 dc27 pm27 cd27 ct27 : Value}
    {f28 : Addr} {od28 an28 : Option Addr} {sl28 : Array (Option Value)} {oc28 kV28 dc28 pm28 cd28 ct28 : Value}
    {f29 : Addr} {od29 an29 : Option Addr} {sl29 : Array (Option Value)} {oc29 kV29 dc29 pm29 cd29 ct29 : Value}
    {f30 : Addr} {od30 an30 : Option Addr} {sl30 : Array (Option Value)} {oc30 kV30 dc30 pm30 cd30 ct30 : Value}
    {f31 : Addr} {od31 an31 : Option Addr} {sl31 : Array (Option Value)} {oc31 kV31 dc31 pm31 cd31 ct31 : Value}
    {f32 : Addr} {od32 an32 : Option Addr} {sl32 : Array (Option Value)} {oc32 kV32 dc32 pm32 cd32 ct32 : Value}
    {f33 : Addr} {od33 an33 : Option Addr} {sl33 : Array (Option Value)} {oc33 kV33 dc33 pm33 cd33 ct33 : Value}
    {f34 : Addr} {od34 an34 : Option Addr} {sl34 : Array (Option Value)} {oc34 kV34 dc34 pm34 cd34 ct34 : Value}
    {f35 : Addr} {od35 an35 : Option Addr} {sl35 : Array (Option Value)} {oc35 kV35 dc35 pm35 cd35 ct35 : Value}
    {f36 : Addr} {od36 an36 : Option Addr} {sl36 : Array (Option Value)} {oc36 kV36 dc36 pm36 cd36 ct36 : Value}
    {f37 : Addr} {od37 an37 : Option Addr} {sl37 : Array (Option Value)} {oc37 kV37 dc37 pm37 cd37 ct37 : Value}
    {f38 : Addr} {od38 an38 : Option Addr} {sl38 : Array (Option Value)} {oc38 kV38 dc38 pm38 cd38 ct38 : Value}
    {f39 : Addr} {od39 an39 : Option Addr} {sl39 : Array (Option Value)} {oc39 kV39 dc39 pm39 cd39 ct39 : Value}
    {f40 : Addr} {od40 an40 : Option Addr} {sl40 : Array (Option Value)} {oc40 kV40 dc40 pm40 cd40 ct40 : Value}
    {f41 : Addr} {od41 an41 : Option Addr} {sl41 : Array (Option Value)} {oc41 kV41 dc41 pm41 cd41 ct41 : Value}
    {f42 : Addr} {od42 an42 : Option Addr} {sl42 : Array (Option Value)} {oc42 kV42 dc42 pm42 cd42 ct42 : Value}
    {f43 : Addr} {od43 an43 : Option Addr} {sl43 : Array (Option Value)} {oc43 kV43 dc43 pm43 cd43 ct43 : Value}
    {f44 : Addr} {od44 an44 : Option Addr} {sl44 : Array (Option Value)} {oc44 kV44 dc44 pm44 cd44 ct44 : Value}
    {f45 : Addr} {od45 an45 : Option Addr} {sl45 : Array (Option Value)} {oc45 dc45 pm45 cd45 ct45 : Value}
    {KD45 : Addr}
    {e45_conversions : Addr} {eo45_conversions : Option Addr} {en45_conversions : Nat} {es45_conversions : Array (Option Value)}
    {e45_candidates : Addr} {eo45_candidates : Option Addr} {en45_candidates : Nat} {es45_candidates : Array (Option Value)}
    {f46 : Addr} {od46 an46 : Option Addr} {sl46 : Array (Option Value)} {oc46 kV46 dc46 pm46 cd46 ct46 : Value}
    {pa46 : Addr} {re46 : List Value}
    {t_MAX_DEPTH : Tok}
    {t_MAX_RANK : Tok}
    {t_MAX_LETTERS : Tok}
    {a_KEYWORDS : Addr}
    {o_KEYWORDS : Option Addr} {n_KEYWORDS : Nat} {sl_KEYWORDS : Array (Option Value)} {t0_KEYWORDS t1_KEYWORDS : Tok}
    {t_MAX_MARKS : Tok}
    {t_MAX_BASES : Tok}
    {t_MAX_CONVERSIONS : Tok}
    {t_MAX_CANDIDATES : Tok}
    {t_MAX_PATTERNS : Tok}
    {t_MAX_NAMES : Tok}
    {t_MAX_LEFT : Tok}
    {t_MAX_FRONT : Tok}
    {t_MAX_FOUND : Tok}
    {t_MAX_STEPS : Tok}
    {cc45 PP45 : Addr} {ee45 : Value} {dd45 : Option Addr} {uu45 : Array Value} {ll45 : Array (Option Value)}
    {C_InvalidWord : Addr}
    {C_InvalidLibrary : Addr}
    {C_InvalidOperation : Addr}
    {C_Candidate : Addr}
    {C_Library : Addr}
    {C_TooMany : Addr}
    {C_InvalidNumber : Addr}
    {nm_TooMany qn_TooMany : Str} {N_TooMany fI_TooMany cda_TooMany cc_TooMany : Addr} {bs_TooMany bm_TooMany sub_TooMany : List Value} {sn_TooMany : List Str} {ab_TooMany : Bool} {col_TooMany : Option Bool} {dd_TooMany : Option Addr} {k0_TooMany k1_TooMany k2_TooMany k3_TooMany k5_TooMany : Option Value}
    {foc_TooMany fdoc_TooMany fpm_TooMany fct_TooMany ccl_TooMany cll_TooMany : Value} {fod_TooMany fan_TooMany cdd_TooMany cld_TooMany : Option Addr} {fsl_TooMany ccs_TooMany csl_TooMany : Array (Option Value)} {vs_TooMany : Array Value} {file_TooMany : Str} {tf_TooMany : Tok}
    {nm_InvalidNumber qn_InvalidNumber : Str} {N_InvalidNumber fI_InvalidNumber cda_InvalidNumber cc_InvalidNumber : Addr} {bs_InvalidNumber bm_InvalidNumber sub_InvalidNumber : List Value} {sn_InvalidNumber : List Str} {ab_InvalidNumber : Bool} {col_InvalidNumber : Option Bool} {dd_InvalidNumber : Option Addr} {k0_InvalidNumber k1_InvalidNumber k2_InvalidNumber k3_InvalidNumber k5_InvalidNumber : Option Value}
    {foc_InvalidNumber fdoc_InvalidNumber fpm_InvalidNumber fct_InvalidNumber ccl_InvalidNumber cll_InvalidNumber : Value} {fod_InvalidNumber fan_InvalidNumber cdd_InvalidNumber cld_InvalidNumber : Option Addr} {fsl_InvalidNumber ccs_InvalidNumber csl_InvalidNumber : Array (Option Value)} {vs_InvalidNumber : Array Value} {file_InvalidNumber : Str} {tf_InvalidNumber : Tok}
    (qpg_Candidate : PySem.W.plainGet K C_Candidate Str.empty = true)
    (qhd_Candidate : PySem.W.hasDictIn K C_Candidate = true)
    (qpo_Candidate : PySem.W.plainOver K C_Candidate = true)
    (qsa_Candidate : PySem.W.findIn K (.ref C_Candidate) "__setattr__" = some (some (.builtin "object.__setattr__")))
    (kp_Candidate : PySem.W.keepIn K (.ref C_Candidate) = true)
    (qha_Candidate : PySem.W.findIn K (.ref C_Candidate) "__class__" = some (some (.builtin "object.__class__")))
    (qob_Candidate : PySem.W.mroIn K C_Candidate (.type "object") = some true)
    (qne_Candidate : PySem.W.findIn K (.ref C_Candidate) "__ne__" = some (some (.builtin "object.__ne__")))
    (qzs_Candidate : PySem.W.kitOne K (.type "str") (.ref C_Candidate) = some false)
    (qzt_Candidate : PySem.W.kitOne K (.type "tuple") (.ref C_Candidate) = some false)
    (qzn_Candidate : PySem.W.kitOne K (.type "NoneType") (.ref C_Candidate) = some false)
    (qzi_Candidate : PySem.W.kitOne K (.type "int") (.ref C_Candidate) = some false)
    (qzc_Candidate : PySem.W.kitOne K (.ref C_Candidate) (.type "str") = some false)
    (qzl_Candidate : PySem.W.kitOne K (.type "list") (.ref C_Candidate) = some false)
    (qzd_Candidate : PySem.W.kitOne K (.type "dict") (.ref C_Candidate) = some false)
    (qzb_Candidate : PySem.W.kitOne K (.type "bool") (.ref C_Candidate) = some false)
    (qzu_Candidate : PySem.W.kitOne K (.ref C_Candidate) (.type "tuple") = some false)
    (qhn_Candidate : PySem.W.specialIn K (.builtin "object.__class__") "__get__" = some (some (.builtin "getset_descriptor.__get__")))
    (qht_Candidate : PySem.W.takesIn K (.builtin "object.__class__") = some true)
    (qn_Candidate_own_name : PySem.W.findIn K (.ref C_Candidate) "own_name" = some none)
    (qn_Candidate_own_patterns : PySem.W.findIn K (.ref C_Candidate) "own_patterns" = some none)
    (qn_Candidate_own_result : PySem.W.findIn K (.ref C_Candidate) "own_result" = some none)
    (qn_Candidate_own_key : PySem.W.findIn K (.ref C_Candidate) "own_key" = some none)
    (qpg_Library : PySem.W.plainGet K C_Library Str.empty = true)
    (qhd_Library : PySem.W.hasDictIn K C_Library = true)
    (qpo_Library : PySem.W.plainOver K C_Library = true)
    (qsa_Library : PySem.W.findIn K (.ref C_Library) "__setattr__" = some (some (.builtin "object.__setattr__")))
    (kp_Library : PySem.W.keepIn K (.ref C_Library) = true)
    (qha_Library : PySem.W.findIn K (.ref C_Library) "__class__" = some (some (.builtin "object.__class__")))
    (qob_Library : PySem.W.mroIn K C_Library (.type "object") = some true)
    (qne_Library : PySem.W.findIn K (.ref C_Library) "__ne__" = some (some (.builtin "object.__ne__")))
    (qzs_Library : PySem.W.kitOne K (.type "str") (.ref C_Library) = some false)
    (qzt_Library : PySem.W.kitOne K (.type "tuple") (.ref C_Library) = some false)
    (qzn_Library : PySem.W.kitOne K (.type "NoneType") (.ref C_Library) = some false)
    (qzi_Library : PySem.W.kitOne K (.type "int") (.ref C_Library) = some false)
    (qzc_Library : PySem.W.kitOne K (.ref C_Library) (.type "str") = some false)
    (qzl_Library : PySem.W.kitOne K (.type "list") (.ref C_Library) = some false)
    (qzd_Library : PySem.W.kitOne K (.type "dict") (.ref C_Library) = some false)
    (qzb_Library : PySem.W.kitOne K (.type "bool") (.ref C_Library) = some false)
    (qzu_Library : PySem.W.kitOne K (.ref C_Library) (.type "tuple") = some false)
    (qhn_Library : PySem.W.specialIn K (.builtin "object.__class__") "__get__" = some (some (.builtin "getset_descriptor.__get__")))
    (qht_Library : PySem.W.takesIn K (.builtin "object.__class__") = some true)
    (qn_Library_own_marks : PySem.W.findIn K (.ref C_Library) "own_marks" = some none)
    (qn_Library_own_bases : PySem.W.findIn K (.ref C_Library) "own_bases" = some none)
    (qn_Library_own_conversions : PySem.W.findIn K (.ref C_Library) "own_conversions" = some none)
    (qn_Library_own_candidates : PySem.W.findIn K (.ref C_Library) "own_candidates" = some none)
    (qn_Library_own_tables : PySem.W.findIn K (.ref C_Library) "own_tables" = some none)
    (a0 : PySem.W.nsIn K mainGlobals "is_integer" = some (some (.ref f0)))
    (l0 : K.lookup f0 = some ⟨oc0, od0, .func (PySem.W.fnOf "is_integer" "is_integer" (defArgs s_is_integer) (defBody s_is_integer) (defScope s_is_integer) .none kV0 dc0 pm0 an0 cd0 ct0), sl0⟩)
    (c0 : PySem.W.codeIn K cd0 "is_integer" = true)
    (k0 : PySem.W.keepIn K (.ref f0) = true)
    (a1 : PySem.W.nsIn K mainGlobals "is_integer_within" = some (some (.ref f1)))
    (l1 : K.lookup f1 = some ⟨oc1, od1, .func (PySem.W.fnOf "is_integer_within" "is_integer_within" (defArgs s_is_integer_within) (defBody s_is_integer_within) (defScope s_is_integer_within) .none kV1 dc1 pm1 an1 cd1 ct1), sl1⟩)
    (c1 : PySem.W.codeIn K cd1 "is_integer_within" = true)
    (k1 : PySem.W.keepIn K (.ref f1) = true)
    (a2 : PySem.W.nsIn K mainGlobals "is_name" = some (some (.ref f2)))
    (l2 : K.lookup f2 = some ⟨oc2, od2, .func (PySem.W.fnOf "is_name" "is_name" (defArgs s_is_name) (defBody s_is_name) (defScope s_is_name) .none kV2 dc2 pm2 an2 cd2 ct2), sl2⟩)
    (c2 : PySem.W.codeIn K cd2 "is_name" = true)
    (k2 : PySem.W.keepIn K (.ref f2) = true)
    (a3 : PySem.W.nsIn K mainGlobals "is_names" = some (some (.ref f3)))
    (l3 : K.lookup f3 = some ⟨oc3, od3, .func (PySem.W.fnOf "is_names" "is_names" (defArgs s_is_names) (defBody s_is_names) (defScope s_is_names) .none kV3 dc3 pm3 an3 cd3 ct3), sl3⟩)
    (c3 : PySem.W.codeIn K cd3 "is_names" = true)
    (k3 : PySem.W.keepIn K (.ref f3) = true)
    (a4 : PySem.W.nsIn K mainGlobals "is_ascending" = some (some (.ref f4)))
    (l4 : K.lookup f4 = some ⟨oc4, od4, .func (PySem.W.fnOf "is_ascending" "is_ascending" (defArgs s_is_ascending) (defBody s_is_ascending) (defScope s_is_ascending) .none kV4 dc4 pm4 an4 cd4 ct4), sl4⟩)
    (c4 : PySem.W.codeIn K cd4 "is_ascending" = true)
    (k4 : PySem.W.keepIn K (.ref f4) = true)
    (a5 : PySem.W.nsIn K mainGlobals "begins_in" = some (some (.ref f5)))
    (l5 : K.lookup f5 = some ⟨oc5, od5, .func (PySem.W.fnOf "begins_in" "begins_in" (defArgs s_begins_in) (defBody s_begins_in) (defScope s_begins_in) .none kV5 dc5 pm5 an5 cd5 ct5), sl5⟩)
    (c5 : PySem.W.codeIn K cd5 "begins_in" = true)
    (k5 : PySem.W.keepIn K (.ref f5) = true)
    (a6 : PySem.W.nsIn K mainGlobals "is_conversion" = some (some (.ref f6)))
    (l6 : K.lookup f6 = some ⟨oc6, od6, .func (PySem.W.fnOf "is_conversion" "is_conversion" (defArgs s_is_conversion) (defBody s_is_conversion) (defScope s_is_conversion) .none kV6 dc6 pm6 an6 cd6 ct6), sl6⟩)
    (c6 : PySem.W.codeIn K cd6 "is_conversion" = true)
    (k6 : PySem.W.keepIn K (.ref f6) = true)
    (a7 : PySem.W.nsIn K mainGlobals "is_pattern" = some (some (.ref f7)))
    (l7 : K.lookup f7 = some ⟨oc7, od7, .func (PySem.W.fnOf "is_pattern" "is_pattern" (defArgs s_is_pattern) (defBody s_is_pattern) (defScope s_is_pattern) .none kV7 dc7 pm7 an7 cd7 ct7), sl7⟩)
    (c7 : PySem.W.codeIn K cd7 "is_pattern" = true)
    (k7 : PySem.W.keepIn K (.ref f7) = true)
    (a8 : PySem.W.nsIn K mainGlobals "is_result" = some (some (.ref f8)))
    (l8 : K.lookup f8 = some ⟨oc8, od8, .func (PySem.W.fnOf "is_result" "is_result" (defArgs s_is_result) (defBody s_is_result) (defScope s_is_result) .none kV8 dc8 pm8 an8 cd8 ct8), sl8⟩)
    (c8 : PySem.W.codeIn K cd8 "is_result" = true)
    (k8 : PySem.W.keepIn K (.ref f8) = true)
    (a9 : PySem.W.nsIn K mainGlobals "are_patterns" = some (some (.ref f9)))
    (l9 : K.lookup f9 = some ⟨oc9, od9, .func (PySem.W.fnOf "are_patterns" "are_patterns" (defArgs s_are_patterns) (defBody s_are_patterns) (defScope s_are_patterns) .none kV9 dc9 pm9 an9 cd9 ct9), sl9⟩)
    (c9 : PySem.W.codeIn K cd9 "are_patterns" = true)
    (k9 : PySem.W.keepIn K (.ref f9) = true)
    (a10 : PySem.W.nsIn K mainGlobals "names_in_candidate" = some (some (.ref f10)))
    (l10 : K.lookup f10 = some ⟨oc10, od10, .func (PySem.W.fnOf "names_in_candidate" "names_in_candidate" (defArgs s_names_in_candidate) (defBody s_names_in_candidate) (defScope s_names_in_candidate) .none kV10 dc10 pm10 an10 cd10 ct10), sl10⟩)
    (c10 : PySem.W.codeIn K cd10 "names_in_candidate" = true)
    (k10 : PySem.W.keepIn K (.ref f10) = true)
    (a11 : PySem.W.nsIn K mainGlobals "names_in_conversion" = some (some (.ref f11)))
    (l11 : K.lookup f11 = some ⟨oc11, od11, .func (PySem.W.fnOf "names_in_conversion" "names_in_conversion" (defArgs s_names_in_conversion) (defBody s_names_in_conversion) (defScope s_names_in_conversion) .none kV11 dc11 pm11 an11 cd11 ct11), sl11⟩)
    (c11 : PySem.W.codeIn K cd11 "names_in_conversion" = true)
    (k11 : PySem.W.keepIn K (.ref f11) = true)
    (a12 : PySem.W.nsIn K mainGlobals "names_in" = some (some (.ref f12)))
    (l12 : K.lookup f12 = some ⟨oc12, od12, .func (PySem.W.fnOf "names_in" "names_in" (defArgs s_names_in) (defBody s_names_in) (defScope s_names_in) .none kV12 dc12 pm12 an12 cd12 ct12), sl12⟩)
    (c12 : PySem.W.codeIn K cd12 "names_in" = true)
    (k12 : PySem.W.keepIn K (.ref f12) = true)
    (a13 : PySem.W.nsIn K mainGlobals "are_items" = some (some (.ref f13)))
    (l13 : K.lookup f13 = some ⟨oc13, od13, .func (PySem.W.fnOf "are_items" "are_items" (defArgs s_are_items) (defBody s_are_items) (defScope s_are_items) .none kV13 dc13 pm13 an13 cd13 ct13), sl13⟩)
    (c13 : PySem.W.codeIn K cd13 "are_items" = true)
    (k13 : PySem.W.keepIn K (.ref f13) = true)
    (a14 : PySem.W.nsIn K mainGlobals "is_library_of" = some (some (.ref f14)))
    (l14 : K.lookup f14 = some ⟨oc14, od14, .func (PySem.W.fnOf "is_library_of" "is_library_of" (defArgs s_is_library_of) (defBody s_is_library_of) (defScope s_is_library_of) .none kV14 dc14 pm14 an14 cd14 ct14), sl14⟩)
    (c14 : PySem.W.codeIn K cd14 "is_library_of" = true)
    (k14 : PySem.W.keepIn K (.ref f14) = true)
    (a15 : PySem.W.nsIn K mainGlobals "require_library" = some (some (.ref f15)))
    (l15 : K.lookup f15 = some ⟨oc15, od15, .func (PySem.W.fnOf "require_library" "require_library" (defArgs s_require_library) (defBody s_require_library) (defScope s_require_library) .none kV15 dc15 pm15 an15 cd15 ct15), sl15⟩)
    (c15 : PySem.W.codeIn K cd15 "require_library" = true)
    (k15 : PySem.W.keepIn K (.ref f15) = true)
    (a16 : PySem.W.nsIn K mainGlobals "is_over" = some (some (.ref f16)))
    (l16 : K.lookup f16 = some ⟨oc16, od16, .func (PySem.W.fnOf "is_over" "is_over" (defArgs s_is_over) (defBody s_is_over) (defScope s_is_over) (.ref DT16) kV16 dc16 pm16 an16 cd16 ct16), sl16⟩)
    (c16 : PySem.W.codeIn K cd16 "is_over" = true)
    (k16 : PySem.W.keepIn K (.ref f16) = true)
    (ld16 : K.lookup DT16 = some ⟨DC16, DD16, .seq #[.none] DN16, DS16⟩)
    (a17 : PySem.W.nsIn K mainGlobals "require_type" = some (some (.ref f17)))
    (l17 : K.lookup f17 = some ⟨oc17, od17, .func (PySem.W.fnOf "require_type" "require_type" (defArgs s_require_type) (defBody s_require_type) (defScope s_require_type) .none kV17 dc17 pm17 an17 cd17 ct17), sl17⟩)
    (c17 : PySem.W.codeIn K cd17 "require_type" = true)
    (k17 : PySem.W.keepIn K (.ref f17) = true)
    (a18 : PySem.W.nsIn K mainGlobals "step_in" = some (some (.ref f18)))
    (l18 : K.lookup f18 = some ⟨oc18, od18, .func (PySem.W.fnOf "step_in" "step_in" (defArgs s_step_in) (defBody s_step_in) (defScope s_step_in) .none kV18 dc18 pm18 an18 cd18 ct18), sl18⟩)
    (c18 : PySem.W.codeIn K cd18 "step_in" = true)
    (k18 : PySem.W.keepIn K (.ref f18) = true)
    (a19 : PySem.W.nsIn K mainGlobals "usable" = some (some (.ref f19)))
    (l19 : K.lookup f19 = some ⟨oc19, od19, .func (PySem.W.fnOf "usable" "usable" (defArgs s_usable) (defBody s_usable) (defScope s_usable) .none kV19 dc19 pm19 an19 cd19 ct19), sl19⟩)
    (c19 : PySem.W.codeIn K cd19 "usable" = true)
    (k19 : PySem.W.keepIn K (.ref f19) = true)
    (a20 : PySem.W.nsIn K mainGlobals "steps" = some (some (.ref f20)))
    (l20 : K.lookup f20 = some ⟨oc20, od20, .func (PySem.W.fnOf "steps" "steps" (defArgs s_steps) (defBody s_steps) (defScope s_steps) .none kV20 dc20 pm20 an20 cd20 ct20), sl20⟩)
    (c20 : PySem.W.codeIn K cd20 "steps" = true)
    (k20 : PySem.W.keepIn K (.ref f20) = true)
    (a21 : PySem.W.nsIn K mainGlobals "step_rank" = some (some (.ref f21)))
    (l21 : K.lookup f21 = some ⟨oc21, od21, .func (PySem.W.fnOf "step_rank" "step_rank" (defArgs s_step_rank) (defBody s_step_rank) (defScope s_step_rank) .none kV21 dc21 pm21 an21 cd21 ct21), sl21⟩)
    (c21 : PySem.W.codeIn K cd21 "step_rank" = true)
    (k21 : PySem.W.keepIn K (.ref f21) = true)
    (a22 : PySem.W.nsIn K mainGlobals "ranks_along" = some (some (.ref f22)))
    (l22 : K.lookup f22 = some ⟨oc22, od22, .func (PySem.W.fnOf "ranks_along" "ranks_along" (defArgs s_ranks_along) (defBody s_ranks_along) (defScope s_ranks_along) .none kV22 dc22 pm22 an22 cd22 ct22), sl22⟩)
    (c22 : PySem.W.codeIn K cd22 "ranks_along" = true)
    (k22 : PySem.W.keepIn K (.ref f22) = true)
    (a23 : PySem.W.nsIn K mainGlobals "are_linked" = some (some (.ref f23)))
    (l23 : K.lookup f23 = some ⟨oc23, od23, .func (PySem.W.fnOf "are_linked" "are_linked" (defArgs s_are_linked) (defBody s_are_linked) (defScope s_are_linked) .none kV23 dc23 pm23 an23 cd23 ct23), sl23⟩)
    (c23 : PySem.W.codeIn K cd23 "are_linked" = true)
    (k23 : PySem.W.keepIn K (.ref f23) = true)
    (a24 : PySem.W.nsIn K mainGlobals "is_chain" = some (some (.ref f24)))
    (l24 : K.lookup f24 = some ⟨oc24, od24, .func (PySem.W.fnOf "is_chain" "is_chain" (defArgs s_is_chain) (defBody s_is_chain) (defScope s_is_chain) .none kV24 dc24 pm24 an24 cd24 ct24), sl24⟩)
    (c24 : PySem.W.codeIn K cd24 "is_chain" = true)
    (k24 : PySem.W.keepIn K (.ref f24) = true)
    (a25 : PySem.W.nsIn K mainGlobals "chain_rank" = some (some (.ref f25)))
    (l25 : K.lookup f25 = some ⟨oc25, od25, .func (PySem.W.fnOf "chain_rank" "chain_rank" (defArgs s_chain_rank) (defBody s_chain_rank) (defScope s_chain_rank) .none kV25 dc25 pm25 an25 cd25 ct25), sl25⟩)
    (c25 : PySem.W.codeIn K cd25 "chain_rank" = true)
    (k25 : PySem.W.keepIn K (.ref f25) = true)
    (a26 : PySem.W.nsIn K mainGlobals "found_within" = some (some (.ref f26)))
    (l26 : K.lookup f26 = some ⟨oc26, od26, .func (PySem.W.fnOf "found_within" "found_within" (defArgs s_found_within) (defBody s_found_within) (defScope s_found_within) .none (.ref KD26) dc26 pm26 an26 cd26 ct26), sl26⟩)
    (c26 : PySem.W.codeIn K cd26 "found_within" = true)
    (k26 : PySem.W.keepIn K (.ref f26) = true)
    (ek26_most : PySem.W.nsIn K KD26 "most" = some (some (.int (9) tk26_most)))
    (a27 : PySem.W.nsIn K mainGlobals "_law_feed" = some (some (.ref f27)))
    (l27 : K.lookup f27 = some ⟨oc27, od27, .func (PySem.W.fnOf "_law_feed" "_law_feed" (defArgs s_law_feed) (defBody s_law_feed) (defScope s_law_feed) .none kV27 dc27 pm27 an27 cd27 ct27), sl27⟩)
    (c27 : PySem.W.codeIn K cd27 "_law_feed" = true)
    (k27 : PySem.W.keepIn K (.ref f27) = true)
    (a28 : PySem.W.nsIn K mainGlobals "_law_draw" = some (some (.ref f28)))
    (l28 : K.lookup f28 = some ⟨oc28, od28, .func (PySem.W.fnOf "_law_draw" "_law_draw" (defArgs s_law_draw) (defBody s_law_draw) (defScope s_law_draw) .none kV28 dc28 pm28 an28 cd28 ct28), sl28⟩)
    (c28 : PySem.W.codeIn K cd28 "_law_draw" = true)
    (k28 : PySem.W.keepIn K (.ref f28) = true)
    (a29 : PySem.W.nsIn K mainGlobals "_law_pick" = some (some (.ref f29)))
    (l29 : K.lookup f29 = some ⟨oc29, od29, .func (PySem.W.fnOf "_law_pick" "_law_pick" (defArgs s_law_pick) (defBody s_law_pick) (defScope s_law_pick) .none kV29 dc29 pm29 an29 cd29 ct29), sl29⟩)
    (c29 : PySem.W.codeIn K cd29 "_law_pick" = true)
    (k29 : PySem.W.keepIn K (.ref f29) = true)
    (a30 : PySem.W.nsIn K mainGlobals "_law_mixed" = some (some (.ref f30)))
    (l30 : K.lookup f30 = some ⟨oc30, od30, .func (PySem.W.fnOf "_law_mixed" "_law_mixed" (defArgs s_law_mixed) (defBody s_law_mixed) (defScope s_law_mixed) .none kV30 dc30 pm30 an30 cd30 ct30), sl30⟩)
    (c30 : PySem.W.codeIn K cd30 "_law_mixed" = true)
    (k30 : PySem.W.keepIn K (.ref f30) = true)
    (a31 : PySem.W.nsIn K mainGlobals "_law_words" = some (some (.ref f31)))
    (l31 : K.lookup f31 = some ⟨oc31, od31, .func (PySem.W.fnOf "_law_words" "_law_words" (defArgs s_law_words) (defBody s_law_words) (defScope s_law_words) .none kV31 dc31 pm31 an31 cd31 ct31), sl31⟩)
    (c31 : PySem.W.codeIn K cd31 "_law_words" = true)
    (k31 : PySem.W.keepIn K (.ref f31) = true)
    (a32 : PySem.W.nsIn K mainGlobals "_law_front" = some (some (.ref f32)))
    (l32 : K.lookup f32 = some ⟨oc32, od32, .func (PySem.W.fnOf "_law_front" "_law_front" (defArgs s_law_front) (defBody s_law_front) (defScope s_law_front) .none kV32 dc32 pm32 an32 cd32 ct32), sl32⟩)
    (c32 : PySem.W.codeIn K cd32 "_law_front" = true)
    (k32 : PySem.W.keepIn K (.ref f32) = true)
    (a33 : PySem.W.nsIn K mainGlobals "_law_names" = some (some (.ref f33)))
    (l33 : K.lookup f33 = some ⟨oc33, od33, .func (PySem.W.fnOf "_law_names" "_law_names" (defArgs s_law_names) (defBody s_law_names) (defScope s_law_names) .none kV33 dc33 pm33 an33 cd33 ct33), sl33⟩)
    (c33 : PySem.W.codeIn K cd33 "_law_names" = true)
    (k33 : PySem.W.keepIn K (.ref f33) = true)
    (a34 : PySem.W.nsIn K mainGlobals "_law_conversion" = some (some (.ref f34)))
    (l34 : K.lookup f34 = some ⟨oc34, od34, .func (PySem.W.fnOf "_law_conversion" "_law_conversion" (defArgs s_law_conversion) (defBody s_law_conversion) (defScope s_law_conversion) .none kV34 dc34 pm34 an34 cd34 ct34), sl34⟩)
    (c34 : PySem.W.codeIn K cd34 "_law_conversion" = true)
    (k34 : PySem.W.keepIn K (.ref f34) = true)
    (a35 : PySem.W.nsIn K mainGlobals "_law_drawn_rows" = some (some (.ref f35)))
    (l35 : K.lookup f35 = some ⟨oc35, od35, .func (PySem.W.fnOf "_law_drawn_rows" "_law_drawn_rows" (defArgs s_law_drawn_rows) (defBody s_law_drawn_rows) (defScope s_law_drawn_rows) .none kV35 dc35 pm35 an35 cd35 ct35), sl35⟩)
    (c35 : PySem.W.codeIn K cd35 "_law_drawn_rows" = true)
    (k35 : PySem.W.keepIn K (.ref f35) = true)
    (a36 : PySem.W.nsIn K mainGlobals "_law_plain" = some (some (.ref f36)))
    (l36 : K.lookup f36 = some ⟨oc36, od36, .func (PySem.W.fnOf "_law_plain" "_law_plain" (defArgs s_law_plain) (defBody s_law_plain) (defScope s_law_plain) .none kV36 dc36 pm36 an36 cd36 ct36), sl36⟩)
    (c36 : PySem.W.codeIn K cd36 "_law_plain" = true)
    (k36 : PySem.W.keepIn K (.ref f36) = true)
    (a37 : PySem.W.nsIn K mainGlobals "_law_library" = some (some (.ref f37)))
    (l37 : K.lookup f37 = some ⟨oc37, od37, .func (PySem.W.fnOf "_law_library" "_law_library" (defArgs s_law_library) (defBody s_law_library) (defScope s_law_library) .none kV37 dc37 pm37 an37 cd37 ct37), sl37⟩)
    (c37 : PySem.W.codeIn K cd37 "_law_library" = true)
    (k37 : PySem.W.keepIn K (.ref f37) = true)
    (a38 : PySem.W.nsIn K mainGlobals "_law_after" = some (some (.ref f38)))
    (l38 : K.lookup f38 = some ⟨oc38, od38, .func (PySem.W.fnOf "_law_after" "_law_after" (defArgs s_law_after) (defBody s_law_after) (defScope s_law_after) .none kV38 dc38 pm38 an38 cd38 ct38), sl38⟩)
    (c38 : PySem.W.codeIn K cd38 "_law_after" = true)
    (k38 : PySem.W.keepIn K (.ref f38) = true)
    (a39 : PySem.W.nsIn K mainGlobals "_law_within" = some (some (.ref f39)))
    (l39 : K.lookup f39 = some ⟨oc39, od39, .func (PySem.W.fnOf "_law_within" "_law_within" (defArgs s_law_within) (defBody s_law_within) (defScope s_law_within) .none kV39 dc39 pm39 an39 cd39 ct39), sl39⟩)
    (c39 : PySem.W.codeIn K cd39 "_law_within" = true)
    (k39 : PySem.W.keepIn K (.ref f39) = true)
    (a40 : PySem.W.nsIn K mainGlobals "_law_long_row" = some (some (.ref f40)))
    (l40 : K.lookup f40 = some ⟨oc40, od40, .func (PySem.W.fnOf "_law_long_row" "_law_long_row" (defArgs s_law_long_row) (defBody s_law_long_row) (defScope s_law_long_row) .none kV40 dc40 pm40 an40 cd40 ct40), sl40⟩)
    (c40 : PySem.W.codeIn K cd40 "_law_long_row" = true)
    (k40 : PySem.W.keepIn K (.ref f40) = true)
    (a41 : PySem.W.nsIn K mainGlobals "_law_parts_right" = some (some (.ref f41)))
    (l41 : K.lookup f41 = some ⟨oc41, od41, .func (PySem.W.fnOf "_law_parts_right" "_law_parts_right" (defArgs s_law_parts_right) (defBody s_law_parts_right) (defScope s_law_parts_right) .none kV41 dc41 pm41 an41 cd41 ct41), sl41⟩)
    (c41 : PySem.W.codeIn K cd41 "_law_parts_right" = true)
    (k41 : PySem.W.keepIn K (.ref f41) = true)
    (a42 : PySem.W.nsIn K mainGlobals "_law_reached_right" = some (some (.ref f42)))
    (l42 : K.lookup f42 = some ⟨oc42, od42, .func (PySem.W.fnOf "_law_reached_right" "_law_reached_right" (defArgs s_law_reached_right) (defBody s_law_reached_right) (defScope s_law_reached_right) .none kV42 dc42 pm42 an42 cd42 ct42), sl42⟩)
    (c42 : PySem.W.codeIn K cd42 "_law_reached_right" = true)
    (k42 : PySem.W.keepIn K (.ref f42) = true)
    (a43 : PySem.W.nsIn K mainGlobals "law" = some (some (.ref f43)))
    (l43 : K.lookup f43 = some ⟨oc43, od43, .func (PySem.W.fnOf "law" "law" (defArgs s_law) (defBody s_law) (defScope s_law) .none kV43 dc43 pm43 an43 cd43 ct43), sl43⟩)
    (c43 : PySem.W.codeIn K cd43 "law" = true)
    (k43 : PySem.W.keepIn K (.ref f43) = true)
    (a44 : PySem.W.findIn K (.ref C_Candidate) "__init__" = some (some (.ref f44)))
    (rf44 : PySem.W.isFn K (.ref f44) = true)
    (rm44 : PySem.W.makesIn K C_Candidate = true)
    (l44 : K.lookup f44 = some ⟨oc44, od44, .func (PySem.W.fnOf "__init__" "Candidate.__init__" (defArgs s_Candidate___init__) (defBody s_Candidate___init__) (defScope s_Candidate___init__) .none kV44 dc44 pm44 an44 cd44 ct44), sl44⟩)
    (c44 : PySem.W.codeIn K cd44 "Candidate.__init__" = true)
    (k44 : PySem.W.keepIn K (.ref f44) = true)
    (a45 : PySem.W.findIn K (.ref C_Library) "__init__" = some (some (.ref f45)))
    (rf45 : PySem.W.isFn K (.ref f45) = true)
    (rm45 : PySem.W.makesIn K C_Library = true)
    (l45 : K.lookup f45 = some ⟨oc45, od45, .func (PySem.W.fnOf "__init__" "Library.__init__" (defArgs s_Library___init__) (defBody s_Library___init__) (defScope s_Library___init__) .none (.ref KD45) dc45 pm45 an45 cd45 ct45), sl45⟩)
    (c45 : PySem.W.codeIn K cd45 "Library.__init__" = true)
    (k45 : PySem.W.keepIn K (.ref f45) = true)
    (ek45_conversions : PySem.W.nsIn K KD45 "conversions" = some (some (.ref e45_conversions)))
    (el45_conversions : K.lookup e45_conversions = some ⟨.type "tuple", eo45_conversions, .seq #[] en45_conversions, es45_conversions⟩)
    (ek45_candidates : PySem.W.nsIn K KD45 "candidates" = some (some (.ref e45_candidates)))
    (el45_candidates : K.lookup e45_candidates = some ⟨.type "tuple", eo45_candidates, .seq #[] en45_candidates, es45_candidates⟩)
    (a46 : PySem.W.findIn K (.ref C_Library) "conversions" = some (some (.ref pa46)))
    (ra46 : PySem.W.recIn K pa46 "property" = some (.ref f46 :: re46))
    (rb46 : PySem.W.specialIn K (.ref pa46) "__get__" = some (some (.builtin "property.__get__")))
    (rd46 : PySem.W.takesIn K (.ref pa46) = some true)
    (l46 : K.lookup f46 = some ⟨oc46, od46, .func (PySem.W.fnOf "conversions" "Library.conversions" (defArgs s_Library_conversions) (defBody s_Library_conversions) (defScope s_Library_conversions) .none kV46 dc46 pm46 an46 cd46 ct46), sl46⟩)
    (c46 : PySem.W.codeIn K cd46 "Library.conversions" = true)
    (k46 : PySem.W.keepIn K (.ref f46) = true)
    (e_MAX_DEPTH : PySem.W.nsIn K mainGlobals "MAX_DEPTH" = some (some (.int (400) t_MAX_DEPTH)))
    (e_MAX_RANK : PySem.W.nsIn K mainGlobals "MAX_RANK" = some (some (.int (9) t_MAX_RANK)))
    (e_MAX_LETTERS : PySem.W.nsIn K mainGlobals "MAX_LETTERS" = some (some (.int (8) t_MAX_LETTERS)))
    (e_KEYWORDS : PySem.W.nsIn K mainGlobals "KEYWORDS" = some (some (.ref a_KEYWORDS)))
    (w_KEYWORDS : K.lookup a_KEYWORDS = some ⟨.type "tuple", o_KEYWORDS, .seq #[.str "gives" t0_KEYWORDS, .str "to" t1_KEYWORDS] n_KEYWORDS, sl_KEYWORDS⟩)
    (e_MAX_MARKS : PySem.W.nsIn K mainGlobals "MAX_MARKS" = some (some (.int (8) t_MAX_MARKS)))
    (e_MAX_BASES : PySem.W.nsIn K mainGlobals "MAX_BASES" = some (some (.int (8) t_MAX_BASES)))
    (e_MAX_CONVERSIONS : PySem.W.nsIn K mainGlobals "MAX_CONVERSIONS" = some (some (.int (16) t_MAX_CONVERSIONS)))
    (e_MAX_CANDIDATES : PySem.W.nsIn K mainGlobals "MAX_CANDIDATES" = some (some (.int (16) t_MAX_CANDIDATES)))
    (e_MAX_PATTERNS : PySem.W.nsIn K mainGlobals "MAX_PATTERNS" = some (some (.int (3) t_MAX_PATTERNS)))
    (e_MAX_NAMES : PySem.W.nsIn K mainGlobals "MAX_NAMES" = some (some (.int (5) t_MAX_NAMES)))
    (e_MAX_LEFT : PySem.W.nsIn K mainGlobals "MAX_LEFT" = some (some (.int (2) t_MAX_LEFT)))
    (e_MAX_FRONT : PySem.W.nsIn K mainGlobals "MAX_FRONT" = some (some (.int (3) t_MAX_FRONT)))
    (e_MAX_FOUND : PySem.W.nsIn K mainGlobals "MAX_FOUND" = some (some (.int (2000) t_MAX_FOUND)))
    (e_MAX_STEPS : PySem.W.nsIn K mainGlobals "MAX_STEPS" = some (some (.int (20) t_MAX_STEPS)))
    (z_abs : PySem.W.nsIn K mainGlobals "abs" = some none)
    (z_all : PySem.W.nsIn K mainGlobals "all" = some none)
    (z_any : PySem.W.nsIn K mainGlobals "any" = some none)
    (z_bool : PySem.W.nsIn K mainGlobals "bool" = some none)
    (z_enumerate : PySem.W.nsIn K mainGlobals "enumerate" = some none)
    (z_int : PySem.W.nsIn K mainGlobals "int" = some none)
    (z_isinstance : PySem.W.nsIn K mainGlobals "isinstance" = some none)
    (z_len : PySem.W.nsIn K mainGlobals "len" = some none)
    (z_list : PySem.W.nsIn K mainGlobals "list" = some none)
    (z_max : PySem.W.nsIn K mainGlobals "max" = some none)
    (z_min : PySem.W.nsIn K mainGlobals "min" = some none)
    (z_one : PySem.W.nsIn K mainGlobals "one" = some none)
    (z_property : PySem.W.nsIn K mainGlobals "property" = some none)
    (z_range : PySem.W.nsIn K mainGlobals "range" = some none)
    (z_set : PySem.W.nsIn K mainGlobals "set" = some none)
    (z_sorted : PySem.W.nsIn K mainGlobals "sorted" = some none)
    (z_str : PySem.W.nsIn K mainGlobals "str" = some none)
    (z_tuple : PySem.W.nsIn K mainGlobals "tuple" = some none)
    (z_zip : PySem.W.nsIn K mainGlobals "zip" = some none)
    (cd45_ : cd45 = .ref cc45)
    (lc45 : K.lookup cc45 = some ⟨ee45, dd45, .fields uu45, ll45⟩)
    (pv45 : uu45[11]? = some (.ref PP45))
    (np45 : K.lookup PP45 = none)
    (hc45 : PySem.W.codeHdIn K cc45 PP45 = true)
    (ht45 : h.get? PP45 = some { cls := .none, data := .fields #[] })
    (e_InvalidWord : PySem.W.nsIn K mainGlobals "InvalidWord" = some (some (.ref C_InvalidWord)))
    (e_InvalidLibrary : PySem.W.nsIn K mainGlobals "InvalidLibrary" = some (some (.ref C_InvalidLibrary)))
    (e_InvalidOperation : PySem.W.nsIn K mainGlobals "InvalidOperation" = some (some (.ref C_InvalidOperation)))
    (e_Candidate : PySem.W.nsIn K mainGlobals "Candidate" = some (some (.ref C_Candidate)))
    (e_Library : PySem.W.nsIn K mainGlobals "Library" = some (some (.ref C_Library)))
    (e_TooMany : PySem.W.nsIn K mainGlobals "TooMany" = some (some (.ref C_TooMany)))
    (e_InvalidNumber : PySem.W.nsIn K mainGlobals "InvalidNumber" = some (some (.ref C_InvalidNumber)))
    (ex_InvalidWord : PySem.W.excIn K C_InvalidWord [.type "ValueError", .type "Exception", .type "BaseException", .type "object"] "ValueError.__new__" = true)
    (kp_InvalidWord : PySem.W.keepIn K (.ref C_InvalidWord) = true)
    (sb_InvalidWord : PySem.W.subIn K (.ref C_InvalidWord) (.type "BaseException") = some true)
    (ty_InvalidWord : PySem.W.typeIn K (.ref C_InvalidWord) = some (.type "type"))
    (hg_InvalidWord : PySem.W.findIn K (.ref C_InvalidWord) "__getattribute__" = some (some (.builtin "BaseException.__getattribute__")))
    (hk_InvalidWord : PySem.W.findIn K (.ref C_InvalidWord) "__getattr__" = some none)
    (hd_InvalidWord : PySem.W.hasDictIn K C_InvalidWord = true)
    (ha_InvalidWord : PySem.W.findIn K (.ref C_InvalidWord) "__class__" = some (some (.builtin "object.__class__")))
    (hn_InvalidWord : PySem.W.specialIn K (.builtin "object.__class__") "__get__" = some (some (.builtin "getset_descriptor.__get__")))
    (ht_InvalidWord : PySem.W.takesIn K (.builtin "object.__class__") = some true)
    (hm_InvalidWord : PySem.W.mroIn K C_InvalidWord (.type "object") = some true)
    (ex_InvalidLibrary : PySem.W.excIn K C_InvalidLibrary [.type "ValueError", .type "Exception", .type "BaseException", .type "object"] "ValueError.__new__" = true)
    (kp_InvalidLibrary : PySem.W.keepIn K (.ref C_InvalidLibrary) = true)
    (sb_InvalidLibrary : PySem.W.subIn K (.ref C_InvalidLibrary) (.type "BaseException") = some true)
    (ty_InvalidLibrary : PySem.W.typeIn K (.ref C_InvalidLibrary) = some (.type "type"))
    (hg_InvalidLibrary : PySem.W.findIn K (.ref C_InvalidLibrary) "__getattribute__" = some (some (.builtin "BaseException.__getattribute__")))
    (hk_InvalidLibrary : PySem.W.findIn K (.ref C_InvalidLibrary) "__getattr__" = some none)
    (hd_InvalidLibrary : PySem.W.hasDictIn K C_InvalidLibrary = true)
    (ha_InvalidLibrary : PySem.W.findIn K (.ref C_InvalidLibrary) "__class__" = some (some (.builtin "object.__class__")))
    (hn_InvalidLibrary : PySem.W.specialIn K (.builtin "object.__class__") "__get__" = some (some (.builtin "getset_descriptor.__get__")))
    (ht_InvalidLibrary : PySem.W.takesIn K (.builtin "object.__class__") = some true)
    (hm_InvalidLibrary : PySem.W.mroIn K C_InvalidLibrary (.type "object") = some true)
    (ex_InvalidOperation : PySem.W.excIn K C_InvalidOperation [.type "ValueError", .type "Exception", .type "BaseException", .type "object"] "ValueError.__new__" = true)
    (kp_InvalidOperation : PySem.W.keepIn K (.ref C_InvalidOperation) = true)
    (sb_InvalidOperation : PySem.W.subIn K (.ref C_InvalidOperation) (.type "BaseException") = some true)
    (ty_InvalidOperation : PySem.W.typeIn K (.ref C_InvalidOperation) = some (.type "type"))
    (hg_InvalidOperation : PySem.W.findIn K (.ref C_InvalidOperation) "__getattribute__" = some (some (.builtin "BaseException.__getattribute__")))
    (hk_InvalidOperation : PySem.W.findIn K (.ref C_InvalidOperation) "__getattr__" = some none)
    (hd_InvalidOperation : PySem.W.hasDictIn K C_InvalidOperation = true)
    (ha_InvalidOperation : PySem.W.findIn K (.ref C_InvalidOperation) "__class__" = some (some (.builtin "object.__class__")))
    (hn_InvalidOperation : PySem.W.specialIn K (.builtin "object.__class__") "__get__" = some (some (.builtin "getset_descriptor.__get__")))
    (ht_InvalidOperation : PySem.W.takesIn K (.builtin "object.__class__") = some true)
    (hm_InvalidOperation : PySem.W.mroIn K C_InvalidOperation (.type "object") = some true)
    (ycl_TooMany : K.lookup C_TooMany = some (excClassObj nm_TooMany qn_TooMany C_TooMany N_TooMany bs_TooMany bm_TooMany true sn_TooMany sub_TooMany ab_TooMany col_TooMany dd_TooMany k0_TooMany k1_TooMany k2_TooMany k3_TooMany k5_TooMany "OverflowError.__new__"))
    (yve_TooMany : PySem.W.excTail PySem.PeB.bOE.tail bm_TooMany = true)
    (ysa_TooMany : PySem.W.findIn K (.ref C_TooMany) "__setattr__" = some (some (.builtin "object.__setattr__")))
    (yga_TooMany : PySem.W.findIn K (.ref C_TooMany) "__getattribute__" = some (some (.builtin "BaseException.__getattribute__")))
    (ygg_TooMany : PySem.W.findIn K (.ref C_TooMany) "__getattr__" = some none)
    (yno_TooMany : PySem.W.findIn K (.ref C_TooMany) "limit" = some none)
    (yic_TooMany : PySem.W.findIn K (.ref C_TooMany) "__init__" = some (some (.ref fI_TooMany)))
    (ytc_TooMany : PySem.W.typeIn K (.ref fI_TooMany) = some (.type "function"))
    (ykc_TooMany : PySem.W.keepIn K (.ref C_TooMany) = true)
    (yex_TooMany : PySem.W.subIn K (.ref C_TooMany) (.type "BaseException") = some true)
    (yvc_TooMany : PySem.W.subIn K (.ref C_TooMany) (.type "OverflowError") = some true)
    (yty_TooMany : PySem.W.typeIn K (.ref C_TooMany) = some (.type "type"))
    (yhd_TooMany : PySem.W.hasDictIn K C_TooMany = true)
    (ysu_TooMany : PySem.W.ks_superIn K C_TooMany C_TooMany "__init__" = some (some (.builtin "OverflowError.__init__")))
    (yop_TooMany : PySem.W.nsIn K cStatics "thirdparty.any" = some none)
    (yms_TooMany : PySem.W.mroIn K C_TooMany (.ref C_TooMany) = some true)
    (yns_TooMany : PySem.W.nsIn K mainGlobals "super" = some none)
    (yto_TooMany : (P.main.scope.names.lookup ("super" : Str)).isSome = false)
    (yfn_TooMany : K.lookup fI_TooMany = some ⟨foc_TooMany, fod_TooMany, .func (PySem.W.ksFn "__init__" "TooMany.__init__" (PySem.PeX.iA "limit" ⟨⟨15, 17, 15, 21⟩, ⟨15, 23, 15, 28⟩, ⟨16, 8, 16, 13⟩, ⟨16, 8, 16, 15⟩, ⟨16, 8, 16, 24⟩, ⟨16, 27, 16, 47⟩, ⟨16, 48, 16, 53⟩, ⟨16, 47, 16, 54⟩, ⟨0, 0, 0, 0⟩, ⟨16, 25, 16, 55⟩, ⟨16, 8, 16, 56⟩, ⟨16, 8, 16, 56⟩, ⟨17, 8, 17, 12⟩, ⟨17, 8, 17, 18⟩, ⟨17, 21, 17, 26⟩, ⟨17, 8, 17, 26⟩⟩) (PySem.PeB.iB2 "limit" "there are more than " "" ⟨⟨15, 17, 15, 21⟩, ⟨15, 23, 15, 28⟩, ⟨16, 8, 16, 13⟩, ⟨16, 8, 16, 15⟩, ⟨16, 8, 16, 24⟩, ⟨16, 27, 16, 47⟩, ⟨16, 48, 16, 53⟩, ⟨16, 47, 16, 54⟩, ⟨0, 0, 0, 0⟩, ⟨16, 25, 16, 55⟩, ⟨16, 8, 16, 56⟩, ⟨16, 8, 16, 56⟩, ⟨17, 8, 17, 12⟩, ⟨17, 8, 17, 18⟩, ⟨17, 21, 17, 26⟩, ⟨17, 8, 17, 26⟩⟩) (PySem.PeX.iS "limit") .none .none fdoc_TooMany fpm_TooMany fan_TooMany (.ref cda_TooMany) fct_TooMany cc_TooMany), fsl_TooMany⟩)
    (yci_TooMany : PySem.W.codeIn K (.ref cda_TooMany) "TooMany.__init__" = true)
    (yce_TooMany : K.lookup cc_TooMany = some ⟨cll_TooMany, cld_TooMany, .cell (some (.ref C_TooMany)), csl_TooMany⟩)
    (yco_TooMany : K.lookup cda_TooMany = some ⟨ccl_TooMany, cdd_TooMany, .fields vs_TooMany, ccs_TooMany⟩)
    (yvs_TooMany : vs_TooMany[2]? = some (.str file_TooMany tf_TooMany))
    (yfi_TooMany : ((P.main.file : Str) == file_TooMany) = true)
    (yha_TooMany : PySem.W.findIn K (.ref C_TooMany) "__class__" = some (some (.builtin "object.__class__")))
    (yhn_TooMany : PySem.W.specialIn K (.builtin "object.__class__") "__get__" = some (some (.builtin "getset_descriptor.__get__")))
    (yht_TooMany : PySem.W.takesIn K (.builtin "object.__class__") = some true)
    (yhm_TooMany : PySem.W.mroIn K C_TooMany (.type "object") = some true)
    (ycl_InvalidNumber : K.lookup C_InvalidNumber = some (excClassObj nm_InvalidNumber qn_InvalidNumber C_InvalidNumber N_InvalidNumber bs_InvalidNumber bm_InvalidNumber true sn_InvalidNumber sub_InvalidNumber ab_InvalidNumber col_InvalidNumber dd_InvalidNumber k0_InvalidNumber k1_InvalidNumber k2_InvalidNumber k3_InvalidNumber k5_InvalidNumber "RuntimeError.__new__"))
    (yve_InvalidNumber : PySem.W.excTail PySem.PeB.bRE.tail bm_InvalidNumber = true)
    (ysa_InvalidNumber : PySem.W.findIn K (.ref C_InvalidNumber) "__setattr__" = some (some (.builtin "object.__setattr__")))
    (yga_InvalidNumber : PySem.W.findIn K (.ref C_InvalidNumber) "__getattribute__" = some (some (.builtin "BaseException.__getattribute__")))
    (ygg_InvalidNumber : PySem.W.findIn K (.ref C_InvalidNumber) "__getattr__" = some none)
    (yno_InvalidNumber : PySem.W.findIn K (.ref C_InvalidNumber) "value" = some none)
    (yic_InvalidNumber : PySem.W.findIn K (.ref C_InvalidNumber) "__init__" = some (some (.ref fI_InvalidNumber)))
    (ytc_InvalidNumber : PySem.W.typeIn K (.ref fI_InvalidNumber) = some (.type "function"))
    (ykc_InvalidNumber : PySem.W.keepIn K (.ref C_InvalidNumber) = true)
    (yex_InvalidNumber : PySem.W.subIn K (.ref C_InvalidNumber) (.type "BaseException") = some true)
    (yvc_InvalidNumber : PySem.W.subIn K (.ref C_InvalidNumber) (.type "RuntimeError") = some true)
    (yty_InvalidNumber : PySem.W.typeIn K (.ref C_InvalidNumber) = some (.type "type"))
    (yhd_InvalidNumber : PySem.W.hasDictIn K C_InvalidNumber = true)
    (ysu_InvalidNumber : PySem.W.ks_superIn K C_InvalidNumber C_InvalidNumber "__init__" = some (some (.builtin "RuntimeError.__init__")))
    (yop_InvalidNumber : PySem.W.nsIn K cStatics "thirdparty.any" = some none)
    (yms_InvalidNumber : PySem.W.mroIn K C_InvalidNumber (.ref C_InvalidNumber) = some true)
    (yns_InvalidNumber : PySem.W.nsIn K mainGlobals "super" = some none)
    (yto_InvalidNumber : (P.main.scope.names.lookup ("super" : Str)).isSome = false)
    (yfn_InvalidNumber : K.lookup fI_InvalidNumber = some ⟨foc_InvalidNumber, fod_InvalidNumber, .func (PySem.W.ksFn "__init__" "InvalidNumber.__init__" (PySem.PeX.iA "value" ⟨⟨20, 17, 20, 21⟩, ⟨20, 23, 20, 28⟩, ⟨21, 8, 21, 13⟩, ⟨21, 8, 21, 15⟩, ⟨21, 8, 21, 24⟩, ⟨0, 0, 0, 0⟩, ⟨21, 28, 21, 33⟩, ⟨21, 27, 21, 34⟩, ⟨21, 34, 21, 63⟩, ⟨21, 25, 21, 64⟩, ⟨21, 8, 21, 65⟩, ⟨21, 8, 21, 65⟩, ⟨22, 8, 22, 12⟩, ⟨22, 8, 22, 18⟩, ⟨22, 21, 22, 26⟩, ⟨22, 8, 22, 26⟩⟩) (PySem.PeB.iB1 "value" "" " is not a number in the range" ⟨⟨20, 17, 20, 21⟩, ⟨20, 23, 20, 28⟩, ⟨21, 8, 21, 13⟩, ⟨21, 8, 21, 15⟩, ⟨21, 8, 21, 24⟩, ⟨0, 0, 0, 0⟩, ⟨21, 28, 21, 33⟩, ⟨21, 27, 21, 34⟩, ⟨21, 34, 21, 63⟩, ⟨21, 25, 21, 64⟩, ⟨21, 8, 21, 65⟩, ⟨21, 8, 21, 65⟩, ⟨22, 8, 22, 12⟩, ⟨22, 8, 22, 18⟩, ⟨22, 21, 22, 26⟩, ⟨22, 8, 22, 26⟩⟩) (PySem.PeX.iS "value") .none .none fdoc_InvalidNumber fpm_InvalidNumber fan_InvalidNumber (.ref cda_InvalidNumber) fct_InvalidNumber cc_InvalidNumber), fsl_InvalidNumber⟩)
    (yci_InvalidNumber : PySem.W.codeIn K (.ref cda_InvalidNumber) "InvalidNumber.__init__" = true)
    (yce_InvalidNumber : K.lookup cc_InvalidNumber = some ⟨cll_InvalidNumber, cld_InvalidNumber, .cell (some (.ref C_InvalidNumber)), csl_InvalidNumber⟩)
    (yco_InvalidNumber : K.lookup cda_InvalidNumber = some ⟨ccl_InvalidNumber, cdd_InvalidNumber, .fields vs_InvalidNumber, ccs_InvalidNumber⟩)
    (yvs_InvalidNumber : vs_InvalidNumber[2]? = some (.str file_InvalidNumber tf_InvalidNumber))
    (yfi_InvalidNumber : ((P.main.file : Str) == file_InvalidNumber) = true)
    (yha_InvalidNumber : PySem.W.findIn K (.ref C_InvalidNumber) "__class__" = some (some (.builtin "object.__class__")))
    (yhn_InvalidNumber : PySem.W.specialIn K (.builtin "object.__class__") "__get__" = some (some (.builtin "getset_descriptor.__get__")))
    (yht_InvalidNumber : PySem.W.takesIn K (.builtin "object.__class__") = some true)
    (yhm_InvalidNumber : PySem.W.mroIn K C_InvalidNumber (.type "object") = some true)
    (zt_InvalidWord : PySem.W.typeIn K (.ref C_InvalidWord) = some (.type "type"))
    (su_InvalidWord_InvalidWord : PySem.W.subIn K (.ref C_InvalidWord) (.ref C_InvalidWord) = some true)
    (zb_InvalidWord : PySem.W.subIn K (.ref C_InvalidWord) (.type "BaseException") = some true)
    (zd_InvalidWord : PySem.W.hasDictIn K C_InvalidWord = true)
    (su_InvalidLibrary_InvalidWord : PySem.W.subIn K (.ref C_InvalidLibrary) (.ref C_InvalidWord) = some false)
    (zt_InvalidLibrary : PySem.W.typeIn K (.ref C_InvalidLibrary) = some (.type "type"))
    (su_InvalidLibrary_InvalidLibrary : PySem.W.subIn K (.ref C_InvalidLibrary) (.ref C_InvalidLibrary) = some true)
    (zb_InvalidLibrary : PySem.W.subIn K (.ref C_InvalidLibrary) (.type "BaseException") = some true)
    (zd_InvalidLibrary : PySem.W.hasDictIn K C_InvalidLibrary = true)
    (su_InvalidOperation_InvalidWord : PySem.W.subIn K (.ref C_InvalidOperation) (.ref C_InvalidWord) = some false)
    (su_InvalidOperation_InvalidLibrary : PySem.W.subIn K (.ref C_InvalidOperation) (.ref C_InvalidLibrary) = some false)
    (zt_InvalidOperation : PySem.W.typeIn K (.ref C_InvalidOperation) = some (.type "type"))
    (su_InvalidOperation_InvalidOperation : PySem.W.subIn K (.ref C_InvalidOperation) (.ref C_InvalidOperation) = some true)
    (zb_InvalidOperation : PySem.W.subIn K (.ref C_InvalidOperation) (.type "BaseException") = some true)
    (zd_InvalidOperation : PySem.W.hasDictIn K C_InvalidOperation = true)
    (zt_Library : PySem.W.typeIn K (.ref C_Library) = some (.type "type"))
    (su_Candidate_Library : PySem.W.subIn K (.ref C_Candidate) (.ref C_Library) = some false)
    (ic_Library : PySem.W.isClsIn K C_Library = true)
    (rq_Candidate_Library : (Value.ref C_Candidate == Value.ref C_Library) = false)
    : ∃ (fd : FuncData) (cs : List (Addr × Addr)), (∀ p ∈ cs, h.get? p.2 = some { cls := .none, data := .fields #[] }) ∧ (∀ p ∈ cs, K.lookup p.2 = none) ∧ (∀ p ∈ cs, PySem.W.CodeHd h p.1 p.2) ∧ (∀ (s : Shared) (v : Value), BindsTo s fd ⟨[v], []⟩ [("_law_script", v)]) ∧
      ∀ base : Heap, K.In base → base.Ns mainGlobals mg → (∀ p ∈ cs, TabB base mg p.1 p.2) → FnG P w K mg base CX0 12 fa fd ["_law_script"] (spLaw K cs) := by
  have e : fa = f43 := Value.ref.inj (Option.some.inj (hfa.symm.trans (PySem.W.mg_of X G a43)))
  rw [e]
  have FD16 : FunD K "is_over" "is_over" (defArgs s_is_over) (defBody s_is_over) (defScope s_is_over) [.non] [] f16 _ := ⟨⟨_, _, _, _, _, _, _, _, _, _, rfl, l16, c16, .inr ⟨(fun z => nomatch z), DT16, _, [.none], _, rfl, ld16, rfl, .cons rfl (.nil)⟩, .inl rfl⟩, k16⟩
  let T : Tx K mg := {
    ha_Candidate := qha_Candidate,
    ob_Candidate := qob_Candidate,
    ne_Candidate := qne_Candidate,
    zs_Candidate := qzs_Candidate,
    zt_Candidate := qzt_Candidate,
    zn_Candidate := qzn_Candidate,
    zi_Candidate := qzi_Candidate,
    zc_Candidate := qzc_Candidate,
    zl_Candidate := qzl_Candidate,
    zd_Candidate := qzd_Candidate,
    zb_Candidate := qzb_Candidate,
    zu_Candidate := qzu_Candidate,
    hn_Candidate := qhn_Candidate,
    ht_Candidate := qht_Candidate,
    cl_Candidate := ⟨qpg_Candidate, qhd_Candidate, qpo_Candidate, qsa_Candidate⟩, kp_Candidate := kp_Candidate,
    no_Candidate_own_name := qn_Candidate_own_name,
    no_Candidate_own_patterns := qn_Candidate_own_patterns,
    no_Candidate_own_result := qn_Candidate_own_result,
    no_Candidate_own_key := qn_Candidate_own_key,
    ha_Library := qha_Library,
    ob_Library := qob_Library,
    ne_Library := qne_Library,
    zs_Library := qzs_Library,
    zt_Library := qzt_Library,
    zn_Library := qzn_Library,
    zi_Library := qzi_Library,
    zc_Library := qzc_Library,
    zl_Library := qzl_Library,
    zd_Library := qzd_Library,
    zb_Library := qzb_Library,
    zu_Library := qzu_Library,
    hn_Library := qhn_Library,
    ht_Library := qht_Library,
    cl_Library := ⟨qpg_Library, qhd_Library, qpo_Library, qsa_Library⟩, kp_Library := kp_Library,
    no_Library_own_marks := qn_Library_own_marks,
    no_Library_own_bases := qn_Library_own_bases,
    no_Library_own_conversions := qn_Library_own_conversions,
    no_Library_own_candidates := qn_Library_own_candidates,
    no_Library_own_tables := qn_Library_own_tables,
    f_is_integer := f0, d_is_integer := _, F_is_integer := fun_mk (st := s_is_integer) l0 c0 k0,
    b_is_integer := (fun_mk (st := s_is_integer) l0 c0 k0).binds (ps := ["value"]) fun _ _ _ _ _ _ us hl => match us, hl with | [_], _ => rfl,
    g_is_integer := PySem.W.mg_of X G a0,
    f_is_integer_within := f1, d_is_integer_within := _, F_is_integer_within := fun_mk (st := s_is_integer_within) l1 c1 k1,
    b_is_integer_within := (fun_mk (st := s_is_integer_within) l1 c1 k1).binds (ps := ["value", "least", "most"]) fun _ _ _ _ _ _ us hl => match us, hl with | [_, _, _], _ => rfl,
    g_is_integer_within := PySem.W.mg_of X G a1,
    f_is_name := f2, d_is_name := _, F_is_name := fun_mk (st := s_is_name) l2 c2 k2,
    b_is_name := (fun_mk (st := s_is_name) l2 c2 k2).binds (ps := ["value"]) fun _ _ _ _ _ _ us hl => match us, hl with | [_], _ => rfl,
    g_is_name := PySem.W.mg_of X G a2,
    f_is_names := f3, d_is_names := _, F_is_names := fun_mk (st := s_is_names) l3 c3 k3,
    b_is_names := (fun_mk (st := s_is_names) l3 c3 k3).binds (ps := ["value", "least", "most"]) fun _ _ _ _ _ _ us hl => match us, hl with | [_, _, _], _ => rfl,
    g_is_names := PySem.W.mg_of X G a3,
    f_is_ascending := f4, d_is_ascending := _, F_is_ascending := fun_mk (st := s_is_ascending) l4 c4 k4,
    b_is_ascending := (fun_mk (st := s_is_ascending) l4 c4 k4).binds (ps := ["values"]) fun _ _ _ _ _ _ us hl => match us, hl with | [_], _ => rfl,
    g_is_ascending := PySem.W.mg_of X G a4,
    f_begins_in := f5, d_begins_in := _, F_begins_in := fun_mk (st := s_begins_in) l5 c5 k5,
    b_begins_in := (fun_mk (st := s_begins_in) l5 c5 k5).binds (ps := ["names", "front"]) fun _ _ _ _ _ _ us hl => match us, hl with | [_, _], _ => rfl,
    g_begins_in := PySem.W.mg_of X G a5,
    f_is_conversion := f6, d_is_conversion := _, F_is_conversion := fun_mk (st := s_is_conversion) l6 c6 k6,
    b_is_conversion := (fun_mk (st := s_is_conversion) l6 c6 k6).binds (ps := ["value"]) fun _ _ _ _ _ _ us hl => match us, hl with | [_], _ => rfl,
    g_is_conversion := PySem.W.mg_of X G a6,
    f_is_pattern := f7, d_is_pattern := _, F_is_pattern := fun_mk (st := s_is_pattern) l7 c7 k7,
    b_is_pattern := (fun_mk (st := s_is_pattern) l7 c7 k7).binds (ps := ["value"]) fun _ _ _ _ _ _ us hl => match us, hl with | [_], _ => rfl,
    g_is_pattern := PySem.W.mg_of X G a7,
    f_is_result := f8, d_is_result := _, F_is_result := fun_mk (st := s_is_result) l8 c8 k8,
    b_is_result := (fun_mk (st := s_is_result) l8 c8 k8).binds (ps := ["value", "patterns"]) fun _ _ _ _ _ _ us hl => match us, hl with | [_, _], _ => rfl,
    g_is_result := PySem.W.mg_of X G a8,
    f_are_patterns := f9, d_are_patterns := _, F_are_patterns := fun_mk (st := s_are_patterns) l9 c9 k9,
    b_are_patterns := (fun_mk (st := s_are_patterns) l9 c9 k9).binds (ps := ["value"]) fun _ _ _ _ _ _ us hl => match us, hl with | [_], _ => rfl,
    g_are_patterns := PySem.W.mg_of X G a9,
    f_names_in_candidate := f10, d_names_in_candidate := _, F_names_in_candidate := fun_mk (st := s_names_in_candidate) l10 c10 k10,
    b_names_in_candidate := (fun_mk (st := s_names_in_candidate) l10 c10 k10).binds (ps := ["candidate"]) fun _ _ _ _ _ _ us hl => match us, hl with | [_], _ => rfl,
    g_names_in_candidate := PySem.W.mg_of X G a10,
    f_names_in_conversion := f11, d_names_in_conversion := _, F_names_in_conversion := fun_mk (st := s_names_in_conversion) l11 c11 k11,
    b_names_in_conversion := (fun_mk (st := s_names_in_conversion) l11 c11 k11).binds (ps := ["conversion"]) fun _ _ _ _ _ _ us hl => match us, hl with | [_], _ => rfl,
    g_names_in_conversion := PySem.W.mg_of X G a11,
    f_names_in := f12, d_names_in := _, F_names_in := fun_mk (st := s_names_in) l12 c12 k12,
    b_names_in := (fun_mk (st := s_names_in) l12 c12 k12).binds (ps := ["item"]) fun _ _ _ _ _ _ us hl => match us, hl with | [_], _ => rfl,
    g_names_in := PySem.W.mg_of X G a12,
    f_are_items := f13, d_are_items := _, F_are_items := fun_mk (st := s_are_items) l13 c13 k13,
    b_are_items := (fun_mk (st := s_are_items) l13 c13 k13).binds (ps := ["conversions", "candidates"]) fun _ _ _ _ _ _ us hl => match us, hl with | [_, _], _ => rfl,
    g_are_items := PySem.W.mg_of X G a13,
    f_is_library_of := f14, d_is_library_of := _, F_is_library_of := fun_mk (st := s_is_library_of) l14 c14 k14,
    b_is_library_of := (fun_mk (st := s_is_library_of) l14 c14 k14).binds (ps := ["marks", "bases", "conversions", "candidates"]) fun _ _ _ _ _ _ us hl => match us, hl with | [_, _, _, _], _ => rfl,
    g_is_library_of := PySem.W.mg_of X G a14,
    f_require_library := f15, d_require_library := _, F_require_library := fun_mk (st := s_require_library) l15 c15 k15,
    b_require_library := (fun_mk (st := s_require_library) l15 c15 k15).binds (ps := ["value"]) fun _ _ _ _ _ _ us hl => match us, hl with | [_], _ => rfl,
    g_require_library := PySem.W.mg_of X G a15,
    f_is_over := f16, d_is_over := _, F_is_over := FD16,
    b_is_over := binds_dflt FD16 (fun z => nomatch z) (fun _ _ _ _ _ _ _ us its l1 l2 => match us, l1, its, l2 with | [_, _, _], _, [_], _ => ⟨_, rfl, rfl⟩),
    g_is_over := PySem.W.mg_of X G a16,
    f_require_type := f17, d_require_type := _, F_require_type := fun_mk (st := s_require_type) l17 c17 k17,
    b_require_type := (fun_mk (st := s_require_type) l17 c17 k17).binds (ps := ["library", "names"]) fun _ _ _ _ _ _ us hl => match us, hl with | [_, _], _ => rfl,
    g_require_type := PySem.W.mg_of X G a17,
    f_step_in := f18, d_step_in := _, F_step_in := fun_mk (st := s_step_in) l18 c18 k18,
    b_step_in := (fun_mk (st := s_step_in) l18 c18 k18).binds (ps := ["conversion", "given"]) fun _ _ _ _ _ _ us hl => match us, hl with | [_, _], _ => rfl,
    g_step_in := PySem.W.mg_of X G a18,
    f_usable := f19, d_usable := _, F_usable := fun_mk (st := s_usable) l19 c19 k19,
    b_usable := (fun_mk (st := s_usable) l19 c19 k19).binds (ps := ["library", "most"]) fun _ _ _ _ _ _ us hl => match us, hl with | [_, _], _ => rfl,
    g_usable := PySem.W.mg_of X G a19,
    f_steps := f20, d_steps := _, F_steps := fun_mk (st := s_steps) l20 c20 k20,
    b_steps := (fun_mk (st := s_steps) l20 c20 k20).binds (ps := ["library", "given"]) fun _ _ _ _ _ _ us hl => match us, hl with | [_, _], _ => rfl,
    g_steps := PySem.W.mg_of X G a20,
    f_step_rank := f21, d_step_rank := _, F_step_rank := fun_mk (st := s_step_rank) l21 c21 k21,
    b_step_rank := (fun_mk (st := s_step_rank) l21 c21 k21).binds (ps := ["library", "one", "other"]) fun _ _ _ _ _ _ us hl => match us, hl with | [_, _, _], _ => rfl,
    g_step_rank := PySem.W.mg_of X G a21,
    f_ranks_along := f22, d_ranks_along := _, F_ranks_along := fun_mk (st := s_ranks_along) l22 c22 k22,
    b_ranks_along := (fun_mk (st := s_ranks_along) l22 c22 k22).binds (ps := ["library", "types"]) fun _ _ _ _ _ _ us hl => match us, hl with | [_, _], _ => rfl,
    g_ranks_along := PySem.W.mg_of X G a22,
    f_are_linked := f23, d_are_linked := _, F_are_linked := fun_mk (st := s_are_linked) l23 c23 k23,
    b_are_linked := (fun_mk (st := s_are_linked) l23 c23 k23).binds (ps := ["library", "value"]) fun _ _ _ _ _ _ us hl => match us, hl with | [_, _], _ => rfl,
    g_are_linked := PySem.W.mg_of X G a23,
    f_is_chain := f24, d_is_chain := _, F_is_chain := fun_mk (st := s_is_chain) l24 c24 k24,
    b_is_chain := (fun_mk (st := s_is_chain) l24 c24 k24).binds (ps := ["library", "value"]) fun _ _ _ _ _ _ us hl => match us, hl with | [_, _], _ => rfl,
    g_is_chain := PySem.W.mg_of X G a24,
    f_chain_rank := f25, d_chain_rank := _, F_chain_rank := fun_mk (st := s_chain_rank) l25 c25 k25,
    b_chain_rank := (fun_mk (st := s_chain_rank) l25 c25 k25).binds (ps := ["library", "chain"]) fun _ _ _ _ _ _ us hl => match us, hl with | [_, _], _ => rfl,
    g_chain_rank := PySem.W.mg_of X G a25,
    f_found_within := f26, d_found_within := _, F_found_within := fun_mk (st := s_found_within) l26 c26 k26,
    t_found_within_most := tk26_most,
    kb0_found_within := ⟨fun s us ws X l1 l2 => match us, l1, ws, l2 with | [_, _, _], _, [], _ => BindsTo.of_looks fun M => KwChain.looks (D := KD26) (l := [("most", .int (9) tk26_most)]) X (by simp only [List.forall_mem_cons, List.not_mem_nil, false_implies, implies_true, and_true, ek26_most, and_self]) ⟨_, _, _, _, _, _, rfl, rfl, rfl⟩, fun r1 r2 => r1.append (r2.append (.cons ⟨_, rfl⟩ (.nil)))⟩,
    kb1_found_within := ⟨fun s us ws X l1 l2 => match us, l1, ws, l2 with | [_, _, _], _, [_], _ => BindsTo.of_looks fun M => KwChain.looks (D := KD26) (l := []) X (by simp only [List.not_mem_nil, false_implies, implies_true]) rfl, fun r1 r2 => r1.append (r2.append (.nil))⟩,
    g_found_within := PySem.W.mg_of X G a26,
    f__law_feed := f27, d__law_feed := _, F__law_feed := fun_mk (st := s_law_feed) l27 c27 k27,
    b__law_feed := (fun_mk (st := s_law_feed) l27 c27 k27).binds (ps := ["_law_script", "_law_at"]) fun _ _ _ _ _ _ us hl => match us, hl with | [_, _], _ => rfl,
    g__law_feed := PySem.W.mg_of X G a27,
    f__law_draw := f28, d__law_draw := _, F__law_draw := fun_mk (st := s_law_draw) l28 c28 k28,
    b__law_draw := (fun_mk (st := s_law_draw) l28 c28 k28).binds (ps := ["_law_feed_here", "_law_count"]) fun _ _ _ _ _ _ us hl => match us, hl with | [_, _], _ => rfl,
    g__law_draw := PySem.W.mg_of X G a28,
    f__law_pick := f29, d__law_pick := _, F__law_pick := fun_mk (st := s_law_pick) l29 c29 k29,
    b__law_pick := (fun_mk (st := s_law_pick) l29 c29 k29).binds (ps := ["_law_feed_here", "_law_items"]) fun _ _ _ _ _ _ us hl => match us, hl with | [_, _], _ => rfl,
    g__law_pick := PySem.W.mg_of X G a29,
    f__law_mixed := f30, d__law_mixed := _, F__law_mixed := fun_mk (st := s_law_mixed) l30 c30 k30,
    b__law_mixed := (fun_mk (st := s_law_mixed) l30 c30 k30).binds (ps := ["_law_feed_here", "_law_items"]) fun _ _ _ _ _ _ us hl => match us, hl with | [_, _], _ => rfl,
    g__law_mixed := PySem.W.mg_of X G a30,
    f__law_words := f31, d__law_words := _, F__law_words := fun_mk (st := s_law_words) l31 c31 k31,
    b__law_words := (fun_mk (st := s_law_words) l31 c31 k31).binds (ps := ["_law_feed_here", "_law_many"]) fun _ _ _ _ _ _ us hl => match us, hl with | [_, _], _ => rfl,
    g__law_words := PySem.W.mg_of X G a31,
    f__law_front := f32, d__law_front := _, F__law_front := fun_mk (st := s_law_front) l32 c32 k32,
    b__law_front := (fun_mk (st := s_law_front) l32 c32 k32).binds (ps := ["_law_feed_here", "_law_plain_here", "_law_size"]) fun _ _ _ _ _ _ us hl => match us, hl with | [_, _, _], _ => rfl,
    g__law_front := PySem.W.mg_of X G a32,
    f__law_names := f33, d__law_names := _, F__law_names := fun_mk (st := s_law_names) l33 c33 k33,
    b__law_names := (fun_mk (st := s_law_names) l33 c33 k33).binds (ps := ["_law_feed_here", "_law_plain_here", "_law_size"]) fun _ _ _ _ _ _ us hl => match us, hl with | [_, _, _], _ => rfl,
    g__law_names := PySem.W.mg_of X G a33,
    f__law_conversion := f34, d__law_conversion := _, F__law_conversion := fun_mk (st := s_law_conversion) l34 c34 k34,
    b__law_conversion := (fun_mk (st := s_law_conversion) l34 c34 k34).binds (ps := ["_law_feed_here", "_law_plain_here", "_law_longer"]) fun _ _ _ _ _ _ us hl => match us, hl with | [_, _, _], _ => rfl,
    g__law_conversion := PySem.W.mg_of X G a34,
    f__law_drawn_rows := f35, d__law_drawn_rows := _, F__law_drawn_rows := fun_mk (st := s_law_drawn_rows) l35 c35 k35,
    b__law_drawn_rows := (fun_mk (st := s_law_drawn_rows) l35 c35 k35).binds (ps := ["_law_feed_here", "_law_plain_here", "_law_many", "_law_longer"]) fun _ _ _ _ _ _ us hl => match us, hl with | [_, _, _, _], _ => rfl,
    g__law_drawn_rows := PySem.W.mg_of X G a35,
    f__law_plain := f36, d__law_plain := _, F__law_plain := fun_mk (st := s_law_plain) l36 c36 k36,
    b__law_plain := (fun_mk (st := s_law_plain) l36 c36 k36).binds (ps := ["_law_feed_here", "_law_many", "_law_longer"]) fun _ _ _ _ _ _ us hl => match us, hl with | [_, _, _], _ => rfl,
    g__law_plain := PySem.W.mg_of X G a36,
    f__law_library := f37, d__law_library := _, F__law_library := fun_mk (st := s_law_library) l37 c37 k37,
    b__law_library := (fun_mk (st := s_law_library) l37 c37 k37).binds (ps := ["_law_plain_here"]) fun _ _ _ _ _ _ us hl => match us, hl with | [_], _ => rfl,
    g__law_library := PySem.W.mg_of X G a37,
    f__law_after := f38, d__law_after := _, F__law_after := fun_mk (st := s_law_after) l38 c38 k38,
    b__law_after := (fun_mk (st := s_law_after) l38 c38 k38).binds (ps := ["_law_conversion_here", "_law_names_here"]) fun _ _ _ _ _ _ us hl => match us, hl with | [_, _], _ => rfl,
    g__law_after := PySem.W.mg_of X G a38,
    f__law_within := f39, d__law_within := _, F__law_within := fun_mk (st := s_law_within) l39 c39 k39,
    b__law_within := (fun_mk (st := s_law_within) l39 c39 k39).binds (ps := ["_law_plain_here", "_law_start", "_law_many", "_law_top", "_law_limit"]) fun _ _ _ _ _ _ us hl => match us, hl with | [_, _, _, _, _], _ => rfl,
    g__law_within := PySem.W.mg_of X G a39,
    f__law_long_row := f40, d__law_long_row := _, F__law_long_row := fun_mk (st := s_law_long_row) l40 c40 k40,
    b__law_long_row := (fun_mk (st := s_law_long_row) l40 c40 k40).binds (ps := ["_law_script", "_law_plain_here", "_law_start"]) fun _ _ _ _ _ _ us hl => match us, hl with | [_, _, _], _ => rfl,
    g__law_long_row := PySem.W.mg_of X G a40,
    f__law_parts_right := f41, d__law_parts_right := _, F__law_parts_right := fun_mk (st := s_law_parts_right) l41 c41 k41,
    b__law_parts_right := (fun_mk (st := s_law_parts_right) l41 c41 k41).binds (ps := ["_law_library_here", "_law_row"]) fun _ _ _ _ _ _ us hl => match us, hl with | [_, _], _ => rfl,
    g__law_parts_right := PySem.W.mg_of X G a41,
    f__law_reached_right := f42, d__law_reached_right := _, F__law_reached_right := fun_mk (st := s_law_reached_right) l42 c42 k42,
    b__law_reached_right := (fun_mk (st := s_law_reached_right) l42 c42 k42).binds (ps := ["_law_feed_here", "_law_plain_here", "_law_library_here", "_law_start"]) fun _ _ _ _ _ _ us hl => match us, hl with | [_, _, _, _], _ => rfl,
    g__law_reached_right := PySem.W.mg_of X G a42,
    f_law := f43, d_law := _, F_law := fun_mk (st := s_law) l43 c43 k43,
    b_law := (fun_mk (st := s_law) l43 c43 k43).binds (ps := ["_law_script"]) fun _ _ _ _ _ _ us hl => match us, hl with | [_], _ => rfl,
    g_law := PySem.W.mg_of X G a43,
    mk_Candidate := ⟨rm44, a44, rf44, kp_Candidate⟩,
    f_Candidate___init__ := f44, d_Candidate___init__ := _, F_Candidate___init__ := fun_mk (st := s_Candidate___init__) l44 c44 k44,
    b_Candidate___init__ := (fun_mk (st := s_Candidate___init__) l44 c44 k44).binds (ps := ["self", "name", "patterns", "result"]) fun _ _ _ _ _ _ us hl => match us, hl with | [_, _, _, _], _ => rfl,
    mk_Library := ⟨rm45, a45, rf45, kp_Library⟩,
    f_Library___init__ := f45, d_Library___init__ := _, F_Library___init__ := fun_mk (st := s_Library___init__) l45 c45 k45,
    e_Library___init___conversions := e45_conversions, q_Library___init___conversions := fun H => .inr ⟨_, _, _, el45_conversions, rfl, rfl, (by show 0 ≤ sizeLine; decide), .nil⟩,
    e_Library___init___candidates := e45_candidates, q_Library___init___candidates := fun H => .inr ⟨_, _, _, el45_candidates, rfl, rfl, (by show 0 ≤ sizeLine; decide), .nil⟩,
    kb0_Library___init__ := ⟨fun s us ws X l1 l2 => match us, l1, ws, l2 with | [_, _, _], _, [], _ => BindsTo.of_looks fun M => KwChain.looks (D := KD45) (l := [("conversions", .ref e45_conversions), ("candidates", .ref e45_candidates)]) X (by simp only [List.forall_mem_cons, List.not_mem_nil, false_implies, implies_true, and_true, ek45_conversions, ek45_candidates, and_self]) ⟨_, _, _, _, _, _, rfl, rfl, ⟨_, _, _, _, _, _, rfl, rfl, rfl⟩⟩, fun r1 r2 => r1.append (r2.append (.cons rfl (.cons rfl (.nil))))⟩,
    kb1_Library___init__ := ⟨fun s us ws X l1 l2 => match us, l1, ws, l2 with | [_, _, _], _, [_], _ => BindsTo.of_looks fun M => KwChain.looks (D := KD45) (l := [("candidates", .ref e45_candidates)]) X (by simp only [List.forall_mem_cons, List.not_mem_nil, false_implies, implies_true, and_true, ek45_candidates, and_self]) ⟨_, _, _, _, _, _, rfl, rfl, rfl⟩, fun r1 r2 => r1.append (r2.append (.cons rfl (.nil)))⟩,
    kb2_Library___init__ := ⟨fun s us ws X l1 l2 => match us, l1, ws, l2 with | [_, _, _], _, [_, _], _ => BindsTo.of_looks fun M => KwChain.looks (D := KD45) (l := []) X (by simp only [List.not_mem_nil, false_implies, implies_true]) rfl, fun r1 r2 => r1.append (r2.append (.nil))⟩,
    pa_Library_conversions := pa46, pr_Library_conversions := ⟨a46, rb46, rd46, _, ra46⟩,
    f_Library_conversions := f46, d_Library_conversions := _, F_Library_conversions := fun_mk (st := s_Library_conversions) l46 c46 k46,
    b_Library_conversions := (fun_mk (st := s_Library_conversions) l46 c46 k46).binds (ps := ["self"]) fun _ _ _ _ _ _ us hl => match us, hl with | [_], _ => rfl,
    t_MAX_DEPTH := t_MAX_DEPTH, m_MAX_DEPTH := PySem.W.mg_of X G e_MAX_DEPTH,
    t_MAX_RANK := t_MAX_RANK, m_MAX_RANK := PySem.W.mg_of X G e_MAX_RANK,
    t_MAX_LETTERS := t_MAX_LETTERS, m_MAX_LETTERS := PySem.W.mg_of X G e_MAX_LETTERS,
    a_KEYWORDS := a_KEYWORDS, m_KEYWORDS := PySem.W.mg_of X G e_KEYWORDS, q_KEYWORDS := fun H => .inr ⟨_, _, _, w_KEYWORDS, rfl, rfl, (by show 2 ≤ sizeLine; decide), .cons ⟨_, rfl⟩ (.cons ⟨_, rfl⟩ (.nil))⟩,
    t_MAX_MARKS := t_MAX_MARKS, m_MAX_MARKS := PySem.W.mg_of X G e_MAX_MARKS,
    t_MAX_BASES := t_MAX_BASES, m_MAX_BASES := PySem.W.mg_of X G e_MAX_BASES,
    t_MAX_CONVERSIONS := t_MAX_CONVERSIONS, m_MAX_CONVERSIONS := PySem.W.mg_of X G e_MAX_CONVERSIONS,
    t_MAX_CANDIDATES := t_MAX_CANDIDATES, m_MAX_CANDIDATES := PySem.W.mg_of X G e_MAX_CANDIDATES,
    t_MAX_PATTERNS := t_MAX_PATTERNS, m_MAX_PATTERNS := PySem.W.mg_of X G e_MAX_PATTERNS,
    t_MAX_NAMES := t_MAX_NAMES, m_MAX_NAMES := PySem.W.mg_of X G e_MAX_NAMES,
    t_MAX_LEFT := t_MAX_LEFT, m_MAX_LEFT := PySem.W.mg_of X G e_MAX_LEFT,
    t_MAX_FRONT := t_MAX_FRONT, m_MAX_FRONT := PySem.W.mg_of X G e_MAX_FRONT,
    t_MAX_FOUND := t_MAX_FOUND, m_MAX_FOUND := PySem.W.mg_of X G e_MAX_FOUND,
    t_MAX_STEPS := t_MAX_STEPS, m_MAX_STEPS := PySem.W.mg_of X G e_MAX_STEPS,
    n_abs := PySem.W.mg_none_of X G z_abs,
    n_all := PySem.W.mg_none_of X G z_all,
    n_any := PySem.W.mg_none_of X G z_any,
    n_bool := PySem.W.mg_none_of X G z_bool,
    n_enumerate := PySem.W.mg_none_of X G z_enumerate,
    n_int := PySem.W.mg_none_of X G z_int,
    n_isinstance := PySem.W.mg_none_of X G z_isinstance,
    n_len := PySem.W.mg_none_of X G z_len,
    n_list := PySem.W.mg_none_of X G z_list,
    n_max := PySem.W.mg_none_of X G z_max,
    n_min := PySem.W.mg_none_of X G z_min,
    n_one := PySem.W.mg_none_of X G z_one,
    n_property := PySem.W.mg_none_of X G z_property,
    n_range := PySem.W.mg_none_of X G z_range,
    n_set := PySem.W.mg_none_of X G z_set,
    n_sorted := PySem.W.mg_none_of X G z_sorted,
    n_str := PySem.W.mg_none_of X G z_str,
    n_tuple := PySem.W.mg_none_of X G z_tuple,
    n_zip := PySem.W.mg_none_of X G z_zip,
    c_Library___init__ := cc45, P_Library___init__ := PP45, k_Library___init__ := cd45_,
    C_InvalidWord := C_InvalidWord, m_InvalidWord := PySem.W.mg_of X G e_InvalidWord,
    C_InvalidLibrary := C_InvalidLibrary, m_InvalidLibrary := PySem.W.mg_of X G e_InvalidLibrary,
    C_InvalidOperation := C_InvalidOperation, m_InvalidOperation := PySem.W.mg_of X G e_InvalidOperation,
    C_Candidate := C_Candidate, m_Candidate := PySem.W.mg_of X G e_Candidate,
    C_Library := C_Library, m_Library := PySem.W.mg_of X G e_Library,
    C_TooMany := C_TooMany, m_TooMany := PySem.W.mg_of X G e_TooMany,
    C_InvalidNumber := C_InvalidNumber, m_InvalidNumber := PySem.W.mg_of X G e_InvalidNumber,
    x_InvalidWord := ⟨PySem.W.mg_of X G e_InvalidWord, ex_InvalidWord, kp_InvalidWord, sb_InvalidWord, ty_InvalidWord, ⟨hg_InvalidWord, hk_InvalidWord, sb_InvalidWord, hd_InvalidWord, ha_InvalidWord, hn_InvalidWord, ht_InvalidWord, hm_InvalidWord⟩⟩,
    x_InvalidLibrary := ⟨PySem.W.mg_of X G e_InvalidLibrary, ex_InvalidLibrary, kp_InvalidLibrary, sb_InvalidLibrary, ty_InvalidLibrary, ⟨hg_InvalidLibrary, hk_InvalidLibrary, sb_InvalidLibrary, hd_InvalidLibrary, ha_InvalidLibrary, hn_InvalidLibrary, ht_InvalidLibrary, hm_InvalidLibrary⟩⟩,
    x_InvalidOperation := ⟨PySem.W.mg_of X G e_InvalidOperation, ex_InvalidOperation, kp_InvalidOperation, sb_InvalidOperation, ty_InvalidOperation, ⟨hg_InvalidOperation, hk_InvalidOperation, sb_InvalidOperation, hd_InvalidOperation, ha_InvalidOperation, hn_InvalidOperation, ht_InvalidOperation, hm_InvalidOperation⟩⟩,
    fI_TooMany := fI_TooMany, p_TooMany := { gC := PySem.W.mg_of X G e_TooMany, cls := ⟨_, _, _, _, _, _, _, _, _, _, _, _, _, _, _, ycl_TooMany, yve_TooMany⟩, sa := ysa_TooMany, ga := yga_TooMany, gg := ygg_TooMany, noN := yno_TooMany, iC := yic_TooMany, tC := ytc_TooMany, kC := ykc_TooMany, exC := yex_TooMany, veC := yvc_TooMany, tyC := yty_TooMany, hdC := yhd_TooMany, sup := ysu_TooMany, op := yop_TooMany, msub := yms_TooMany, nsup := PySem.W.mg_none_of X G yns_TooMany, top := yto_TooMany, fn := ⟨_, _, _, _, _, _, _, _, ⟨⟨15, 17, 15, 21⟩, ⟨15, 23, 15, 28⟩, ⟨16, 8, 16, 13⟩, ⟨16, 8, 16, 15⟩, ⟨16, 8, 16, 24⟩, ⟨16, 27, 16, 47⟩, ⟨16, 48, 16, 53⟩, ⟨16, 47, 16, 54⟩, ⟨0, 0, 0, 0⟩, ⟨16, 25, 16, 55⟩, ⟨16, 8, 16, 56⟩, ⟨16, 8, 16, 56⟩, ⟨17, 8, 17, 12⟩, ⟨17, 8, 17, 18⟩, ⟨17, 21, 17, 26⟩, ⟨17, 8, 17, 26⟩⟩, _, _, _, _, _, _, _, _, _, _, yfn_TooMany, yci_TooMany, yce_TooMany, yco_TooMany, yvs_TooMany, yfi_TooMany, rfl⟩ },
    ec_TooMany := ⟨yga_TooMany, ygg_TooMany, yex_TooMany, yhd_TooMany, yha_TooMany, yhn_TooMany, yht_TooMany, yhm_TooMany⟩,
    fI_InvalidNumber := fI_InvalidNumber, p_InvalidNumber := { gC := PySem.W.mg_of X G e_InvalidNumber, cls := ⟨_, _, _, _, _, _, _, _, _, _, _, _, _, _, _, ycl_InvalidNumber, yve_InvalidNumber⟩, sa := ysa_InvalidNumber, ga := yga_InvalidNumber, gg := ygg_InvalidNumber, noN := yno_InvalidNumber, iC := yic_InvalidNumber, tC := ytc_InvalidNumber, kC := ykc_InvalidNumber, exC := yex_InvalidNumber, veC := yvc_InvalidNumber, tyC := yty_InvalidNumber, hdC := yhd_InvalidNumber, sup := ysu_InvalidNumber, op := yop_InvalidNumber, msub := yms_InvalidNumber, nsup := PySem.W.mg_none_of X G yns_InvalidNumber, top := yto_InvalidNumber, fn := ⟨_, _, _, _, _, _, _, _, ⟨⟨20, 17, 20, 21⟩, ⟨20, 23, 20, 28⟩, ⟨21, 8, 21, 13⟩, ⟨21, 8, 21, 15⟩, ⟨21, 8, 21, 24⟩, ⟨0, 0, 0, 0⟩, ⟨21, 28, 21, 33⟩, ⟨21, 27, 21, 34⟩, ⟨21, 34, 21, 63⟩, ⟨21, 25, 21, 64⟩, ⟨21, 8, 21, 65⟩, ⟨21, 8, 21, 65⟩, ⟨22, 8, 22, 12⟩, ⟨22, 8, 22, 18⟩, ⟨22, 21, 22, 26⟩, ⟨22, 8, 22, 26⟩⟩, _, _, _, _, _, _, _, _, _, _, yfn_InvalidNumber, yci_InvalidNumber, yce_InvalidNumber, yco_InvalidNumber, yvs_InvalidNumber, yfi_InvalidNumber, rfl⟩ },
    ec_InvalidNumber := ⟨yga_InvalidNumber, ygg_InvalidNumber, yex_InvalidNumber, yhd_InvalidNumber, yha_InvalidNumber, yhn_InvalidNumber, yht_InvalidNumber, yhm_InvalidNumber⟩,
    exm_InvalidWord_InvalidWord := PySem.W.exm_ref zb_InvalidWord zd_InvalidWord zt_InvalidWord su_InvalidWord_InvalidWord,
    exm_InvalidLibrary_InvalidWord := PySem.W.exm_ref zb_InvalidWord zd_InvalidWord zt_InvalidWord su_InvalidLibrary_InvalidWord,
    exm_InvalidLibrary_InvalidLibrary := PySem.W.exm_ref zb_InvalidLibrary zd_InvalidLibrary zt_InvalidLibrary su_InvalidLibrary_InvalidLibrary,
    exm_InvalidOperation_InvalidWord := PySem.W.exm_ref zb_InvalidWord zd_InvalidWord zt_InvalidWord su_InvalidOperation_InvalidWord,
    exm_InvalidOperation_InvalidLibrary := PySem.W.exm_ref zb_InvalidLibrary zd_InvalidLibrary zt_InvalidLibrary su_InvalidOperation_InvalidLibrary,
    exm_InvalidOperation_InvalidOperation := PySem.W.exm_ref zb_InvalidOperation zd_InvalidOperation zt_InvalidOperation su_InvalidOperation_InvalidOperation,
    kit_Candidate_Library := kit_sub rq_Candidate_Library zt_Library su_Candidate_Library ic_Library,
    kit_Library_Library := kit_same }
  have t45 : h.get? PP45 = some { cls := .none, data := .fields #[] } ∧ PySem.W.CodeHd h cc45 PP45 := ⟨ht45, PySem.W.codeHd_of_K X hc45⟩
  refine ⟨T.d_law, [(cc45, PP45)], ?_, ?_, ?_, fun s v => .of_eq rfl, fun base _ _ TB => ok_law T (TB (cc45, PP45) (by simp))⟩
  · intro p hp
    simp only [List.mem_cons, List.not_mem_nil, or_false] at hp
    rcases hp with rfl
    · exact t45.1
  · intro p hp
    simp only [List.mem_cons, List.not_mem_nil, or_false] at hp
    rcases hp with rfl
    · exact np45
  · intro p hp
    simp only [List.mem_cons, List.not_mem_nil, or_false] at hp
    rcases hp with rfl
    · exact t45.2
end
end K12
open PySem PySem.W PyProof.Rows
set_option maxHeartbeats 0 in
theorem PySem.Challenge.cw_laterivals_k12_whole_chains_joined_holds : PySem.Challenge.rw_laterivals_k12_whole_chains_joined.Holds := by
  w_on; o_law; k_head; (case hw => w_witness2)
  k_fill
  refine Lv.walkGY (l := PySem.Challenge.rw_laterivals_k12_whole_chains_joined) (n := 63) (k := 12) (x := "_law_script") (sp := K12.spLaw) rfl (by decide) rfl ⟨rfl, by decide, by decide⟩ (fun w h Y => PySem.W.km_in_of Y) ?F K12.law_sp
  case F =>
    intro w mg fa h KX Y G hmg tab
    refine' K12.all_mk KX G tab hmg ?qpg_Candidate ?qhd_Candidate ?qpo_Candidate ?qsa_Candidate ?kp_Candidate ?qha_Candidate ?qob_Candidate ?qne_Candidate ?qzs_Candidate ?qzt_Candidate ?qzn_Candidate ?qzi_Candidate ?qzc_Candidate ?qzl_Candidate ?qzd_Candidate ?qzb_Candidate ?qzu_Candidate ?qhn_Candidate ?qht_Candidate ?qn_Candidate_own_name ?qn_Candidate_own_patterns ?qn_Candidate_own_result ?qn_Candidate_own_key ?qpg_Library ?qhd_Library ?qpo_Library ?qsa_Library ?kp_Library ?qha_Library ?qob_Library ?qne_Library ?qzs_Library ?qzt_Library ?qzn_Library ?qzi_Library ?qzc_Library ?qzl_Library ?qzd_Library ?qzb_Library ?qzu_Library ?qhn_Library ?qht_Library ?qn_Library_own_marks ?qn_Library_own_bases ?qn_Library_own_conversions ?qn_Library_own_candidates ?qn_Library_own_tables ?a0 ?l0 ?c0 ?k0 ?a1 ?l1 ?c1 ?k1 ?a2 ?l2 ?c2 ?k2 ?a3 ?l3 ?c3 ?k3 ?a4 ?l4 ?c4 ?k4 ?a5 ?l5 ?c5 ?k5 ?a6 ?l6 ?c6 ?k6 ?a7 ?l7 ?c7 ?k7 ?a8 ?l8 ?c8 ?k8 ?a9 ?l9 ?c9 ?k9 ?a10 ?l10 ?c10 ?k10 ?a11 ?l11 ?c11 ?k11 ?a12 ?l12 ?c12 ?k12 ?a13 ?l13 ?c13 ?k13 ?a14 ?l14 ?c14 ?k14 ?a15 ?l15 ?c15 ?k15 ?a16 ?l16 ?c16 ?k16 ?ld16 ?a17 ?l17 ?c17 ?k17 ?a18 ?l18 ?c18 ?k18 ?a19 ?l19 ?c19 ?k19 ?a20 ?l20 ?c20 ?k20 ?a21 ?l21 ?c21 ?k21 ?a22 ?l22 ?c22 ?k22 ?a23 ?l23 ?c23 ?k23 ?a24 ?l24 ?c24 ?k24 ?a25 ?l25 ?c25 ?k25 ?a26 ?l26 ?c26 ?k26 ?ek26_most ?a27 ?l27 ?c27 ?k27 ?a28 ?l28 ?c28 ?k28 ?a29 ?l29 ?c29 ?k29 ?a30 ?l30 ?c30 ?k30 ?a31 ?l31 ?c31 ?k31 ?a32 ?l32 ?c32 ?k32 ?a33 ?l33 ?c33 ?k33 ?a34 ?l34 ?c34 ?k34 ?a35 ?l35 ?c35 ?k35 ?a36 ?l36 ?c36 ?k36 ?a37 ?l37 ?c37 ?k37 ?a38 ?l38 ?c38 ?k38 ?a39 ?l39 ?c39 ?k39 ?a40 ?l40 ?c40 ?k40 ?a41 ?l41 ?c41 ?k41 ?a42 ?l42 ?c42 ?k42 ?a43 ?l43 ?c43 ?k43 ?a44 ?rf44 ?rm44 ?l44 ?c44 ?k44 ?a45 ?rf45 ?rm45 ?l45 ?c45 ?k45 ?ek45_conversions ?el45_conversions ?ek45_candidates ?el45_candidates ?a46 ?ra46 ?rb46 ?rd46 ?l46 ?c46 ?k46 ?e_MAX_DEPTH ?e_MAX_RANK ?e_MAX_LETTERS ?e_KEYWORDS ?w_KEYWORDS ?e_MAX_MARKS ?e_MAX_BASES ?e_MAX_CONVERSIONS ?e_MAX_CANDIDATES ?e_MAX_PATTERNS ?e_MAX_NAMES ?e_MAX_LEFT ?e_MAX_FRONT ?e_MAX_FOUND ?e_MAX_STEPS ?z_abs ?z_all ?z_any ?z_bool ?z_enumerate ?z_int ?z_isinstance ?z_len ?z_list ?z_max ?z_min ?z_one ?z_property ?z_range ?z_set ?z_sorted ?z_str ?z_tuple ?z_zip ?cd45_ ?lc45 ?pv45 ?np45 ?hc45 ?ht45 ?e_InvalidWord ?e_InvalidLibrary ?e_InvalidOperation ?e_Candidate ?e_Library ?e_TooMany ?e_InvalidNumber ?ex_InvalidWord ?kp_InvalidWord ?sb_InvalidWord ?ty_InvalidWord ?hg_InvalidWord ?hk_InvalidWord ?hd_InvalidWord ?ha_InvalidWord ?hn_InvalidWord ?ht_InvalidWord ?hm_InvalidWord ?ex_InvalidLibrary ?kp_InvalidLibrary ?sb_InvalidLibrary ?ty_InvalidLibrary ?hg_InvalidLibrary ?hk_InvalidLibrary ?hd_InvalidLibrary ?ha_InvalidLibrary ?hn_InvalidLibrary ?ht_InvalidLibrary ?hm_InvalidLibrary ?ex_InvalidOperation ?kp_InvalidOperation ?sb_InvalidOperation ?ty_InvalidOperation ?hg_InvalidOperation ?hk_InvalidOperation ?hd_InvalidOperation ?ha_InvalidOperation ?hn_InvalidOperation ?ht_InvalidOperation ?hm_InvalidOperation ?ycl_TooMany ?yve_TooMany ?ysa_TooMany ?yga_TooMany ?ygg_TooMany ?yno_TooMany ?yic_TooMany ?ytc_TooMany ?ykc_TooMany ?yex_TooMany ?yvc_TooMany ?yty_TooMany ?yhd_TooMany ?ysu_TooMany ?yop_TooMany ?yms_TooMany ?yns_TooMany ?yto_TooMany ?yfn_TooMany ?yci_TooMany ?yce_TooMany ?yco_TooMany ?yvs_TooMany ?yfi_TooMany ?yha_TooMany ?yhn_TooMany ?yht_TooMany ?yhm_TooMany ?ycl_InvalidNumber ?yve_InvalidNumber ?ysa_InvalidNumber ?yga_InvalidNumber ?ygg_InvalidNumber ?yno_InvalidNumber ?yic_InvalidNumber ?ytc_InvalidNumber ?ykc_InvalidNumber ?yex_InvalidNumber ?yvc_InvalidNumber ?yty_InvalidNumber ?yhd_InvalidNumber ?ysu_InvalidNumber ?yop_InvalidNumber ?yms_InvalidNumber ?yns_InvalidNumber ?yto_InvalidNumber ?yfn_InvalidNumber ?yci_InvalidNumber ?yce_InvalidNumber ?yco_InvalidNumber ?yvs_InvalidNumber ?yfi_InvalidNumber ?yha_InvalidNumber ?yhn_InvalidNumber ?yht_InvalidNumber ?yhm_InvalidNumber ?zt_InvalidWord ?su_InvalidWord_InvalidWord ?zb_InvalidWord ?zd_InvalidWord ?su_InvalidLibrary_InvalidWord ?zt_InvalidLibrary ?su_InvalidLibrary_InvalidLibrary ?zb_InvalidLibrary ?zd_InvalidLibrary ?su_InvalidOperation_InvalidWord ?su_InvalidOperation_InvalidLibrary ?zt_InvalidOperation ?su_InvalidOperation_InvalidOperation ?zb_InvalidOperation ?zd_InvalidOperation ?zt_Library ?su_Candidate_Library ?ic_Library ?rq_Candidate_Library
    (case e_MAX_DEPTH => k_is)
    (case e_MAX_RANK => k_is)
    (case e_MAX_LETTERS => k_is)
    (case e_KEYWORDS => k_is)
    (case e_MAX_MARKS => k_is)
    (case e_MAX_BASES => k_is)
    (case e_MAX_CONVERSIONS => k_is)
    (case e_MAX_CANDIDATES => k_is)
    (case e_MAX_PATTERNS => k_is)
    (case e_MAX_NAMES => k_is)
    (case e_MAX_LEFT => k_is)
    (case e_MAX_FRONT => k_is)
    (case e_MAX_FOUND => k_is)
    (case e_MAX_STEPS => k_is)
    (case e_InvalidWord => k_is)
    (case e_InvalidLibrary => k_is)
    (case e_InvalidOperation => k_is)
    (case e_Candidate => k_is)
    (case e_Library => k_is)
    (case e_TooMany => k_is)
    (case e_InvalidNumber => k_is)
    (case qpg_Candidate => k_is)
    (case qhd_Candidate => k_is)
    (case qpo_Candidate => k_is)
    (case qsa_Candidate => k_is)
    (case kp_Candidate => k_is)
    (case qha_Candidate => k_is)
    (case qob_Candidate => k_is)
    (case qne_Candidate => k_is)
    (case qzs_Candidate => kernel_rfl)
    (case qzt_Candidate => kernel_rfl)
    (case qzn_Candidate => kernel_rfl)
    (case qzi_Candidate => kernel_rfl)
    (case qzc_Candidate => kernel_rfl)
    (case qzl_Candidate => kernel_rfl)
    (case qzd_Candidate => kernel_rfl)
    (case qzb_Candidate => kernel_rfl)
    (case qzu_Candidate => kernel_rfl)
    (case qhn_Candidate => k_is)
    (case qht_Candidate => k_is)
    (case qn_Candidate_own_name => k_is)
    (case qn_Candidate_own_patterns => k_is)
    (case qn_Candidate_own_result => k_is)
    (case qn_Candidate_own_key => k_is)
    (case qpg_Library => k_is)
    (case qhd_Library => k_is)
    (case qpo_Library => k_is)
    (case qsa_Library => k_is)
    (case kp_Library => k_is)
    (case qha_Library => k_is)
    (case qob_Library => k_is)
    (case qne_Library => k_is)
    (case qzs_Library => kernel_rfl)
    (case qzt_Library => kernel_rfl)
    (case qzn_Library => kernel_rfl)
    (case qzi_Library => kernel_rfl)
    (case qzc_Library => kernel_rfl)
    (case qzl_Library => kernel_rfl)
    (case qzd_Library => kernel_rfl)
    (case qzb_Library => kernel_rfl)
    (case qzu_Library => kernel_rfl)
    (case qhn_Library => k_is)
    (case qht_Library => k_is)
    (case qn_Library_own_marks => k_is)
    (case qn_Library_own_bases => k_is)
    (case qn_Library_own_conversions => k_is)
    (case qn_Library_own_candidates => k_is)
    (case qn_Library_own_tables => k_is)
    (case a0 => k_is)
    (case l0 => k_is)
    (case c0 => k_is)
    (case k0 => k_is)
    (case a1 => k_is)
    (case l1 => k_is)
    (case c1 => k_is)
    (case k1 => k_is)
    (case a2 => k_is)
    (case l2 => k_is)
    (case c2 => k_is)
    (case k2 => k_is)
    (case a3 => k_is)
    (case l3 => k_is)
    (case c3 => k_is)
    (case k3 => k_is)
    (case a4 => k_is)
    (case l4 => k_is)
    (case c4 => k_is)
    (case k4 => k_is)
    (case a5 => k_is)
    (case l5 => k_is)
    (case c5 => k_is)
    (case k5 => k_is)
    (case a6 => k_is)
    (case l6 => k_is)
    (case c6 => k_is)
    (case k6 => k_is)
    (case a7 => k_is)
    (case l7 => k_is)
    (case c7 => k_is)
    (case k7 => k_is)
    (case a8 => k_is)
    (case l8 => k_is)
    (case c8 => k_is)
    (case k8 => k_is)
    (case a9 => k_is)
    (case l9 => k_is)
    (case c9 => k_is)
    (case k9 => k_is)
    (case a10 => k_is)
    (case l10 => k_is)
    (case c10 => k_is)
    (case k10 => k_is)
    (case a11 => k_is)
    (case l11 => k_is)
    (case c11 => k_is)
    (case k11 => k_is)
    (case a12 => k_is)
    (case l12 => k_is)
    (case c12 => k_is)
    (case k12 => k_is)
    (case a13 => k_is)
    (case l13 => k_is)
    (case c13 => k_is)
    (case k13 => k_is)
    (case a14 => k_is)
    (case l14 => k_is)
    (case c14 => k_is)
    (case k14 => k_is)
    (case a15 => k_is)
    (case l15 => k_is)
    (case c15 => k_is)
    (case k15 => k_is)
    (case a16 => k_is)
    (case l16 => k_is)
    (case c16 => k_is)
    (case k16 => k_is)
    (case ld16 => k_is)
    (case a17 => k_is)
    (case l17 => k_is)
    (case c17 => k_is)
    (case k17 => k_is)
    (case a18 => k_is)
    (case l18 => k_is)
    (case c18 => k_is)
    (case k18 => k_is)
    (case a19 => k_is)
    (case l19 => k_is)
    (case c19 => k_is)
    (case k19 => k_is)
    (case a20 => k_is)
    (case l20 => k_is)
    (case c20 => k_is)
    (case k20 => k_is)
    (case a21 => k_is)
    (case l21 => k_is)
    (case c21 => k_is)
    (case k21 => k_is)
    (case a22 => k_is)
    (case l22 => k_is)
    (case c22 => k_is)
    (case k22 => k_is)
    (case a23 => k_is)
    (case l23 => k_is)
    (case c23 => k_is)
    (case k23 => k_is)
    (case a24 => k_is)
    (case l24 => k_is)
    (case c24 => k_is)
    (case k24 => k_is)
    (case a25 => k_is)
    (case l25 => k_is)
    (case c25 => k_is)
    (case k25 => k_is)
    (case a26 => k_is)
    (case l26 => k_is)
    (case c26 => k_is)
    (case k26 => k_is)
    (case ek26_most => k_is)
    (case a27 => k_is)
    (case l27 => k_is)
    (case c27 => k_is)
    (case k27 => k_is)
    (case a28 => k_is)
    (case l28 => k_is)
    (case c28 => k_is)
    (case k28 => k_is)
    (case a29 => k_is)
    (case l29 => k_is)
    (case c29 => k_is)
    (case k29 => k_is)
    (case a30 => k_is)
    (case l30 => k_is)
    (case c30 => k_is)
    (case k30 => k_is)
    (case a31 => k_is)
    (case l31 => k_is)
    (case c31 => k_is)
    (case k31 => k_is)
    (case a32 => k_is)
    (case l32 => k_is)
    (case c32 => k_is)
    (case k32 => k_is)
    (case a33 => k_is)
    (case l33 => k_is)
    (case c33 => k_is)
    (case k33 => k_is)
    (case a34 => k_is)
    (case l34 => k_is)
    (case c34 => k_is)
    (case k34 => k_is)
    (case a35 => k_is)
    (case l35 => k_is)
    (case c35 => k_is)
    (case k35 => k_is)
    (case a36 => k_is)
    (case l36 => k_is)
    (case c36 => k_is)
    (case k36 => k_is)
    (case a37 => k_is)
    (case l37 => k_is)
    (case c37 => k_is)
    (case k37 => k_is)
    (case a38 => k_is)
    (case l38 => k_is)
    (case c38 => k_is)
    (case k38 => k_is)
    (case a39 => k_is)
    (case l39 => k_is)
    (case c39 => k_is)
    (case k39 => k_is)
    (case a40 => k_is)
    (case l40 => k_is)
    (case c40 => k_is)
    (case k40 => k_is)
    (case a41 => k_is)
    (case l41 => k_is)
    (case c41 => k_is)
    (case k41 => k_is)
    (case a42 => k_is)
    (case l42 => k_is)
    (case c42 => k_is)
    (case k42 => k_is)
    (case a43 => k_is)
    (case l43 => k_is)
    (case c43 => k_is)
    (case k43 => k_is)
    (case a44 => k_is)
    (case rf44 => k_is)
    (case rm44 => k_is)
    (case l44 => k_is)
    (case c44 => k_is)
    (case k44 => k_is)
    (case a45 => k_is)
    (case rf45 => k_is)
    (case rm45 => k_is)
    (case l45 => k_is)
    (case c45 => k_is)
    (case k45 => k_is)
    (case ek45_conversions => k_is)
    (case el45_conversions => k_is)
    (case ek45_candidates => k_is)
    (case el45_candidates => k_is)
    (case a46 => k_is)
    (case ra46 => k_is)
    (case rb46 => k_is)
    (case rd46 => k_is)
    (case l46 => k_is)
    (case c46 => k_is)
    (case k46 => k_is)
    (case w_KEYWORDS => k_is)
    (case z_abs => k_is)
    (case z_all => k_is)
    (case z_any => k_is)
    (case z_bool => k_is)
    (case z_enumerate => k_is)
    (case z_int => k_is)
    (case z_isinstance => k_is)
    (case z_len => k_is)
    (case z_list => k_is)
    (case z_max => k_is)
    (case z_min => k_is)
    (case z_one => k_is)
    (case z_property => k_is)
    (case z_range => k_is)
    (case z_set => k_is)
    (case z_sorted => k_is)
    (case z_str => k_is)
    (case z_tuple => k_is)
    (case z_zip => k_is)
    (case cd45_ => rfl)
    (case lc45 => k_is)
    (case pv45 => rfl)
    (case np45 => first | k_is | rfl)
    (case hc45 => first | k_is | kernel_rfl)
    (case ht45 => exact PySem.W.km_tabs_of Y _ (by first | k_mem | decide))
    (case ex_InvalidWord => k_exc)
    (case kp_InvalidWord => k_is)
    (case sb_InvalidWord => k_is)
    (case ty_InvalidWord => k_is)
    (case hg_InvalidWord => k_is)
    (case hk_InvalidWord => k_is)
    (case hd_InvalidWord => k_is)
    (case ha_InvalidWord => k_is)
    (case hn_InvalidWord => k_is)
    (case ht_InvalidWord => k_is)
    (case hm_InvalidWord => k_is)
    (case ex_InvalidLibrary => k_exc)
    (case kp_InvalidLibrary => k_is)
    (case sb_InvalidLibrary => k_is)
    (case ty_InvalidLibrary => k_is)
    (case hg_InvalidLibrary => k_is)
    (case hk_InvalidLibrary => k_is)
    (case hd_InvalidLibrary => k_is)
    (case ha_InvalidLibrary => k_is)
    (case hn_InvalidLibrary => k_is)
    (case ht_InvalidLibrary => k_is)
    (case hm_InvalidLibrary => k_is)
    (case ex_InvalidOperation => k_exc)
    (case kp_InvalidOperation => k_is)
    (case sb_InvalidOperation => k_is)
    (case ty_InvalidOperation => k_is)
    (case hg_InvalidOperation => k_is)
    (case hk_InvalidOperation => k_is)
    (case hd_InvalidOperation => k_is)
    (case ha_InvalidOperation => k_is)
    (case hn_InvalidOperation => k_is)
    (case ht_InvalidOperation => k_is)
    (case hm_InvalidOperation => k_is)
    (case ycl_TooMany => k_is)
    (case yve_TooMany => decide +kernel)
    (case ysa_TooMany => k_is)
    (case yga_TooMany => k_is)
    (case ygg_TooMany => k_is)
    (case yno_TooMany => k_is)
    (case yic_TooMany => k_is)
    (case ytc_TooMany => k_is)
    (case ykc_TooMany => k_is)
    (case yex_TooMany => k_is)
    (case yvc_TooMany => k_is)
    (case yty_TooMany => k_is)
    (case yhd_TooMany => k_is)
    (case ysu_TooMany => ks_is)
    (case yop_TooMany => k_is)
    (case yms_TooMany => k_is)
    (case yns_TooMany => k_is)
    (case yto_TooMany => decide +kernel)
    (case yfn_TooMany => k_is)
    (case yci_TooMany => k_is)
    (case yce_TooMany => k_is)
    (case yco_TooMany => k_is)
    (case yvs_TooMany => rfl)
    (case yfi_TooMany => rfl)
    (case yha_TooMany => k_is)
    (case yhn_TooMany => k_is)
    (case yht_TooMany => k_is)
    (case yhm_TooMany => k_is)
    (case ycl_InvalidNumber => k_is)
    (case yve_InvalidNumber => decide +kernel)
    (case ysa_InvalidNumber => k_is)
    (case yga_InvalidNumber => k_is)
    (case ygg_InvalidNumber => k_is)
    (case yno_InvalidNumber => k_is)
    (case yic_InvalidNumber => k_is)
    (case ytc_InvalidNumber => k_is)
    (case ykc_InvalidNumber => k_is)
    (case yex_InvalidNumber => k_is)
    (case yvc_InvalidNumber => k_is)
    (case yty_InvalidNumber => k_is)
    (case yhd_InvalidNumber => k_is)
    (case ysu_InvalidNumber => ks_is)
    (case yop_InvalidNumber => k_is)
    (case yms_InvalidNumber => k_is)
    (case yns_InvalidNumber => k_is)
    (case yto_InvalidNumber => decide +kernel)
    (case yfn_InvalidNumber => k_is)
    (case yci_InvalidNumber => k_is)
    (case yce_InvalidNumber => k_is)
    (case yco_InvalidNumber => k_is)
    (case yvs_InvalidNumber => rfl)
    (case yfi_InvalidNumber => rfl)
    (case yha_InvalidNumber => k_is)
    (case yhn_InvalidNumber => k_is)
    (case yht_InvalidNumber => k_is)
    (case yhm_InvalidNumber => k_is)
    (case zt_InvalidWord => k_is)
    (case su_InvalidWord_InvalidWord => k_is)
    (case zb_InvalidWord => k_is)
    (case zd_InvalidWord => k_is)
    (case su_InvalidLibrary_InvalidWord => k_is)
    (case zt_InvalidLibrary => k_is)
    (case su_InvalidLibrary_InvalidLibrary => k_is)
    (case zb_InvalidLibrary => k_is)
    (case zd_InvalidLibrary => k_is)
    (case su_InvalidOperation_InvalidWord => k_is)
    (case su_InvalidOperation_InvalidLibrary => k_is)
    (case zt_InvalidOperation => k_is)
    (case su_InvalidOperation_InvalidOperation => k_is)
    (case zb_InvalidOperation => k_is)
    (case zd_InvalidOperation => k_is)
    (case zt_Library => k_is)
    (case su_Candidate_Library => k_is)
    (case ic_Library => k_is)
    (case rq_Candidate_Library => rfl)

