import PyProof.Rows.All
import Wide.All
import OpenK.AllK
import Wide.FinOn
import HandS.ForMost
import HandS.IsInst
import HandS.TupMul
import HandS.TupAny
import HandS.Wide
import PyProof.ReprRoads
import HandS.Evl
import HandS.Walk
import PyProof.ReprLen
import HandS.Lambda
import HandS.EndTab
import HandS.ExcIs
import HandS.ExcOwn
import HandS.WordsExc
import PyProof.StrBlock2
import KE.KExcSuper
import HandS.ExcField
import HandS.TryMany
import HandS.Style
import HandS.More
import PyProof.ExcBaseAll.IndexError
import PyProof.ExcBaseAll.OverflowError
import PyProof.ExcBaseAll.ArithmeticError
import PyProof.ExcBaseAll.RuntimeError
import PyProof.ExcBaseAll.LookupError
import KE.KExcInit
import PyProof.RowDictHeap
import HandS.ExcValue
import HandS.HotCalls
import HandS.DeepEq
import KE.KUnpackStar
import HandS.Star
import HandS.ClsMeth
import HandS.Property
import KE.KCallOwn
import PyProof.RulesMatchSeq
import PyProof.Rows.MatchSeqLen
import HandS.SlotsOwn
import PyProof.InstEq
import KE.KeyNested
import HandS.TupSets
import HandS.SetBool
import KE.SortKeyHeap
import HandS.DictTup
import HandS.Sort
import HandS.Zip
import KE.KDictKeyed
import HandS.Strs
import HandS.SetFor
import KE.SortData
import PyProof.EqKinds
import KE.KNestM
import KE.GoesMore
import PyProof.EnumMake
import PyProof.Draws
import HandS.Iter
import HandS.Defaults
import HandS.MakeKwOnly
import HandS.FStr
import HandS.RaiseMore
import HandS.ListItems
import PySem.Challenge.RW_laterivals_k84_errors_of_texts
set_option Elab.async false
set_option linter.all false
set_option maxRecDepth 100000
set_option maxHeartbeats 2000000
/-! calls where no repr is under way: a def's promise that may lean on it -/
namespace Lv
open PySem PySem.Spec PyProof.Rows L2

/-- as FnOk, for arounds in which no guarded call runs -/
structure FnG (P : Program) (w : World) (K : PySem.W.Frag) (mg : Str → Option Value) (base : Heap)
    (CX : CXT) (k : Nat) (f : Addr) (fd : FuncData) (ps : List Str) (sp : Sp) : Prop where
  len : ∀ vs H Q E, sp vs H Q E → vs.length = ps.length
  run : ∀ (A : Around), A.guards = some [] → ∀ (outer : List Env) (s : Shared) (H : Hp) (args : Args)
    (us : List Value) (vs : List V) (Q : VK) (E : XK), Room k A → Env0 P w K mg base A outer s H →
    BindsTo s fd args (ps.zip us) → Vals vs us → sp vs H Q E →
    codeAny (model P w) A (.call (.ref f) args) (CR CX outer P w H s Q E) s

theorem FnG.of {P : Program} {w : World} {K : PySem.W.Frag} {mg : Str → Option Value} {base : Heap}
    {CX : CXT} {k : Nat} {f : Addr} {fd : FuncData} {ps : List Str} {sp : Sp}
    (F : FnOk P w K mg base CX k f fd ps sp) : FnG P w K mg base CX k f fd ps sp :=
  ⟨F.len, fun A _ outer s H args us vs Q E hr he hb hv h => F.run A outer s H args us vs Q E hr he hb hv h⟩

section
variable {X : Cx} {CX : CXT} {k : Nat} {f : Addr} {fd : FuncData} {ps : List Str} {sp : Sp}
  {dvs : List V} {ds : List Value} {E : XK} {x : Str} {p pos : Pos} {e : Expr} {es : List Expr} {t : TA}

theorem pe_callG (F : FnG X.prog X.w X.K X.mg X.base CX k f fd ps sp) (hgd : X.A.guards = some [])
    (hr : Room k X.A) (hg : Gl X x) (hm : X.mg x = some (.ref f))
    (hk : PySem.W.keepIn X.K (.ref f) = true) (hb : Binds X.K fd ps ds) (hd : Vals dvs ds)
    (hx : Passes CX X E) (ha : PA X (e :: es) t) (hdb : (x == ("__debug__" : Str)) = false := by decide)
    (he : starEach (e :: es) X.env = (false, eval e X.env) :: starEach es X.env := by rfl)
    (hpl : (backTo pos (starEach es X.env)).any (·.1) = false := by rfl) :
    PE X (.Call (.Name x p) (e :: es) [] pos) (tCall sp dvs E t) := by
  constructor
  intro pins s σ H Q I h
  refine wpAny_Call_Name_kw (ld_glob I hg hm ?_ hdb)
  refine PySem.W.callWith_K (h₀ := X.base) I.ok.mod.kin hk (thn (ha.run pos pins s σ H _ I h) ?_) he hpl
  rintro us s1 ⟨vs, H1, I1, r, q⟩
  refine ⟨I1.kIn, ?_⟩
  have r2 : Vals (vs ++ dvs) (us ++ ds) := r.append hd
  have hl : (us ++ ds).length = ps.length := by
    rw [← r2.length]
    exact F.len _ _ _ _ q
  have run := F.run X.A hgd X.stack s1 H1 ⟨us, []⟩ (us ++ ds) (vs ++ dvs) Q E hr I1.env0 (hb s1 us I1.kIn hl) r2 q
  refine wpAny_call (codeAny_mono run ?_)
  rintro (er | (_ | _ | _ | u)) s' hq
  all_goals first
    | exact hx pins σ H1 s1 _ s' I1 hq
    | exact I1.after hq
    | exact False.elim hq
end

section
variable {P : Program} {w : World} {K : PySem.W.Frag} {mg : Str → Option Value} {base : Heap}
/-- a def by its body, where no guarded call runs -/
theorem okG {x qual : Str} {st : Stmt} {f : Addr} {fd : FuncData} {N ps : List Str} {k : Nat} {sp : Sp}
    (F : Fun K x qual st f fd) (S : FnScope N ps (defScope st))
    (len : ∀ vs H Q E, sp vs H Q E → vs.length = ps.length)
    (hbody : ∀ (cdv : Value) (A : Around) (outer : List Env) (s : Shared) (H : Hp) (vs : List V) (Q : VK) (E : XK),
      (A.deeper (envOfC qual (defScope st) s.heap.objs.size f cdv)).guards = some [] →
      Room k (A.deeper (envOfC qual (defScope st) s.heap.objs.size f cdv)) → sp vs H Q E →
      ∃ t, PSs (cxOf CX0 P w K mg base N qual (defScope st) f cdv A outer s H E).nox (defBody st) t ∧
        t { nx := fun _ H' => Q .non H', rt := Q } (start N vs) H) :
    FnG P w K mg base CX0 (k + 1) f fd ps sp := by
  obtain ⟨oc, od, kV, doc, pm, an, cdv, ct, osl, rfl, lk, hcd⟩ := F.ex
  refine ⟨len, fun A hgd outer s H args us vs Q E hr e0 hb hv hsp => ?_⟩
  have kept := fun b o (z : base.get? b = some o) => (e0.bs b o z).1
  have hK : K.In s.heap := e0.mod.kin.keeps kept
  have hL : s.heap.NoLimit := e0.mod.nolimit.keeps kept
  refine codeAny_call_function hr.depth (hK _ _ lk) rfl S.co S.gen rfl (PySem.W.codeRec_of hK hcd)
    (hb _ _ _ _ ?_)
  have kinds : ∀ y ∈ ps.zip us, (defScope st).names.lookup y.1 = some .local ∨
      ((defScope st).names.lookup y.1 = some .cell ∧
        ((cellsFrom (s.heap.objs.size + 1) (defScope st).names []).lookup y.1).isSome = true) := by
    rintro ⟨n, v⟩ hy
    rcases S.par n (List.of_mem_zip hy).1 with z | z
    · exact .inl z
    · exact .inr ⟨z, PySem.W.cellsFrom_some _ _ _ (.inl z)⟩
  refine wpAny_newFunctionEnv_cells S.kind kinds ?_
  rintro env rfl s1 x
  refine ⟨hL.keeps x.toInCall.keep, codeAny_func ?_⟩
  obtain ⟨t, ht, hq⟩ := hbody cdv A outer s H vs Q E hgd (hr.deeper _) hsp
  have I := inv_start (CX := CX0) (E := E) S hr.hd e0 (len _ _ _ _ hsp) hv x
  refine wpAny_mono (ht.nox.run [] s1 (start N vs) H _ I hq) ?_ (fun e s' z => z)
  rintro (_ | _ | _ | u) s' hs
  · obtain ⟨σ', H', J, q⟩ := hs
    exact ⟨V.non, H', J.os, J.bare, J.base, J.hok, (rfl : RelV V.non Value.none), q⟩
  · obtain ⟨_, _, _, q⟩ := hs
    exact False.elim q
  · obtain ⟨_, _, _, q⟩ := hs
    exact False.elim q
  · obtain ⟨v, σ', H', J, rv, q⟩ := hs
    exact ⟨v, H', J.os, J.bare, J.base, J.hok, rv, q⟩
end
section
variable {X : Cx}
end
end Lv

/-! further rules and what is said of heaps -/
namespace Lv
open PySem PySem.Spec PyProof.Rows L2
section
variable {X : Cx}
/-- powers of great numbers -/
def CPowW (i j : Int) : Prop := 0 ≤ j ∧ (Builtin.Int.intBits i : Int) * j ≤ 2 ^ 27
theorem op_powW : OpR X (binaryOp .Pow) (rI CPowW fun i j => .int (i ^ j.toNat)) :=
  opI fun _ _ _ _ _ _ _ hc q => pow_int hc.1 hc.2 q
theorem bits_le {i : Int} {n : Nat} (h : i.natAbs < 2 ^ n) (h0 : 0 < n) : (Builtin.Int.intBits i : Int) ≤ n := by
  have := PySem.Flt.log2_lt_of h0 h
  unfold Builtin.Int.intBits
  split <;> omega
/-- the signs of a text as texts -/
def sgs (z : Str) : List V := z.cps.toList.map fun c => V.str ⟨#[c]⟩
end
section
variable {X : Cx}
theorem call_intI : CallR X (.type "int") (fun xs H Q => ∃ i, xs = [.int i] ∧ Q (.int i) H) :=
  fun pins s σ H xs us Q I r h => call_int1 pins s σ H xs us Q I r (.inl h)
theorem call_intB : CallR X (.type "int") (fun xs H Q => ∃ k, xs = [.bl k] ∧ Q (.int (if k then 1 else 0)) H) :=
  fun pins s σ H xs us Q I r h => call_int1 pins s σ H xs us Q I r (.inr h)
end
section
variable {X : Cx}
/-- tuple(list) -/
def rTupL (K : PySem.W.Frag) : List V → Hp → VK → Prop := fun xs H Q => ∃ p ys, xs = [.ref p] ∧ SqL K H p ys ∧ ∀ l, H l = none → Q (.ref l) (upd H l (.tup ys))
theorem call_tupL : CallR X (.type "tuple") (rTupL X.K) := fun pins s σ H xs us Q I r h => by
  obtain ⟨p, ys, e, h1, h2⟩ := h
  exact call_tuple_of pins s σ H xs us Q I r ⟨p, ys, e, .inl ⟨h1, h2⟩⟩
/-- len of a list or a tuple -/
def rLenQ (K : PySem.W.Frag) : List V → Hp → VK → Prop := fun xs H Q => ∃ p ys, xs = [.ref p] ∧ (SqL K H p ys ∨ SqT K H p ys) ∧ Q (.int ys.length) H
theorem call_lenQ : CallR X (.builtin "len") (rLenQ X.K) := call_len_seq
/-- sep.join(list) -/
def rJoin (K : PySem.W.Frag) : V → List V → Hp → VK → Prop := fun x xs H Q => ∃ a p, ∃ ys : List Str, x = .str a ∧ xs = [.ref p] ∧ (SqL K H p (ys.map V.str) ∨ SqT K H p (ys.map V.str)) ∧
  (ys.map (·.length)).sum + ys.length * a.length ≤ 16777216 ∧ Q (.str (Txt.join a ys)) H
theorem pe_joinN {o e : Expr} {to te : TE} {apos pos : Pos} (ho : PE X o to) (he : PE X e te) (hs : starEach [e] X.env = [(false, eval e X.env)] := by rfl)
    (hbase : attributeBase o "join" X.env (eval o X.env) = eval o X.env := by rfl) (hline : (apos.endLine == pos.line) = true := by rfl) :
    PE X (.Call (.Attribute o "join" apos) [e] [] pos) (tM1 (rJoin X.K) to te) := pe_join ho he hs hbase hline
/-- dict(list of pairs) -/
def rDictPs (K : PySem.W.Frag) : List V → Hp → VK → Prop := fun xs H Q => ∃ (a : Addr) (ps : List Addr) (kvs : List (Key × V)), xs = [.ref a] ∧ SqL K H a (ps.map V.ref) ∧
  Paired (fun p kv => SqT K H p [kV kv.1, kv.2]) ps kvs ∧ ∀ p, H p = none → Q (.ref p) (upd H p (.dK (mergeK [] kvs)))
theorem call_dictPs (hc : X.calm = true) : CallR X (.type "dict") (rDictPs X.K) := call_dictP hc
end
theorem tupL {K : PySem.W.Frag} {H : Hp} {a : Addr} {xs : List V} {Q : VK} (h : SqL K H a xs) (q : ∀ p, H p = none → Q (.ref p) (upd H p (.tup xs))) : rTupL K [.ref a] H Q := ⟨a, xs, rfl, h, q⟩
theorem lenL {K : PySem.W.Frag} {H : Hp} {a : Addr} {xs : List V} {Q : VK} (h : SqL K H a xs) (q : Q (.int xs.length) H) : rLenQ K [.ref a] H Q := ⟨a, xs, rfl, .inl h, q⟩
theorem lenT {K : PySem.W.Frag} {H : Hp} {a : Addr} {xs : List V} {Q : VK} (h : SqT K H a xs) (q : Q (.int xs.length) H) : rLenQ K [.ref a] H Q := ⟨a, xs, rfl, .inr h, q⟩
theorem tyl {K : PySem.W.Frag} {H : Hp} {a : Addr} {xs : List V} (h : SqL K H a xs) : tyV K "list" (.ref a) H := .inl ⟨rfl, xs, h⟩
theorem sql_of {K : PySem.W.Frag} {H : Hp} {a : Addr} {xs : List V} (h : H a = some (.lst xs)) : SqL K H a xs := .inl (.inl h)
theorem sqt_of {K : PySem.W.Frag} {H : Hp} {a : Addr} {xs : List V} (h : H a = some (.tup xs)) : SqT K H a xs := .inl (.inl h)
theorem sz100 {n : Nat} (h : n ≤ 100000) : n ≤ sizeLine := Nat.le_trans h (by decide)
theorem sz100' {n : Nat} (h : n < 100000) : n < sizeLine := Nat.lt_of_lt_of_le h (by decide)
theorem ixl {K : PySem.W.Frag} {H : Hp} {a : Addr} {xs : List V} {i : Int} {v : V} {Q : VK} (h : SqL K H a xs) (e : atI xs i = some v) (q : Q v H) :
    rIxL K (.ref a) (.int i) H Q := ⟨a, xs, i, v, rfl, rfl, h, e, q⟩
theorem setl {H : Hp} {a : Addr} {xs : List V} {i : Int} {j : Nat} {v : V} {Q : Hp → Prop} (h : H a = some (.lst xs)) (e : ixN xs.length i = some j)
    (q : Q (upd H a (.lst (xs.set j v)))) : rSetL (.ref a) (.int i) v H Q := ⟨a, xs, i, j, rfl, rfl, h, e, q⟩
theorem ixl_nat {K : PySem.W.Frag} {H : Hp} {a : Addr} {xs : List V} {j : Nat} {v : V} {Q : VK} (h : SqL K H a xs) (e : xs[j]? = some v) (q : Q v H) :
    rIxL K (.ref a) (.int j) H Q := ⟨a, xs, j, v, rfl, rfl, h, atI_nat e, q⟩
/-- of which built-in kind a value is; objects are tracked ones -/
inductive Kn (H : Hp) : V → String → Prop where
  | non : Kn H .non "NoneType"
  | bl (b : Bool) : Kn H (.bl b) "bool"
  | int (i : Int) : Kn H (.int i) "int"
  | str (z : Str) : Kn H (.str z) "str"
  | lst {a : Addr} {xs : List V} (h : H a = some (.lst xs)) : Kn H (.ref a) "list"
  | tup {a : Addr} {xs : List V} (h : H a = some (.tup xs)) : Kn H (.ref a) "tuple"
  | dK {a : Addr} {kvs : List (Key × V)} (h : H a = some (.dK kvs)) : Kn H (.ref a) "dict"
theorem Kn.ty {K : PySem.W.Frag} {H : Hp} {v : V} {t : String} (k : Kn H v t) : TyX K H v (.type t) := by
  cases k with
  | non => exact .base .non
  | bl b => exact .base (.bl b)
  | int i => exact .base (.int i)
  | str z => exact .base (.str z)
  | lst h => exact .base (.lst h)
  | tup h => exact .base (.tup h)
  | dK h => exact .base (.dK h)
theorem Kn.same {H H' : Hp} {v : V} {t : String} (e : Same H H') (k : Kn H v t) : Kn H' v t := by
  cases k with
  | non => exact .non
  | bl b => exact .bl b
  | int i => exact .int i
  | str z => exact .str z
  | lst h => exact .lst (e _ _ h)
  | tup h => exact .tup (e _ _ h)
  | dK h => exact .dK (e _ _ h)
/-- isinstance of such a value -/
theorem isi_kn {K : PySem.W.Frag} {H : Hp} {v : V} {t n : String} {b : Bool} {Q : VK} (k : Kn H v t)
    (hb : kitB t n = some b) (q : Q (.bl b) H) : rIsi K [v, .ty n] H Q :=
  ⟨v, .ty n, .type t, .type n, b, rfl, .ty n, k.ty, kit_ty hb, q⟩
theorem Kn.mem {H : Hp} {v : V} {t : String} (k : Kn H v t) : t ∈ ["NoneType", "bool", "int", "str", "list", "tuple", "dict"] := by
  cases k <;> decide
theorem same_new {H : Hp} {p : Addr} {o : HO} (h : H p = none) : Same H (upd H p o) := fun b x e => by
  rw [upd_ne (ne_of_none e h)]
  exact e
theorem same_mut {H H' : Hp} {p : Addr} {o : HO} (e : Same H H') (h : H p = none) : Same H (upd H' p o) := fun b x q => by
  rw [upd_ne (ne_of_none q h)]
  exact e _ _ q
/-! ### dice -/
/-- a list of three ints -/
def Dc (H : Hp) (d : Addr) : Prop := ∃ x y z : Int, H d = some (.lst [.int x, .int y, .int z])
/-- all but the dice is kept, and the dice are dice -/
structure Gr (d : Addr) (H H' : Hp) : Prop where
  pre : Dc H d
  keep : ∀ a o, a ≠ d → H a = some o → H' a = some o
  dice : Dc H' d
theorem Gr.refl {d : Addr} {H : Hp} (h : Dc H d) : Gr d H H := ⟨h, fun _ _ _ h => h, h⟩
theorem Gr.trans {d : Addr} {H H1 H2 : Hp} (a : Gr d H H1) (b : Gr d H1 H2) : Gr d H H2 :=
  ⟨a.pre, fun x o n h => b.keep x o n (a.keep x o n h), b.dice⟩
theorem Gr.roll {d : Addr} {H : Hp} {x y z : Int} (h : Dc H d) : Gr d H (upd H d (.lst [.int x, .int y, .int z])) :=
  ⟨h, fun a o n h => by rw [upd_ne n]; exact h, x, y, z, upd_same⟩
theorem Dc.same {d : Addr} {H H' : Hp} (h : Dc H d) (e : Same H H') : Dc H' d :=
  let ⟨x, y, z, q⟩ := h
  ⟨x, y, z, e _ _ q⟩
theorem Gr.same {d : Addr} {H H' : Hp} (h : Dc H d) (e : Same H H') : Gr d H H' := ⟨h, fun a o _ q => e a o q, h.same e⟩
theorem Dc.ne {d p : Addr} {H : Hp} (h : Dc H d) (n : H p = none) : p ≠ d := fun e => by
  obtain ⟨x, y, z, q⟩ := h
  rw [e, q] at n
  cases n
theorem Dc.ne_tup {d p : Addr} {H : Hp} {xs : List V} (h : Dc H d) (n : H p = some (.tup xs)) : p ≠ d := fun e => by
  obtain ⟨x, y, z, q⟩ := h
  rw [e, q] at n
  cases n
/-- what was free and is not the dice came later -/
theorem Gr.back {d p : Addr} {H H' : Hp} (g : Gr d H H') (h : H' p = none) : H p = none := by
  have ne := g.dice.ne h
  cases q : H p with
  | none => rfl
  | some o =>
    rw [g.keep p o ne q] at h
    cases h
/-- a thing that was not there before changes -/
theorem Gr.mut {d p : Addr} {H H' : Hp} {o : HO} (g : Gr d H H') (h : H p = none) (ne : p ≠ d) : Gr d H (upd H' p o) := by
  refine ⟨g.pre, fun a u n q => ?_, ?_⟩
  · rw [upd_ne (ne_of_none q h)]
    exact g.keep a u n q
  · obtain ⟨x, y, z, q⟩ := g.dice
    exact ⟨x, y, z, by rw [upd_ne ne.symm]; exact q⟩
theorem Gr.new {d p : Addr} {H : Hp} {o : HO} (h : Dc H d) (n : H p = none) : Gr d H (upd H p o) := Gr.same h (same_new n)
theorem Gr.rd {d p : Addr} {H H' : Hp} {u : HO} (g : Gr d H H') (ne : p ≠ d) (h : Rd H p u) : Rd H' p u := by
  rcases h with h | ⟨o, h⟩
  · exact .inl (g.keep _ _ ne h)
  · exact .inr ⟨o, g.keep _ _ ne h⟩
theorem Gr.sql {K : PySem.W.Frag} {d p : Addr} {H H' : Hp} {xs : List V} (g : Gr d H H') (ne : p ≠ d) (h : SqL K H p xs) : SqL K H' p xs := by
  rcases h with h | h
  · exact .inl (g.rd ne h)
  · exact .inr h
theorem Gr.sqt {K : PySem.W.Frag} {d p : Addr} {H H' : Hp} {xs : List V} (g : Gr d H H') (ne : p ≠ d) (h : SqT K H p xs) : SqT K H' p xs := by
  rcases h with h | h
  · exact .inl (g.rd ne h)
  · exact .inr h
theorem Kn.gr {d : Addr} {H H' : Hp} {v : V} {t : String} (g : Gr d H H') (k : Kn H v t) : Kn H' v t := by
  obtain ⟨x, y, z, hd⟩ := g.dice
  obtain ⟨x', y', z', h0⟩ := g.pre
  cases k with
  | non => exact .non
  | bl b => exact .bl b
  | int i => exact .int i
  | str z => exact .str z
  | @lst a xs h =>
    by_cases e : a = d
    · rw [e]
      exact .lst hd
    · exact .lst (g.keep _ _ e h)
  | @tup a xs h =>
    by_cases e : a = d
    · rw [e, h0] at h
      cases h
    · exact .tup (g.keep _ _ e h)
  | @dK a kvs h =>
    by_cases e : a = d
    · rw [e, h0] at h
      cases h
    · exact .dK (g.keep _ _ e h)
end Lv

/-! comprehensions whose elements leave all as it was, and such that roll dice -/
namespace Lv
open PySem PySem.Spec PyProof.Rows L2
section
variable {J : It} {n : Nat} {G : Hp → Prop} {Y : Nat → Hp → V → Hp → Prop} {g : TG} {tt : TT} {te : TE}
  {vs : List Nat} {σ : L2.St} {H1 : Hp} {Q : VK}
/-- the body of a comprehension's reading, behind what it walks -/
def LcB (J : It) (g : TG) (tt : TT) (te : TE) (vs : List Nat) (σ : L2.St) (Q : VK) (H1 : Hp) : Prop :=
  ∀ D, H1 D = none → ∃ W : Nat → Nat → Hp → Prop, (∃ m, W 0 m (upd H1 D (.lst []))) ∧ ∀ i m H, W i m H →
    (J.stop i H ∧ Q (.ref D) H) ∨ (J.go i H ∧ ∃ Nx : Hp → Prop, (∀ H', Nx H' → ∃ m', m' < m ∧ W (i + 1) m' H') ∧
      ∀ x H', J.yld i H x H' → g x (wipe σ vs) H' fun σ2 H2 => wipe σ2 vs = wipe σ vs ∧ tt σ2 H2 fun b H3 =>
        if b = true then te σ2 H3 fun y H4 => ∃ acc, H4 D = some (.lst acc) ∧ acc.length < sizeLine ∧
          Nx (upd H4 D (.lst (acc ++ [y]))) else Nx H3)
theorem tLc_eq {wi : TI} {H : Hp} : tLc wi g tt te vs σ H Q = wi σ H fun J H1 => LcB J g tt te vs σ Q H1 := rfl
/-- each element is f i, and all stays as it was -/
theorem lc_same (w : Walk J n G Y) (f : Nat → V) (hn : n ≤ sizeLine) (hG : ∀ H, Same H1 H → G H)
    (hs : ∀ i x H H', i < n → Same H1 H → Y i H x H' → ∀ R : VK, (∀ H4, Same H H4 → R (f i) H4) →
      g x (wipe σ vs) H' fun σ2 H2 => wipe σ2 vs = wipe σ vs ∧ tt σ2 H2 fun b H3 => b = true ∧ te σ2 H3 R)
    (mono : ∀ (x : V) (σ' : L2.St) (H' : Hp) (A B : L2.St → Hp → Prop), (∀ s h, A s h → B s h) → g x σ' H' A → g x σ' H' B)
    (monoT : ∀ (σ' : L2.St) (H' : Hp) (A B : Bool → Hp → Prop), (∀ b h, A b h → B b h) → tt σ' H' A → tt σ' H' B)
    (hd : ∀ H D, Same H1 H → H1 D = none → H D = some (.lst ((List.range n).map f)) → Q (.ref D) H) :
    LcB J g tt te vs σ Q H1 := by
  intro D hD
  refine lc_it w (fun i H => Same H1 H ∧ H D = some (.lst ((List.range i).map f))) ⟨same_new hD, upd_same⟩
    (fun i H _ h => hG H h.1) ?_ (fun H h => hd H D h.1 hD h.2)
  rintro i x H H' hi ⟨hS, hL⟩ hy
  have := hs i x H H' hi hS hy
    (fun y H4 => ∃ acc, H4 D = some (.lst acc) ∧ acc.length < sizeLine ∧
      (Same H1 (upd H4 D (.lst (acc ++ [y]))) ∧ upd H4 D (.lst (acc ++ [y])) D = some (.lst ((List.range (i + 1)).map f))))
    (fun H4 h4 => ⟨_, h4 _ _ hL, by rw [List.length_map, List.length_range]; omega, same_mut (hS.trans h4) hD, by
      rw [upd_same, List.range_succ, List.map_append]
      rfl⟩)
  refine mono _ _ _ _ _ ?_ this
  rintro s h ⟨e, h2⟩
  refine ⟨e, monoT _ _ _ _ ?_ h2⟩
  rintro b h3 ⟨rfl, h4⟩
  rw [if_pos rfl]
  exact h4
/-- elements that are drawn: each has P -/
theorem lc_gr {d : Addr} (w : Walk J n G Y) (P : Nat → V → Prop) (hn : n ≤ sizeLine) (h0 : Dc H1 d) (hG : ∀ H, Gr d H1 H → G H)
    (hs : ∀ i x H H', i < n → Gr d H1 H → Y i H x H' → ∀ R : VK, (∀ y H4, P i y → Gr d H H4 → R y H4) →
      g x (wipe σ vs) H' fun σ2 H2 => wipe σ2 vs = wipe σ vs ∧ tt σ2 H2 fun b H3 => b = true ∧ te σ2 H3 R)
    (mono : ∀ (x : V) (σ' : L2.St) (H' : Hp) (A B : L2.St → Hp → Prop), (∀ s h, A s h → B s h) → g x σ' H' A → g x σ' H' B)
    (monoT : ∀ (σ' : L2.St) (H' : Hp) (A B : Bool → Hp → Prop), (∀ b h, A b h → B b h) → tt σ' H' A → tt σ' H' B)
    (hd : ∀ H D ys, Gr d H1 H → H1 D = none → D ≠ d → ys.length = n → (∀ i y, ys[i]? = some y → P i y) →
      H D = some (.lst ys) → Q (.ref D) H) :
    LcB J g tt te vs σ Q H1 := by
  intro D hD
  have ne := h0.ne hD
  refine lc_it w (fun i H => Gr d H1 H ∧ ∃ ys : List V, ys.length = i ∧ (∀ j y, ys[j]? = some y → P j y) ∧ H D = some (.lst ys))
    ⟨Gr.new h0 hD, [], rfl, (fun j y e => by simp at e), upd_same⟩ (fun i H _ h => hG H h.1) ?_
    (fun H h => ?_)
  · rintro i x H H' hi ⟨hS, ys, hl, hp, hL⟩ hy
    have := hs i x H H' hi hS hy
      (fun y H4 => ∃ acc, H4 D = some (.lst acc) ∧ acc.length < sizeLine ∧ (Gr d H1 (upd H4 D (.lst (acc ++ [y]))) ∧
        ∃ zs : List V, zs.length = i + 1 ∧ (∀ j z, zs[j]? = some z → P j z) ∧ upd H4 D (.lst (acc ++ [y])) D = some (.lst zs)))
      (fun y H4 hy h4 => ⟨ys, h4.keep _ _ ne hL, by omega, (hS.trans h4).mut hD ne, ys ++ [y], by
        rw [List.length_append, hl]
        rfl, fun j z hz => ?_, upd_same⟩)
    · refine mono _ _ _ _ _ ?_ this
      rintro s h ⟨e, h2⟩
      refine ⟨e, monoT _ _ _ _ ?_ h2⟩
      rintro b h3 ⟨rfl, h4⟩
      rw [if_pos rfl]
      exact h4
    · by_cases hj : j < ys.length
      · rw [List.getElem?_append_left hj] at hz
        exact hp j z hz
      · rw [List.getElem?_append_right (by omega)] at hz
        have e : j = i := by
          cases hq : j - ys.length with
          | zero => omega
          | succ m =>
            rw [hq] at hz
            exact nomatch hz
        subst e
        rw [hl, Nat.sub_self] at hz
        cases hz
        exact hy
  · obtain ⟨hS, ys, hl, hp, hL⟩ := h
    exact hd H D ys hS hD ne hl hp hL
end
section
variable {J : It} {n : Nat} {G : Hp → Prop} {Y : Nat → Hp → V → Hp → Prop} {g : TG} {tb : TS} {D : Ends} {σ : L2.St} {H : Hp}
/-- the body of a for's reading, behind what it walks -/
def ForB (J : It) (g : TG) (tb : TS) (D : Ends) (σ : L2.St) (H : Hp) : Prop :=
  ∃ W : Nat → Nat → L2.St → Hp → Prop, (∃ m, W 0 m σ H) ∧ ∀ i m σ H, W i m σ H →
    (J.stop i H ∧ D.nx σ H) ∨ (J.go i H ∧ ∃ N : L2.St → Hp → Prop, (∀ σ' H', N σ' H' → ∃ m', m' < m ∧ W (i + 1) m' σ' H') ∧
      ∀ x H', J.yld i H x H' → g x σ H' fun σ2 H2 => tb { D with nx := N, ct := N, bk := D.nx } σ2 H2)
theorem tFor_eq {wi : TI} : tFor wi g tb D σ H = wi σ H fun J H1 => ForB J g tb D σ H1 := rfl
/-- a for by its invariant -/
theorem forB (w : Walk J n G Y) (Pv : Nat → L2.St → Hp → Prop) (h0 : Pv 0 σ H) (hG : ∀ i σ H, i ≤ n → Pv i σ H → G H)
    (hs : ∀ i x σ H H', i < n → Pv i σ H → Y i H x H' → g x σ H' fun σ2 H2 => tb { D with nx := Pv (i + 1), ct := Pv (i + 1), bk := D.nx } σ2 H2)
    (hd : ∀ σ H, Pv n σ H → D.nx σ H) : ForB J g tb D σ H := for_it w Pv h0 hG hs hd
end
theorem mono_name {i : Nat} (x : V) (σ' : L2.St) (H' : Hp) (A B : L2.St → Hp → Prop) (h : ∀ s h, A s h → B s h) (q : gName i x σ' H' A) : gName i x σ' H' B := h _ _ q
theorem mono_yes (σ' : L2.St) (H' : Hp) (A B : Bool → Hp → Prop) (h : ∀ b h, A b h → B b h) (q : tYes σ' H' A) : tYes σ' H' B := h _ _ q
end Lv

/-! texts made of drawn signs -/
namespace Lv
open PySem PySem.Spec PyProof.Rows L2
/-- a text of one sign -/
abbrev sg (c : Nat) : Str := ⟨#[c]⟩
theorem len_tl (z : Str) : z.length = (TL.tl z).length := by
  show z.cps.size = z.cps.toList.length
  rw [Array.length_toList]
end Lv

/-! repr of lists of truths -/
namespace Lv
open PySem PySem.Spec PyProof.Rows L2
/-- what repr asks of data -/
def RpOk (d : PyData) : Prop := isDisplay d = true ∧ d.showable = true ∧ d.hasDict = false ∧ d.depth ≤ 60 ∧ d.shown.length ≤ sizeLine
def rRp (K : PySem.W.Frag) : List V → Hp → VK → Prop := fun xs H Q => ∃ (v : V) (d : PyData), xs = [v] ∧ Dp K H v d ∧ RpOk d ∧ Q (.str d.shown) H
def dB (bs : List Bool) : PyData := .list (bs.map PyData.bool)
end Lv

/-! what the words' defs and the law's dice promise -/
namespace Lv
open PySem PySem.Spec PyProof.Rows L2
section
variable {K : PySem.W.Frag}
/-- is_integer -/
def intV : V → Bool
  | .int i => decide ((if i < 0 then -i else i) < 10 ^ 60)
  | _ => false
def sp_is_integer : Sp := fun vs H Q _ => ∃ (v : V) (t : String), vs = [v] ∧ Kn H v t ∧ Q (.bl (intV v)) H
/-- is_name -/
def lowC (c : Nat) : Bool := !decide ([c] < (Str.ofString "a").cps.toList) && !decide ((Str.ofString "z").cps.toList < [c])
theorem range_map {α : Type} (f : Nat → α) (l : List Nat) : ((List.range l.length).map fun i => f (l[i]?.getD 0)) = l.map f := by
  apply List.ext_getElem
  · simp
  · intro i h1 h2
    have h3 : i < l.length := by simpa using h2
    simp [h3]
def isNm (z : Str) : Bool := decide ((1 : Int) ≤ z.length) && decide ((z.length : Int) ≤ 8) && !inV (.str z) [.str "gives", .str "to"] && z.cps.toList.all lowC
def nameV : V → Bool
  | .str z => isNm z
  | _ => false
def sp_is_name : Sp := fun vs H Q _ => ∃ (v : V) (t : String), vs = [v] ∧ Kn H v t ∧ (∀ z, v = .str z → z.length ≤ sizeLine) ∧ ∀ H', Same H H' → Q (.bl (nameV v)) H'
theorem kit_ntup {H : Hp} {v : V} {t : String} (k : Kn H v t) (n : t ≠ "tuple") : kitB t "tuple" = some false := by
  cases k with
  | tup h => exact absurd rfl n
  | _ => decide +kernel
/-- is_names -/
def namesV (xs : List V) (lo hi : Int) : Bool := decide (lo ≤ (xs.length : Int)) && decide ((xs.length : Int) ≤ hi) && xs.all nameV
/-- a value told to is_names: of which kind it is, and if it is a tuple, its items -/
inductive Told (H : Hp) : V → List V → Bool → Prop where
  | tup {a : Addr} {xs : List V} (h : H a = some (.tup xs)) (k : ∀ x ∈ xs, ∃ t, Kn H x t) (z : ∀ y, V.str y ∈ xs → y.length ≤ sizeLine) : Told H (.ref a) xs true
  | oth {v : V} {t : String} (k : Kn H v t) (n : t ≠ "tuple") : Told H v [] false
def sp_is_names : Sp := fun vs H Q _ => ∃ (v : V) (xs : List V) (b : Bool) (lo hi : Int), vs = [v, .int lo, .int hi] ∧ hi ≤ 1000 ∧ Told H v xs b ∧ ∀ H', Same H H' → Q (.bl (b && namesV xs lo hi)) H'
def sp_is_type : Sp := fun vs H Q _ => ∃ (v : V) (xs : List V) (b : Bool), vs = [v] ∧ Told H v xs b ∧ ∀ H', Same H H' → Q (.bl (b && namesV xs 1 401)) H'
def sp_is_front : Sp := fun vs H Q _ => ∃ (v : V) (xs : List V) (b : Bool), vs = [v] ∧ Told H v xs b ∧ ∀ H', Same H H' → Q (.bl (b && namesV xs 0 400)) H'
theorem seqIx {j n : Nat} (h : j < n) : seqIndex? (j : Int) n = some j := by
  unfold seqIndex?
  simp
  omega
/-- _law_dice: three ints, whatever they are -/
def sp_law_dice (K : PySem.W.Frag) : Sp := fun vs H Q _ => ∃ (a : Addr) (ns : List Int) (k : Nat), vs = [.ref a, .int k] ∧ SqL K H a (ns.map V.int) ∧ k ≤ 100 ∧
  ∀ p x y z, H p = none → Q (.ref p) (upd H p (.lst [.int x, .int y, .int z]))
/-- _law_roll: a number below the bound -/
def sp_law_roll : Sp := fun vs H Q _ => ∃ (d : Addr) (n : Int), vs = [.ref d, .int n] ∧ 0 < n ∧ n < 1073741824 ∧ Dc H d ∧
  ∀ r x y z : Int, 0 ≤ r → r < n → Q (.int r) (upd H d (.lst [.int x, .int y, .int z]))
/-- _law_pick: one of the items -/
def sp_law_pick (K : PySem.W.Frag) : Sp := fun vs H Q _ => ∃ (d : Addr) (v : V), vs = [.ref d, v] ∧ Dc H d ∧
  ((∃ (p : Addr) (xs : List V), v = .ref p ∧ p ≠ d ∧ SqL K H p xs ∧ xs ≠ [] ∧ xs.length < 1073741824 ∧ ∀ y H', y ∈ xs → Gr d H H' → Q y H') ∨
   ∃ z : Str, v = .str z ∧ z.length ≤ sizeLine ∧ 0 < z.length ∧ z.length < 1073741824 ∧ ∀ c H', c ∈ z.cps.toList → Gr d H H' → Q (.str ⟨#[c]⟩) H')
/-- _law_some of a text: signs of it, some of them -/
def sp_law_some : Sp := fun vs H Q _ => ∃ (d : Addr) (z : Str) (n : Int), vs = [.ref d, .str z, .int n] ∧ Dc H d ∧ 0 ≤ n ∧ z.length ≤ 1000 ∧
  ∀ p H' (ys : List V), Gr d H H' → H p = none → p ≠ d → H' p = some (.lst ys) → (∀ y ∈ ys, y ∈ sgs z) → ys.length = min n.toNat z.length → Q (.ref p) H'
def inv_some (d l p : Addr) (z : Str) (n : Int) (H : Hp) : Nat → L2.St → Hp → Prop := fun i σ H' =>
  ∃ (x5 : Option V) (ls fs : List V), σ = [some (.ref d), some (.str z), some (.int n), some (.ref l), some (.ref p), x5] ∧ Gr d H H' ∧
      H' l = some (.lst ls) ∧ H' p = some (.lst fs) ∧ ls.length + i = z.length ∧ fs.length = i ∧ (∀ y ∈ ls, y ∈ sgs z) ∧ ∀ y ∈ fs, y ∈ sgs z
abbrev abc : Str := "abcdefghijklmnopqrstuvwxyz"
def sp_law_names : Sp := fun vs H Q _ => ∃ (d : Addr) (n : Int), vs = [.ref d, .int n] ∧ Dc H d ∧ 0 ≤ n ∧
  ∀ p H' (ws : List Str), Gr d H H' → H p = none → p ≠ d → H' p = some (.lst (ws.map V.str)) → (∀ w ∈ ws, isNm w = true) → ws.length = min n.toNat 26 → Q (.ref p) H'
def inv_names (d l p : Addr) (n : Int) (ys : List V) (H : Hp) : Nat → L2.St → Hp → Prop := fun i σ H' =>
  ∃ (x4 x5 x6 x7 : Option V) (ws : List Str), σ = [some (.ref d), some (.int n), some (.ref p), some (.str abc), x4, x5, x6, x7] ∧ Gr d H H' ∧
      H' l = some (.lst ys) ∧ H' p = some (.lst (ws.map V.str)) ∧ ws.length = i ∧ ∀ w ∈ ws, isNm w = true
def sp_law_odd_sign : Sp := fun vs H Q _ => ∃ (d : Addr), vs = [.ref d] ∧ Dc H d ∧ ∀ c H', lowC c = false → Gr d H H' → Q (.str ⟨#[c]⟩) H'
theorem pick_new {H : Hp} {d p : Addr} {xs : List V} {Q : VK} {E : XK} (hd : Dc H d) (hp : H p = none) (hne : xs ≠ []) (hl : xs.length < 1073741824)
    (q : ∀ y H', y ∈ xs → Gr d H H' → Q y H') : sp_law_pick K [.ref d, .ref p] (upd H p (.lst xs)) Q E :=
  ⟨d, _, rfl, (Gr.new hd hp).dice, .inl ⟨p, xs, rfl, hd.ne hp, sql_of upd_same, hne, hl, fun y H' hy g => q y H' hy ((Gr.new hd hp).trans g)⟩⟩
theorem roll_new {H : Hp} {d : Addr} {n : Int} {Q : VK} {E : XK} (hd : Dc H d) (h0 : 0 < n) (h1 : n < 1073741824)
    (q : ∀ (r : Int) H', 0 ≤ r → r < n → Gr d H H' → Q (.int r) H') : sp_law_roll [.ref d, .int n] H Q E :=
  ⟨d, n, rfl, h0, h1, hd, fun r x y z a b => q r _ a b (Gr.roll hd)⟩
theorem isint {H : Hp} {v : V} {t : String} {Q : VK} {E : XK} (k : Kn H v t) (q : Q (.bl (intV v)) H) : sp_is_integer [v] H Q E := ⟨v, t, rfl, k, q⟩
def sp_right : Sp := fun vs H Q _ => ∃ (d : Addr), vs = [.ref d] ∧ Dc H d ∧ ∀ H', Gr d H H' → Q (.bl true) H'
theorem isname {H : Hp} {v : V} {t : String} {Q : VK} {E : XK} (k : Kn H v t) (z : ∀ y, v = .str y → y.length ≤ sizeLine) (q : ∀ H', Same H H' → Q (.bl (nameV v)) H') : sp_is_name [v] H Q E :=
  ⟨v, t, rfl, k, z, q⟩
theorem isnameS {H : Hp} {y : Str} {Q : VK} {E : XK} (z : y.length ≤ sizeLine) (q : ∀ H', Same H H' → Q (.bl (isNm y)) H') : sp_is_name [.str y] H Q E :=
  isname (.str y) (fun x e => by cases e; exact z) q
/-- items of a tuple that are told -/
structure Itm (H : Hp) (xs : List V) : Prop where
  kn : ∀ x ∈ xs, ∃ t, Kn H x t
  sz : ∀ y, V.str y ∈ xs → y.length ≤ sizeLine
theorem Itm.nil {H : Hp} : Itm H [] := ⟨(fun x h => nomatch h), (fun y h => nomatch h)⟩
theorem Itm.cons {H : Hp} {x : V} {xs : List V} {t : String} (k : Kn H x t) (z : ∀ y, x = .str y → y.length ≤ sizeLine) (r : Itm H xs) : Itm H (x :: xs) := by
  refine ⟨fun y h => ?_, fun y h => ?_⟩
  · rcases List.mem_cons.mp h with rfl | h
    · exact ⟨t, k⟩
    · exact r.kn y h
  · rcases List.mem_cons.mp h with h | h
    · exact z y h.symm
    · exact r.sz y h
theorem Itm.str {H : Hp} {y : Str} {xs : List V} (z : y.length ≤ sizeLine) (r : Itm H xs) : Itm H (.str y :: xs) := r.cons (.str y) (fun x e => by cases e; exact z)
theorem Itm.same {H H' : Hp} {xs : List V} (s : Same H H') (r : Itm H xs) : Itm H' xs := ⟨fun x h => (r.kn x h).imp fun _ k => k.same s, r.sz⟩
theorem Itm.gr {d : Addr} {H H' : Hp} {xs : List V} (s : Gr d H H') (r : Itm H xs) : Itm H' xs := ⟨fun x h => (r.kn x h).imp fun _ k => k.gr s, r.sz⟩
theorem istype {H : Hp} {p : Addr} {xs : List V} {Q : VK} {E : XK} (h : H p = some (.tup xs)) (i : Itm H xs) (q : ∀ H', Same H H' → Q (.bl (namesV xs 1 401)) H') : sp_is_type [.ref p] H Q E :=
  ⟨_, xs, true, rfl, .tup h i.kn i.sz, fun H' s => by rw [Bool.true_and]; exact q H' s⟩
theorem slT {H : Hp} {a : Addr} {xs : List V} {lo hi : Option Int} {Q : VK} (h : H a = some (.tup xs))
    (q : ∀ p H', Same H H' → H' p = some (.tup (cutV xs lo hi)) → Q (.ref p) H') : rSlA K (.ref a) lo hi H Q := by
  refine ⟨a, xs, rfl, sqt_of h, fun e => q a H (Same.refl _) ?_, fun _ p hp => q p _ (same_new hp) upd_same⟩
  rw [h]
  unfold cutV
  rw [e.1, e.2]
  simp
theorem catT {H : Hp} {a b : Addr} {xs ys : List V} {Q : VK} (ha : H a = some (.tup xs)) (hb : H b = some (.tup ys)) (hl : xs.length + ys.length ≤ sizeLine)
    (q : ∀ p H', Same H H' → H' p = some (.tup (xs ++ ys)) → Q (.ref p) H') : rCatA K (.ref a) (.ref b) H Q := by
  refine ⟨a, b, xs, ys, rfl, rfl, sqt_of ha, sqt_of hb, hl, fun e => q b H (Same.refl _) ?_, fun _ e => q a H (Same.refl _) ?_, fun _ _ p hp => q p _ (same_new hp) upd_same⟩
  · rw [hb, e, List.nil_append]
  · rw [ha, e, List.append_nil]
theorem isNm_len {z : Str} (h : isNm z = true) : 1 ≤ z.length ∧ z.length ≤ 8 := by
  unfold isNm at h
  simp only [Bool.and_eq_true, decide_eq_true_eq] at h
  omega
theorem itmW {H : Hp} : ∀ {ws : List Str}, (∀ w ∈ ws, isNm w = true) → Itm H (ws.map V.str)
  | [], _ => Itm.nil
  | w :: ws, h => (itmW fun x hx => h x (List.mem_cons_of_mem _ hx)).str (sz100 (by have := isNm_len (h w List.mem_cons_self); omega))
theorem names_all {ws : List Str} {lo hi : Int} (h : ∀ w ∈ ws, isNm w = true) (h1 : lo ≤ ws.length) (h2 : ws.length ≤ hi) : namesV (ws.map V.str) lo hi = true := by
  unfold namesV
  rw [List.length_map, decide_eq_true h1, decide_eq_true h2]
  simp only [Bool.true_and, List.all_eq_true, List.mem_map]
  rintro x ⟨w, hw, rfl⟩
  exact h w hw
theorem sum_le8 : ∀ {ws : List Str}, (∀ w ∈ ws, isNm w = true) → (ws.map (·.length)).sum ≤ 8 * ws.length
  | [], _ => Nat.le_refl _
  | w :: ws, h => by
    have h1 := sum_le8 fun x hx => h x (List.mem_cons_of_mem _ hx)
    have h2 := isNm_len (h w List.mem_cons_self)
    rw [List.map_cons, List.sum_cons, List.length_cons]
    omega
theorem names_len {xs : List V} {lo hi : Int} (h : ¬ (lo ≤ xs.length ∧ xs.length ≤ hi)) : namesV xs lo hi = false := by
  unfold namesV
  by_cases h1 : lo ≤ (xs.length : Int)
  · rw [decide_eq_false (show ¬ ((xs.length : Int) ≤ hi) from fun h2 => h ⟨h1, h2⟩), Bool.and_false, Bool.false_and]
  · rw [decide_eq_false h1, Bool.false_and, Bool.false_and]
theorem cut_to {xs : List V} (k : Nat) : cutV xs none (some (k : Int)) = xs.take k := by
  unfold cutV
  rw [HT.sIx_none, HT.sIx_nat, List.drop_zero, Nat.sub_zero]
  by_cases h : k ≤ xs.length
  · rw [Nat.min_eq_left h]
  · rw [Nat.min_eq_right (by omega), List.take_of_length_le (by omega), List.take_of_length_le (by omega)]
end
end Lv

/-! tuples of names: equality, repr -/
namespace Lv
open PySem PySem.Spec PyProof.Rows L2
/-- a tuple of texts as data -/
def dS (ws : List Str) : PyData := .tuple (ws.map PyData.str)
theorem dpS {K : PySem.W.Frag} {H : Hp} : ∀ ws : List Str, DpAll K H (ws.map V.str) (ws.map PyData.str)
  | [] => .nil
  | w :: ws => .cons (.str w) (dpS ws)
theorem eqvS : ∀ xs ys : List Str, PyData.eqvAll (xs.map PyData.str) (ys.map PyData.str) = decide (xs = ys)
  | [], [] => by simp [PyData.eqvAll]
  | x :: xs, [] => by simp [PyData.eqvAll]
  | [], y :: ys => by simp [PyData.eqvAll]
  | x :: xs, y :: ys => by
    rw [List.map_cons, List.map_cons, PyData.eqvAll, eqvS xs ys, PyData.eqv]
    by_cases h : x = y <;> by_cases h2 : xs = ys <;> simp [h, h2]
def Pl (z : Str) : Prop := ∀ c ∈ z.cps.toList, c < 256
theorem pl_of {z : Str} (h : isNm z = true) : Pl z := by
  intro c hc
  unfold isNm at h
  simp only [Bool.and_eq_true] at h
  have := List.all_eq_true.mp h.2 c hc
  unfold lowC at this
  simp only [Bool.and_eq_true, Bool.not_eq_true', decide_eq_false_iff_not] at this
  have h2 := this.2
  by_cases hc2 : c ≤ 122
  · omega
  · exact absurd (show (Str.ofString "z").cps.toList < [c] from List.Lex.rel (show 122 < c by omega)) h2
theorem strOk_pl {z : Str} (h : Pl z) : PyData.strOk z = true := by
  show z.cps.all (· < 0x110000) = true
  rw [Array.all_eq_true']
  intro c hc
  have := h c (by simpa using hc)
  simp
  omega
theorem shapedS {ws : List Str} (h : ∀ w ∈ ws, Pl w) : SeqAt.shaped (dS ws) = true := by
  have h1 : ∀ {ws : List Str}, (∀ w ∈ ws, Pl w) → PyData.canLayAll0 (ws.map PyData.str) = true := by
    intro ws
    induction ws with
    | nil => intro _; simp [PyData.canLayAll0]
    | cons w ws ih =>
      intro h
      rw [List.map_cons, PyData.canLayAll0, ih fun x hx => h x (List.mem_cons_of_mem _ hx), PyData.canLay0, strOk_pl (h w List.mem_cons_self)]
      rfl
  have h2 : ∀ {ws : List Str}, PyData.depthAll (ws.map PyData.str) ≤ 10 := by
    intro ws
    induction ws with
    | nil => simp [PyData.depthAll]
    | cons w ws ih =>
      rw [List.map_cons, PyData.depthAll]
      simp [PyData.depth]
      omega
  unfold SeqAt.shaped
  have h3 := h2 (ws := ws)
  simp only [dS, PyData.canLay0, PyData.depth, h1 h, Bool.true_and]
  exact decide_eq_true (by omega)
section
variable {K : PySem.W.Frag} {H : Hp} {a b : Addr} {xs ys : List Str} {Q : VK}
theorem neT (ha : SqT K H a (xs.map V.str)) (hb : SqT K H b (ys.map V.str)) (px : ∀ w ∈ xs, Pl w) (py : ∀ w ∈ ys, Pl w) (q : Q (.bl (!decide (xs = ys))) H) : rNeD K (.ref a) (.ref b) H Q := by
  refine ⟨dS xs, dS ys, .tup ha (dpS xs), .tup hb (dpS ys), shapedS px, shapedS py, ?_⟩
  simp only [dS, PyData.eqv, eqvS]
  exact q
end
/-! ### repr of a tuple of texts -/
theorem rlen {w : Str} (h : Pl w) : (reprText w).length ≤ 10 * w.length + 2 := StrLaws.reprText_len w fun c hc => Nat.lt_trans (h c hc) (by decide)
end Lv

/-! what the defs over types and fronts promise -/
namespace Lv
open PySem PySem.Spec PyProof.Rows L2
structure Ty (xs : List Str) : Prop where
  nm : ∀ w ∈ xs, isNm w = true
  lo : 1 ≤ xs.length
  hi : xs.length ≤ 401
structure Fn (ys : List Str) : Prop where
  nm : ∀ w ∈ ys, isNm w = true
  hi : ys.length ≤ 400
theorem Ty.v {xs : List Str} (h : Ty xs) : namesV (xs.map V.str) 1 401 = true := names_all h.nm (by have := h.lo; omega) (by have := h.hi; omega)
theorem Fn.v {xs : List Str} (h : Fn xs) : namesV (xs.map V.str) 0 400 = true := names_all h.nm (by omega) (by have := h.hi; omega)
abbrev blank : Str := " "
abbrev none' : Str := ""
def tx (xs : List Str) : Str := Txt.join blank xs
def begW (xs ys : List Str) : Bool := decide (ys.length < xs.length) && decide (xs.take ys.length = ys)
def sp_words_of : Sp := fun vs H Q _ => ∃ (v : V) (t : String), vs = [v] ∧ Kn H v t ∧ ((∀ z, v ≠ .str z) → Q .non H) ∧
  ∀ z, v = .str z → z.length + 2 ≤ sizeLine ∧ (none' ∈ Txt.split z blank → ∀ H', Same H H' → Q .non H') ∧
    (none' ∉ Txt.split z blank → ∀ p H', Same H H' → H p = none → H' p = some (.lst ((Txt.split z blank).map V.str)) → Q (.ref p) H')
def sp_begins_in : Sp := fun vs H Q _ => ∃ (a b : Addr) (xs ys : List Str), vs = [.ref a, .ref b] ∧ H a = some (.tup (xs.map V.str)) ∧ H b = some (.tup (ys.map V.str)) ∧ (∀ w ∈ xs, Pl w) ∧ (∀ w ∈ ys, Pl w) ∧
  ∀ H', Same H H' → Q (.bl (begW xs ys)) H'
def sp_require : Sp := fun vs H Q _ => ∃ (a b : Addr) (xs ys : List Str), vs = [.ref a, .ref b] ∧ H a = some (.tup (xs.map V.str)) ∧ H b = some (.tup (ys.map V.str)) ∧ Ty xs ∧ Fn ys ∧ ∀ H', Same H H' → Q .non H'
def sp_begins : Sp := fun vs H Q _ => ∃ (a b : Addr) (xs ys : List Str), vs = [.ref a, .ref b] ∧ H a = some (.tup (xs.map V.str)) ∧ H b = some (.tup (ys.map V.str)) ∧ Ty xs ∧ Fn ys ∧ ∀ H', Same H H' → Q (.bl (begW xs ys)) H'
def sp_tail : Sp := fun vs H Q _ => ∃ (a b : Addr) (xs ys : List Str), vs = [.ref a, .ref b] ∧ H a = some (.tup (xs.map V.str)) ∧ H b = some (.tup (ys.map V.str)) ∧ Ty xs ∧ Fn ys ∧ begW xs ys = true ∧
  ∀ p H', Same H H' → H' p = some (.tup ((xs.drop ys.length).map V.str)) → Q (.ref p) H'
def sp_write_type : Sp := fun vs H Q _ => ∃ (a : Addr) (xs : List Str), vs = [.ref a] ∧ H a = some (.tup (xs.map V.str)) ∧ Ty xs ∧ ∀ H', Same H H' → Q (.str (tx xs)) H'
def sp_read_type : Sp := fun vs H Q _ => ∃ (xs : List Str), vs = [.str (tx xs)] ∧ Ty xs ∧ ∀ p H', Same H H' → H' p = some (.tup (xs.map V.str)) → Q (.ref p) H'
theorem cut_from {xs : List V} (k : Nat) : cutV xs (some (k : Int)) none = xs.drop k := by
  unfold cutV
  rw [HT.sIx_none, HT.sIx_nat]
  by_cases h : k ≤ xs.length
  · rw [Nat.min_eq_left h, List.take_of_length_le (by rw [List.length_drop]; omega)]
  · rw [Nat.min_eq_right (by omega), List.drop_of_length_le (Nat.le_refl _), List.drop_of_length_le (by omega)]
    simp
theorem slFrom {K : PySem.W.Frag} {H : Hp} {a : Addr} {ws : List Str} {Q : VK} (k : Nat) (h : H a = some (.tup (ws.map V.str)))
    (q : ∀ p H', Same H H' → H' p = some (.tup ((ws.drop k).map V.str)) → Q (.ref p) H') : rSlA K (.ref a) (some (k : Int)) none H Q := by
  refine slT h fun p H' s f => q p H' s ?_
  rw [f, cut_from, List.map_drop]
end Lv

/-! comprehensions with a test -/
namespace Lv
open PySem PySem.Spec PyProof.Rows L2
section
variable {J : It} {G : Hp → Prop} {g : TG} {tt : TT} {te : TE} {vs : List Nat} {σ : L2.St} {H1 : Hp} {Q : VK}
theorem lc_filt {xs : List V} (w : Walk J xs.length G (YAt xs)) (P : V → Bool) (hn : xs.length ≤ sizeLine) (hG : ∀ H, Same H1 H → G H)
    (hs : ∀ x H, x ∈ xs → Same H1 H → ∀ (C : VK) (C' : Hp → Prop), (P x = true → ∀ H4, Same H H4 → C x H4) → (P x = false → ∀ H4, Same H H4 → C' H4) →
      g x (wipe σ vs) H fun σ2 H2 => wipe σ2 vs = wipe σ vs ∧ tt σ2 H2 fun b H3 => if b = true then te σ2 H3 C else C' H3)
    (hd : ∀ H D, Same H1 H → H1 D = none → H D = some (.lst (xs.filter P)) → Q (.ref D) H) : LcB J g tt te vs σ Q H1 := by
  intro D hD
  refine lc_it w (fun i H => Same H1 H ∧ H D = some (.lst ((xs.take i).filter P))) ⟨same_new hD, upd_same⟩ (fun i H _ h => hG H h.1) ?_ (fun H h => hd H D h.1 hD ?_)
  · rintro i x H H' hi ⟨hS, hL⟩ ⟨rfl, hx⟩
    have hlen : ((xs.take i).filter P).length < sizeLine := Nat.lt_of_le_of_lt (List.length_filter_le ..) (by rw [List.length_take]; omega)
    refine hs x H' (List.mem_of_getElem? hx) hS _ _ (fun hp H4 h4 => ⟨_, h4 _ _ hL, hlen, same_mut (hS.trans h4) hD, ?_⟩) (fun hp H4 h4 => ⟨hS.trans h4, ?_⟩)
    · rw [upd_same, List.take_add_one, hx, List.filter_append]
      simp [hp]
    · rw [h4 _ _ hL, List.take_add_one, hx, List.filter_append]
      simp [hp]
  · have := h.2
    rw [List.take_length] at this
    exact this
end
theorem ixt_nat {K : PySem.W.Frag} {H : Hp} {a : Addr} {xs : List V} {j : Nat} {v : V} {Q : VK} (h : SqT K H a xs) (e : xs[j]? = some v) (q : Q v H) :
    rIxT K (.ref a) (.int j) H Q := ⟨a, xs, j, v, rfl, rfl, h, atI_nat e, q⟩
theorem catL {H : Hp} {a b : Addr} {xs ys : List V} {Q : VK} (ha : H a = some (.lst xs)) (hb : H b = some (.lst ys)) (hl : xs.length + ys.length ≤ sizeLine)
    (q : ∀ p, H p = none → Q (.ref p) (upd H p (.lst (xs ++ ys)))) : rCat (.ref a) (.ref b) H Q := ⟨a, b, xs, ys, rfl, rfl, ha, hb, hl, q⟩
end Lv

/-! laws whose defs make lambdas: the tables of their code objects are told of -/
namespace Lv
open PySem PySem.Spec PyProof.Rows L2 LamX
/-- the law's call; cs: the code objects and their tables -/
theorem lawGT {P : Program} {w : World} {K : PySem.W.Frag} {mg mb : Str → Option Value} {k : Nat} {fa a : Addr} {cs : List (Addr × Addr)}
    {fd : FuncData} {x : Str} {sp : Sp} {s₁ : Shared} {vs : List Value} {ns : List Int}
    (hK : K.In s₁.heap) (hG : s₁.heap.Ns mainGlobals mg) (hB : s₁.heap.Ns builtinsNs mb)
    (hB2 : ∀ x : Str, x ≠ "__name__" → mb x = bootBuiltins x) (hL : s₁.heap.NoLimit) (hg : s₁.gens = #[])
    (hT : ∀ p ∈ cs, s₁.heap.get? p.2 = some { cls := .none, data := .fields #[] }) (nT : ∀ p ∈ cs, K.lookup p.2 = none)
    (hC : ∀ p ∈ cs, PySem.W.CodeHd s₁.heap p.1 p.2)
    (hbm : ∃ (bm : Addr) (ob : Obj), mg "__builtins__" = some (.ref bm) ∧ bm ≠ builtinsNs ∧ s₁.heap.get? bm = some ob ∧
      ob.cls = .type "module" ∧ ob.dict = some builtinsNs ∧ ob.data = .plain)
    (ha : s₁.heap.get? a = some { cls := .type "list", data := .seq vs.toArray }) (hi : IntsAre vs ns)
    (hl : ns.length ≤ sizeLine) (hr : Room k callerA)
    (F : ∀ base : Heap, K.In base → base.Ns mainGlobals mg → (∀ p ∈ cs, TabB base mg p.1 p.2) → FnG P w K mg base CX0 k fa fd [x] sp)
    (hbind : ∀ (s : Shared) (u : Value), BindsTo s fd ⟨[u], []⟩ [(x, u)])
    (hsp : ∀ H : Hp, (∀ p ∈ cs, H p.2 = some (.tbl #[])) → SqL K H a (ns.map V.int) → sp [.ref a] H (fun v _ => v = .bl true) E0) :
    codeAny (model P w) callerA (.call (.ref fa) ⟨[.ref a], []⟩)
      (fun r s' => r = .ok (.ret (.bool true)) ∧ OldK s₁.heap s'.heap ∧ s'.os = s₁.os ∧ AllBare s'.gens) s₁ := by
  have rv := vals_ints hi
  have lenV := hi.length
  let o₁ : Obj := { cls := .type "list", data := .seq vs.toArray }
  have atT : ∀ b, b ∈ cs.map (·.2) → s₁.heap.get? b = some { cls := .none, data := .fields #[] } := by
    intro b hb
    obtain ⟨p, hp, rfl⟩ := List.mem_map.mp hb
    exact hT p hp
  -- the heap that is told of: the tables, and the script where it is none of the text's own
  let H : Hp := fun b => if b ∈ cs.map (·.2) then some (.tbl #[]) else
    if b = a ∧ K.lookup a = none then some (.frz o₁ (.lst (ns.map V.int))) else none
  have HT : ∀ b, b ∈ cs.map (·.2) → H b = some (.tbl #[]) := fun b hb => if_pos hb
  have Hc : ∀ b u, H b = some u → (b ∈ cs.map (·.2) ∧ u = .tbl #[]) ∨
      (b = a ∧ K.lookup a = none ∧ b ∉ cs.map (·.2) ∧ u = .frz o₁ (.lst (ns.map V.int))) := by
    intro b u e
    by_cases hb : b ∈ cs.map (·.2)
    · rw [HT b hb] at e
      cases e
      exact .inl ⟨hb, rfl⟩
    · have e' : (if b = a ∧ K.lookup a = none then some (HO.frz o₁ (.lst (ns.map V.int))) else none) = some u := (if_neg hb).symm.trans e
      by_cases h2 : b = a ∧ K.lookup a = none
      · rw [if_pos h2] at e'
        cases e'
        exact .inr ⟨h2.1, h2.2, hb, rfl⟩
      · rw [if_neg h2] at e'
        cases e'
  have an : a ∉ cs.map (·.2) := fun z => by
    have q := atT a z
    rw [ha] at q
    exact nomatch congrArg Obj.data (Option.some.inj q)
  have hS : SqL K H a (ns.map V.int) := by
    cases hk : K.lookup a with
    | none => exact .inl (.inr ⟨o₁, (if_neg an).trans (if_pos ⟨rfl, hk⟩)⟩)
    | some o =>
      have e := hK a o hk
      rw [ha] at e
      cases e
      exact .inr ⟨_, vs.toArray, _, hk, rfl, rfl, rfl, by rw [List.size_toArray, lenV]; exact hl, by simpa using rv⟩
  have hok : HOk P w H s₁.heap := by
    intro b u e
    rcases Hc b u e with ⟨hb, rfl⟩ | ⟨rfl, _, _, rfl⟩
    · exact atT b hb
    · exact ⟨ha, by rw [List.length_map]; exact hl, vs, _, rv, ha⟩
  -- what is neither a list nor an empty record is not told of
  have free : ∀ {b : Addr} {o : Obj}, s₁.heap.get? b = some o → (∀ z n, o.data ≠ .seq z n) → o.data ≠ .fields #[] → H b = none := by
    intro b o e h1 h2
    cases q : H b with
    | none => rfl
    | some u =>
      rcases Hc b u q with ⟨hb, _⟩ | ⟨rfl, _⟩
      · rw [atT b hb] at e
        cases e
        exact absurd rfl h2
      · rw [ha] at e
        cases e
        exact absurd rfl (h1 _ _)
  have ns2 : ∀ {b : Addr} {m : Str → Option Value}, s₁.heap.Ns b m → (hidT s₁.heap H).Ns b m := by
    rintro b m ⟨o, es, ep, e, d, r⟩
    exact ⟨o, es, ep, hidT_get e (free e (fun z n q => by rw [d] at q; cases q) (fun q => by rw [d] at q; cases q)), d, r⟩
  have hKb : K.In (hidT s₁.heap H) := by
    intro b o e
    refine hidT_get (hK b o e) ?_
    cases q : H b with
    | none => rfl
    | some u =>
      rcases Hc b u q with ⟨hb, _⟩ | ⟨rfl, z, _⟩
      · obtain ⟨p, hp, rfl⟩ := List.mem_map.mp hb
        rw [nT p hp] at e
        cases e
      · rw [z] at e
        cases e
  have hM : Mod K mg (hidT s₁.heap H) := by
    refine ⟨hKb, ns2 hG, ⟨mb, ns2 hB, hB2⟩, ?_⟩
    obtain ⟨mc, h1, h2⟩ := hL
    exact ⟨mc, ns2 h1, h2⟩
  have TB : ∀ p ∈ cs, TabB (hidT s₁.heap H) mg p.1 p.2 := by
    intro p hp
    have hTp := hT p hp
    refine ⟨?_, ?_, ?_⟩
    · obtain ⟨o, us, file, tf, flags, tg, inF, text, tt, e1, r1, r2, rest⟩ := hC p hp
      refine ⟨o, us, file, tf, flags, tg, inF, text, tt, hidT_get e1 (free e1 ?_ ?_), r1, r2, rest⟩
      · intro z n q
        rw [r2] at q
        cases q
      · intro q
        rw [r2] at q
        cases q
        simp at rest
    · obtain ⟨bm, ob, b1, b2, b3, b4, b5, b6⟩ := hbm
      refine ⟨bm, ob, b1, b2, ?_, ?_, hidT_get b3 (free b3 ?_ ?_), b4, b5, b6⟩
      · rintro rfl
        obtain ⟨o, es, ep, e, hd, _⟩ := hG
        rw [e] at b3
        cases b3
        rw [hd] at b6
        cases b6
      · rintro rfl
        rw [hTp] at b3
        cases b3
        cases b6
      · intro z n q
        rw [b6] at q
        cases q
      · intro q
        rw [b6] at q
        cases q
    · intro z
      obtain ⟨o, es, ep, e, hd, _⟩ := hG
      rw [z, hTp] at e
      cases e
      cases hd
  have e0 : Env0 P w K mg (hidT s₁.heap H) callerA [] s₁ H := by
    refine ⟨rfl, hM, fun b o e => of_hidT e, Nat.le_of_eq (hidT_size _ _), trivial, ?_, hok, .of_eq hg⟩
    intro b hb
    exact absurd (show b ∈ ([] : List Addr) from hb) (by simp)
  have hH : ∀ p ∈ cs, H p.2 = some (.tbl #[]) := fun p hp => HT _ (List.mem_map.mpr ⟨p, hp, rfl⟩)
  have run := (F _ hKb (ns2 hG) TB).run callerA rfl [] s₁ H ⟨[.ref a], []⟩ [.ref a] [.ref a] _ _ hr e0
    (hbind s₁ (.ref a)) (.cons rfl .nil) (hsp H hH hS)
  refine codeAny_mono run ?_
  rintro (er | (_ | _ | _ | u)) s' h
  · exact False.elim h
  · exact False.elim h
  · exact False.elim h
  · exact False.elim h
  obtain ⟨v, H', os, bare, un, hok', r', q⟩ := h
  obtain rfl : v = V.bl true := q
  obtain rfl : u = Value.bool true := r'
  have old : ∀ b o, b ∉ cs.map (·.2) → s₁.heap.get? b = some o → s'.heap.get? b = some o := by
    intro b o nb e
    cases q : H b with
    | none => exact un.keep b o e q (fun z => absurd (show b ∈ ([] : List Addr) from z) (by simp)) (by simp)
    | some u =>
      rcases Hc b u q with ⟨hb, _⟩ | ⟨rfl, _, _, rfl⟩
      · exact absurd hb nb
      · obtain ⟨e1, _⟩ := hok b _ q
        obtain ⟨e2, _⟩ := hok' b _ (un.frzs b o₁ _ q)
        rw [e] at e1
        cases e1
        exact e2
  have grown : ∀ p ∈ cs, ∃ more : Array Value, s'.heap.get? p.2 = some { cls := .none, data := .fields more } := by
    intro p hp
    obtain ⟨more, z⟩ := un.tbls p.2 #[] (hH p hp)
    exact ⟨_, hok' p.2 _ z⟩
  refine ⟨rfl, ⟨?_, ?_⟩, os, bare⟩
  · intro b o e
    by_cases hb : b ∈ cs.map (·.2)
    · obtain ⟨p, hp, rfl⟩ := List.mem_map.mp hb
      obtain ⟨more, hm⟩ := grown p hp
      rw [hT p hp] at e
      cases e
      exact .inr (.inl ⟨((hC p hp).tab (hT p hp)).isCodeTable, rfl, #[], more, rfl, by rw [Array.empty_append]; exact hm⟩)
    · exact .inl (old b o hb e)
  · intro b o e
    by_cases hb : b ∈ cs.map (·.2)
    · obtain ⟨p, hp, rfl⟩ := List.mem_map.mp hb
      obtain ⟨more, hm⟩ := grown p hp
      exact ⟨_, hm⟩
    · exact ⟨o, old b o hb e⟩
/-- the code object and the table of the def that x names -/
def TabOf (mg : Str → Option Value) (h : Heap) (x : Str) : Prop := ∃ (f : Addr) (o : Obj) (fd : FuncData) (c P : Addr), mg x = some (.ref f) ∧ h.get? f = some o ∧ o.data = .func fd ∧ fd.code = .ref c ∧
  PySem.W.CodeHd h c P ∧ h.get? P = some { cls := .none, data := .fields #[] }
section
variable {P : Program} {w : World} {K : PySem.W.Frag} {mg : Str → Option Value} {base : Heap}
/-- okG, the code object's address told -/
theorem okGL {x qual : Str} {st : Stmt} {f c : Addr} {fd : FuncData} {N ps : List Str} {k : Nat} {sp : Sp}
    (F : Fun K x qual st f fd) (hc : fd.code = .ref c) (S : FnScope N ps (defScope st))
    (len : ∀ vs H Q E, sp vs H Q E → vs.length = ps.length)
    (hbody : ∀ (A : Around) (outer : List Env) (s : Shared) (H : Hp) (vs : List V) (Q : VK) (E : XK),
      (A.deeper (envOfC qual (defScope st) s.heap.objs.size f (.ref c))).guards = some [] →
      Room k (A.deeper (envOfC qual (defScope st) s.heap.objs.size f (.ref c))) → sp vs H Q E →
      ∃ t, PSs (cxOf CX0 P w K mg base N qual (defScope st) f (.ref c) A outer s H E).nox (defBody st) t ∧
        t { nx := fun _ H' => Q .non H', rt := Q } (L2.start N vs) H) :
    FnG P w K mg base CX0 (k + 1) f fd ps sp := by
  obtain ⟨oc, od, kV, doc, pm, an, cdv, ct, osl, rfl, lk, hcd⟩ := F.ex
  have e : cdv = .ref c := hc
  subst e
  have F' : Fun K x qual st f (PySem.W.fnOf x qual (defArgs st) (defBody st) (defScope st) .none kV doc pm an (.ref c) ct) := ⟨⟨oc, od, kV, doc, pm, an, .ref c, ct, osl, rfl, lk, hcd⟩, F.kp⟩
  refine ⟨len, fun A hgd outer s H args us vs Q E hr e0 hb hv hsp => ?_⟩
  have kept := fun b o (z : base.get? b = some o) => (e0.bs b o z).1
  have hK : K.In s.heap := e0.mod.kin.keeps kept
  have hL : s.heap.NoLimit := e0.mod.nolimit.keeps kept
  refine codeAny_call_function hr.depth (hK _ _ lk) rfl S.co S.gen rfl (PySem.W.codeRec_of hK hcd)
    (hb _ _ _ _ ?_)
  have kinds : ∀ y ∈ ps.zip us, (defScope st).names.lookup y.1 = some .local ∨
      ((defScope st).names.lookup y.1 = some .cell ∧
        ((cellsFrom (s.heap.objs.size + 1) (defScope st).names []).lookup y.1).isSome = true) := by
    rintro ⟨n, v⟩ hy
    rcases S.par n (List.of_mem_zip hy).1 with z | z
    · exact .inl z
    · exact .inr ⟨z, PySem.W.cellsFrom_some _ _ _ (.inl z)⟩
  refine wpAny_newFunctionEnv_cells S.kind kinds ?_
  rintro env rfl s1 x
  refine ⟨hL.keeps x.toInCall.keep, codeAny_func ?_⟩
  obtain ⟨t, ht, hq⟩ := hbody A outer s H vs Q E hgd (hr.deeper _) hsp
  have I := inv_start (CX := CX0) (E := E) S hr.hd e0 (len _ _ _ _ hsp) hv x
  refine wpAny_mono (ht.nox.run [] s1 (L2.start N vs) H _ I hq) ?_ (fun e s' z => z)
  rintro (_ | _ | _ | u) s' hs
  · obtain ⟨σ', H', J, q⟩ := hs
    exact ⟨V.non, H', J.os, J.bare, J.base, J.hok, (rfl : L2.RelV V.non Value.none), q⟩
  · obtain ⟨_, _, _, q⟩ := hs
    exact False.elim q
  · obtain ⟨_, _, _, q⟩ := hs
    exact False.elim q
  · obtain ⟨v, σ', H', J, rv, q⟩ := hs
    exact ⟨v, H', J.os, J.bare, J.base, J.hok, rv, q⟩
end
/-! ### heaps with tables -/
theorem tab_gr {H H' : Hp} {d : Addr} {T : List (Addr × Str)} (t : Tabs T H) (g : Gr d H H') : Tabs T H' := by
  intro p hp
  obtain ⟨ps, h1, h2, h3⟩ := t p hp
  obtain ⟨x, y, z, hd⟩ := g.pre
  have n1 : p.1 ≠ d := fun e => by
    rw [e, hd] at h1
    cases h1
  refine ⟨ps, g.keep _ _ n1 h1, h2, fun pos cv hc => ?_⟩
  obtain ⟨c, e, hcO⟩ := h3 pos cv hc
  refine ⟨c, e, g.keep _ _ (fun e => ?_) hcO⟩
  rw [e, hd] at hcO
  unfold CodeO at hcO
  cases hcO
/-- all but dice and tables is kept; the dice are dice, the tables tables -/
structure Gt (T : List (Addr × Str)) (d : Addr) (H H' : Hp) : Prop where
  pre : Dc H d
  keep : ∀ a o, a ≠ d → (∀ ps, o ≠ .tbl ps) → H a = some o → H' a = some o
  dice : Dc H' d
  tabs : Tabs T H'
section
variable {T : List (Addr × Str)} {d : Addr} {H H1 H2 : Hp}
theorem Gt.refl (h : Dc H d) (t : Tabs T H) : Gt T d H H := ⟨h, fun _ _ _ _ h => h, h, t⟩
theorem Gt.trans (a : Gt T d H H1) (b : Gt T d H1 H2) : Gt T d H H2 := ⟨a.pre, fun x o n z h => b.keep x o n z (a.keep x o n z h), b.dice, b.tabs⟩
theorem Gt.gr (a : Gt T d H H1) (g : Gr d H1 H2) : Gt T d H H2 := ⟨a.pre, fun x o n z h => g.keep x o n (a.keep x o n z h), g.dice, tab_gr a.tabs g⟩
theorem Gt.same (a : Gt T d H H1) (s : Same H1 H2) : Gt T d H H2 := a.gr (Gr.same a.dice s)
theorem Dc.extN (h : Dc H d) (e : ExtN H H1) : Dc H1 d := by
  obtain ⟨x, y, z, q⟩ := h
  exact ⟨x, y, z, e _ _ q fun ps e => nomatch e⟩
theorem Gt.ext (a : Gt T d H H1) (e : ExtN H1 H2) (t : Tabs T H2) : Gt T d H H2 := ⟨a.pre, fun x o n z h => e _ _ (a.keep x o n z h) z, a.dice.extN e, t⟩
theorem Gt.tup (a : Gt T d H H1) {p : Addr} {xs : List V} (h : H p = some (.tup xs)) : H1 p = some (.tup xs) := a.keep _ _ (a.pre.ne_tup h) (fun ps e => nomatch e) h
theorem Gt.lst (a : Gt T d H H1) {p : Addr} {xs : List V} (ne : p ≠ d) (h : H p = some (.lst xs)) : H1 p = some (.lst xs) := a.keep _ _ ne (fun ps e => nomatch e) h
end
/-- a table that is told of, by what the text has written -/
theorem tab_at {K : PySem.W.Frag} {h : Heap} {mg : Str → Option Value} {x : Str} {f c P : Addr} {oc e : Value} {od dd : Option Addr} {fd : FuncData} {osl sl : Array (Option Value)} {vs : Array Value}
    (hK : K.In h) (hm : mg x = some (.ref f)) (l : K.lookup f = some ⟨oc, od, .func fd, osl⟩) (hc : fd.code = .ref c) (lc : K.lookup c = some ⟨e, dd, .fields vs, sl⟩) (hv : vs[11]? = some (.ref P)) (t : TabOf mg h x) :
    h.get? P = some { cls := .none, data := .fields #[] } ∧ PySem.W.CodeHd h c P := by
  obtain ⟨f', o, fd', c', P', h1, h2, h3, h4, h5, h6⟩ := t
  rw [hm] at h1
  cases h1
  rw [hK _ _ l] at h2
  cases h2
  cases h3
  rw [hc] at h4
  cases h4
  have h5' := h5
  obtain ⟨o, us, file, tf, flags, tg, inF, text, tt, e1, r1, r2, r3, rest⟩ := h5'
  rw [hK _ _ lc] at e1
  cases e1
  cases r2
  rw [hv] at r3
  cases r3
  exact ⟨h6, h5⟩
/-- an own error's class, made with a text alone -/
structure XCl (K : PySem.W.Frag) (mg : Str → Option Value) (x : Str) (C : Addr) : Prop where
  g : mg x = some (.ref C)
  ex : PySem.W.excIn K C [.type "ValueError", .type "Exception", .type "BaseException", .type "object"] "ValueError.__new__" = true
  kp : PySem.W.keepIn K (.ref C) = true
  sb : PySem.W.subIn K (.ref C) (.type "BaseException") = some true
  ty : PySem.W.typeIn K (.ref C) = some (.type "type")
  ec : ExcC K C
theorem kit_same {K : PySem.W.Frag} {C : Addr} : PySem.W.kitOne K (.ref C) (.ref C) = some true := by
  unfold PySem.W.kitOne
  rw [if_pos (beq_self_eq_true _)]
theorem kit_sub {K : PySem.W.Frag} {D C : Addr} {b : Bool} (n : (Value.ref D == Value.ref C) = false) (ht : PySem.W.typeIn K (.ref C) = some (.type "type")) (hs : PySem.W.subIn K (.ref D) (.ref C) = some b) (hc : PySem.W.isClsIn K C = true) :
    PySem.W.kitOne K (.ref D) (.ref C) = some b := by
  unfold PySem.W.kitOne
  rw [if_neg (by rw [n]; exact Bool.false_ne_true)]
  unfold PySem.W.isClsIn at hc
  unfold PySem.W.kitCls
  simp only [ht, hs, hc]
  rfl
end Lv

/-! lists and tuples of names beside dice -/
namespace Lv
open PySem PySem.Spec PyProof.Rows L2
section
variable {K : PySem.W.Frag}
/-- a list of names that is not the dice -/
structure Wd (H : Hp) (d l : Addr) (ws : List Str) : Prop where
  at_ : H l = some (.lst (ws.map V.str))
  ne : l ≠ d
  nm : ∀ w ∈ ws, isNm w = true
  lo : 1 ≤ ws.length
  hi : ws.length ≤ 100
theorem Wd.gr {H H' : Hp} {d l : Addr} {ws : List Str} (h : Wd H d l ws) (g : Gr d H H') : Wd H' d l ws := ⟨g.keep _ _ h.ne h.at_, h.ne, h.nm, h.lo, h.hi⟩
theorem pick_w {H : Hp} {d l : Addr} {ws : List Str} {Q : VK} {E : XK} (hd : Dc H d) (h : Wd H d l ws) (q : ∀ w H', isNm w = true → w ∈ ws → Gr d H H' → Q (.str w) H') : sp_law_pick K [.ref d, .ref l] H Q E := by
  refine ⟨d, _, rfl, hd, .inl ⟨l, _, rfl, h.ne, sql_of h.at_, ?_, ?_, fun y H' hy g => ?_⟩⟩
  · intro e
    rw [List.map_eq_nil_iff] at e
    have := h.lo
    rw [e] at this
    simp at this
  · rw [List.length_map]
    have := h.hi
    omega
  · obtain ⟨w, hw, rfl⟩ := List.mem_map.mp hy
    exact q w H' (h.nm w hw) hw g
end
end Lv

/-! comprehensions whose elements make lambdas; lists of texts -/
namespace Lv
open PySem PySem.Spec PyProof.Rows L2 LamX
section
variable {T : List (Addr × Str)} {d : Addr} {H H1 H2 : Hp}
theorem tabs_upd {p : Addr} {o : HO} {xs : List V} (t : Tabs T H) (h : H p = some (.lst xs)) : Tabs T (upd H p o) := by
  intro x hx
  obtain ⟨ps, h1, h2, h3⟩ := t x hx
  have n1 : x.1 ≠ p := fun e => by
    rw [e, h] at h1
    cases h1
  refine ⟨ps, by rw [upd_ne n1]; exact h1, h2, fun pos cv hc => ?_⟩
  obtain ⟨c, e, hcO⟩ := h3 pos cv hc
  refine ⟨c, e, ?_⟩
  rw [upd_ne (fun e2 => ?_)]
  · exact hcO
  · rw [e2, h] at hcO
    unfold CodeO at hcO
    cases hcO
theorem Gt.mut {p : Addr} {o : HO} {xs : List V} (g : Gt T d H H1) (h : H p = none) (ne : p ≠ d) (hl : H1 p = some (.lst xs)) : Gt T d H (upd H1 p o) := by
  refine ⟨g.pre, fun a u n z q => ?_, ?_, tabs_upd g.tabs hl⟩
  · rw [upd_ne (ne_of_none q h)]
    exact g.keep a u n z q
  · obtain ⟨x, y, z, q⟩ := g.dice
    exact ⟨x, y, z, by rw [upd_ne ne.symm]; exact q⟩
theorem Gt.kn {v : V} {t : String} (g : Gt T d H H1) (k : Kn H v t) : Kn H1 v t := by
  cases k with
  | non => exact .non
  | bl b => exact .bl b
  | int i => exact .int i
  | str z => exact .str z
  | @lst a xs h =>
    by_cases e : a = d
    · subst e
      obtain ⟨x, y, z, q⟩ := g.dice
      exact .lst q
    · exact .lst (g.lst e h)
  | tup h => exact .tup (g.tup h)
  | @dK a kvs h =>
    refine .dK (g.keep _ _ (fun e => ?_) (fun ps z => nomatch z) h)
    subst e
    obtain ⟨x, y, z, q⟩ := g.pre
    rw [q] at h
    cases h
theorem Gt.told {v : V} {xs : List V} {b : Bool} (g : Gt T d H H1) (t : Told H v xs b) : Told H1 v xs b := by
  cases t with
  | tup h k z => exact .tup (g.tup h) (fun x hx => (k x hx).imp fun _ q => g.kn q) z
  | oth k n => exact .oth (g.kn k) n
end
section
variable {J : It} {n : Nat} {G : Hp → Prop} {Y : Nat → Hp → V → Hp → Prop} {g : TG} {tt : TT} {te : TE} {vs : List Nat} {σ : L2.St} {Q : VK} {H1 : Hp}
theorem lc_gt {T : List (Addr × Str)} {d : Addr} (w : Walk J n G Y) (P : Nat → V → Prop) (hn : n ≤ sizeLine) (h0 : Dc H1 d) (hT : Tabs T H1) (hG : ∀ H, Gt T d H1 H → G H)
    (hs : ∀ i x H H', i < n → Gt T d H1 H → Y i H x H' → ∀ R : VK, (∀ y H4, P i y → Gt T d H H4 → R y H4) →
      g x (wipe σ vs) H' fun σ2 H2 => wipe σ2 vs = wipe σ vs ∧ tt σ2 H2 fun b H3 => b = true ∧ te σ2 H3 R)
    (mono : ∀ (x : V) (σ' : L2.St) (H' : Hp) (A B : L2.St → Hp → Prop), (∀ s h, A s h → B s h) → g x σ' H' A → g x σ' H' B)
    (monoT : ∀ (σ' : L2.St) (H' : Hp) (A B : Bool → Hp → Prop), (∀ b h, A b h → B b h) → tt σ' H' A → tt σ' H' B)
    (hd : ∀ H D ys, Gt T d H1 H → H1 D = none → D ≠ d → ys.length = n → (∀ i y, ys[i]? = some y → P i y) →
      H D = some (.lst ys) → Q (.ref D) H) :
    LcB J g tt te vs σ Q H1 := by
  intro D hD
  have ne := h0.ne hD
  refine lc_it w (fun i H => Gt T d H1 H ∧ ∃ ys : List V, ys.length = i ∧ (∀ j y, ys[j]? = some y → P j y) ∧ H D = some (.lst ys))
    ⟨(Gt.refl h0 hT).same (same_new hD), [], rfl, (fun j y e => by simp at e), upd_same⟩ (fun i H _ h => hG H h.1) ?_
    (fun H h => ?_)
  · rintro i x H H' hi ⟨hS, ys, hl, hp, hL⟩ hy
    have := hs i x H H' hi hS hy
      (fun y H4 => ∃ acc, H4 D = some (.lst acc) ∧ acc.length < sizeLine ∧ (Gt T d H1 (upd H4 D (.lst (acc ++ [y]))) ∧
        ∃ zs : List V, zs.length = i + 1 ∧ (∀ j z, zs[j]? = some z → P j z) ∧ upd H4 D (.lst (acc ++ [y])) D = some (.lst zs)))
      (fun y H4 hy h4 => ⟨ys, h4.lst ne hL, by omega, (hS.trans h4).mut hD ne (h4.lst ne hL), ys ++ [y], by
        rw [List.length_append, hl]
        rfl, fun j z hz => ?_, upd_same⟩)
    · refine mono _ _ _ _ _ ?_ this
      rintro s h ⟨e, h2⟩
      refine ⟨e, monoT _ _ _ _ ?_ h2⟩
      rintro b h3 ⟨rfl, h4⟩
      rw [if_pos rfl]
      exact h4
    · by_cases hj : j < ys.length
      · rw [List.getElem?_append_left hj] at hz
        exact hp j z hz
      · rw [List.getElem?_append_right (by omega)] at hz
        have e : j = i := by
          cases hq : j - ys.length with
          | zero => omega
          | succ m =>
            rw [hq] at hz
            exact nomatch hz
        subst e
        rw [hl, Nat.sub_self] at hz
        cases hz
        exact hy
  · obtain ⟨hS, ys, hl, hp, hL⟩ := h
    exact hd H D ys hS hD ne hl hp hL
end
/-- a list of texts as data -/
def dLs (ws : List Str) : PyData := .list (ws.map PyData.str)
theorem shapedL {ws : List Str} (h : ∀ w ∈ ws, Pl w) : SeqAt.shaped (dLs ws) = true := by
  have h0 := shapedS h
  unfold SeqAt.shaped at *
  simp only [dS, dLs, PyData.canLay0, PyData.depth] at *
  exact h0
theorem eqLs {K : PySem.W.Frag} {H : Hp} {a b : Addr} {xs ys : List Str} {Q : VK} (ha : SqL K H a (xs.map V.str)) (hb : SqL K H b (ys.map V.str)) (px : ∀ w ∈ xs, Pl w) (py : ∀ w ∈ ys, Pl w) (q : Q (.bl (decide (xs = ys))) H) : rEqD K (.ref a) (.ref b) H Q := by
  refine ⟨dLs xs, dLs ys, .lst ha (dpS xs), .lst hb (dpS ys), shapedL px, shapedL py, ?_⟩
  simp only [dLs, PyData.eqv, eqvS]
  exact q
/-- a text times an int -/
def rMulS : R2 := fun x y H Q => ∃ (z : Str) (n : Int), x = .str z ∧ y = .int n ∧ MulOk z n ∧ Q (.str (Txt.mul z n)) H
theorem op_mulS {X : Cx} : OpR X (binaryOp .Mult) rMulS := by
  intro pins s σ H x y v u Q I rx ry h
  obtain ⟨z, n, rfl, rfl, hz, q⟩ := h
  obtain ⟨t, rfl⟩ := rx
  obtain ⟨t', rfl⟩ := ry
  exact SB.mul hz fun t' k => ⟨.str (Txt.mul z n), H, I.tok _, ⟨_, rfl⟩, q⟩
end Lv

/-! an own error over ValueError: def __init__(self, f): super().__init__(f'..{f}..'); self.f = f -/
namespace PySem
namespace PeX
open PySem.W PySem.Calls PyProof.Rows PySem.HandSPX
/-- where the rows of __init__ stand -/
structure Ps where
  a1 : Pos
  a2 : Pos
  p0 : Pos
  p1 : Pos
  p2 : Pos
  k1 : Pos
  n1 : Pos
  v1 : Pos
  k2 : Pos
  j : Pos
  c : Pos
  x : Pos
  q1 : Pos
  q2 : Pos
  q3 : Pos
  q4 : Pos
def iA (f : Str) (p : Ps) : Arguments := { posonlyargs := [], args := [{ arg := "self", annotation := none, pos := p.a1 }, { arg := f, annotation := none, pos := p.a2 }], vararg := none, kwonlyargs := [], kw_defaults := [], kwarg := none, defaults := [] }
def iB (f a b : Str) (p : Ps) : List Stmt := [
  .Expr (.Call (.Attribute (.Call (.Name "super" p.p0) [] [] p.p1) "__init__" p.p2)
    [.JoinedStr [.Constant (.str a) 0 p.k1, .FormattedValue (.Name f p.n1) (-1) none p.v1, .Constant (.str b) 0 p.k2] p.j] [] p.c) p.x,
  .Assign [.Attribute (.Name "self" p.q1) f p.q2] (.Name f p.q3) p.q4]
def iS (f : Str) : Scope := { kind := .function, names := [(PySem.Str.ofString "self", .local), (f, .local), (PySem.Str.ofString "__class__", .free), (PySem.Str.ofString "super", .globalImplicit)], isGenerator := false, isCoroutine := false, more := [] }
/-- what the written part says of the class c at C, and of its __init__, at fI -/
structure Txt (P : Program) (K : Frag) (mg : Str → Option Value) (c q f a b : Str) (C fI : Addr) : Prop where
  gC : mg c = some (.ref C)
  cls : ∃ nm q N bs bm sn sub ab col dd k0 k1 k2 k3 k5, K.lookup C = some (excClassObj nm q C N bs bm true sn sub ab col dd k0 k1 k2 k3 k5 "ValueError.__new__") ∧ refsVE bm = true
  sa : findIn K (.ref C) "__setattr__" = some (some (.builtin "object.__setattr__"))
  ga : findIn K (.ref C) "__getattribute__" = some (some (.builtin "BaseException.__getattribute__"))
  gg : findIn K (.ref C) "__getattr__" = some none
  noN : findIn K (.ref C) f = some none
  iC : findIn K (.ref C) "__init__" = some (some (.ref fI))
  tC : typeIn K (.ref fI) = some (.type "function")
  kC : keepIn K (.ref C) = true
  exC : subIn K (.ref C) (.type "BaseException") = some true
  veC : subIn K (.ref C) (.type "ValueError") = some true
  tyC : typeIn K (.ref C) = some (.type "type")
  hdC : hasDictIn K C = true
  sup : ks_superIn K C C "__init__" = some (some (.builtin "ValueError.__init__"))
  op : nsIn K cStatics "thirdparty.any" = some none
  msub : mroIn K C (.ref C) = some true
  nsup : mg "super" = none
  top : (P.main.scope.names.lookup ("super" : Str)).isSome = false
  fn : ∃ (oc : Value) (od : Option Addr) (doc pm : Value) (an : Option Addr) (cda : Addr) (ct : Value) (osl : Array (Option Value)) (p : Ps) (cc : Addr) (cl : Value) (cld : Option Addr) (csl : Array (Option Value)) (ccl : Value) (cdd : Option Addr) (vs : Array Value) (ccs : Array (Option Value)) (file : Str) (tf : Tok),
    K.lookup fI = some ⟨oc, od, .func (ksFn "__init__" q (iA f p) (iB f a b p) (iS f) .none .none doc pm an (.ref cda) ct cc), osl⟩ ∧ codeIn K (.ref cda) q = true ∧
    K.lookup cc = some ⟨cl, cld, .cell (some (.ref C)), csl⟩ ∧ K.lookup cda = some ⟨ccl, cdd, .fields vs, ccs⟩ ∧ vs[2]? = some (.str file tf) ∧ ((P.main.file : Str) == file) = true ∧ (p.p2.endLine == p.c.line) = true
/-- a field's name is no other name of __init__ -/
structure Fld (f : Str) : Prop where
  n1 : (f == ("self" : Str)) = false
  n2 : (f == ("__class__" : Str)) = false
  n3 : (f == ("super" : Str)) = false
  n4 : (f == ("__debug__" : Str)) = false
/-- what __init__ leaves of a fresh exception at x -/
structure InitEnd (f : Str) (h h' : Heap) (x C dx t1 : Addr) (v : Value) : Prop where
  keep : ∀ b o, b ≠ x → h.get? b = some o → h'.get? b = some o
  obj : h'.get? x = some { cls := .ref C, dict := some dx, data := .fields #[.ref t1, .none, .none, .none, .bool false, .none] }
  dbig : h.objs.size ≤ dx
  dne : dx ≠ x
  ns : h'.Ns1 dx (fun y => if y = f then some v else none)
theorem kept_but {K : Frag} {h h' : Heap} {x : Addr} (X : K.In h) (hx : K.lookup x = none) (k : ∀ b o, b ≠ x → h.get? b = some o → h'.get? b = some o) : K.In h' := fun a o e =>
  k a o (fun z => by rw [z, hx] at e; cases e) (X a o e)
section
variable {prog : Program} {w : World} {A : Around} {E : Value → Shared → Prop} {R : Result → Shared → Prop} {s : Shared} {K : Frag} {mg mb : Str → Option Value} {C fI : Addr} {c q a b : Str}
theorem call_tree {o : Expr} {name : Str} {apos pos : Pos} {e : Expr} {env : Env} (hpos : (apos.endLine == pos.line) = true) (hs : starEach [e] env = [(false, eval e env)]) :
    eval (.Call (.Attribute o name apos) [e] [] pos) env = (do
      let ov ← attributeBase o name env (eval o env)
      standAt apos.atName
      let (f, first) ← holding [ov] (getMethod ov name (do return (← importBound o env).getD true))
      callWith pos f first (backTo pos (starEach [e] env)) []) := by
  have hf : methodCallForm ([e].length + ([] : List Keyword).length) (backTo pos (starEach [e] env)) (backToKw pos (keywordEach [] env)) = true := by
    rw [hs]
    rfl
  have hm : methodCallPos (methodCallForm ([e].length + ([] : List Keyword).length) (backTo pos (starEach [e] env)) (backToKw pos (keywordEach [] env))) o env apos pos = pure pos := by
    unfold methodCallPos
    rw [hpos, Bool.or_true, if_pos rfl]
  rw [hf] at hm
  rw [arm_eval_Call]
  unfold methodCall
  simp only [hf, hm, calleeOf, if_true, pure_bind]
  rfl
theorem call_wrap {u x t0 N : Addr} {nm qn : Str} {bs bm sub : List Value} {hd ab : Bool} {sn : List Str} {col : Option Bool} {dd : Option Addr} {k0 k1 k2 k3 k5 : Option Value} {rest : List Value} {Q : Value → Shared → Prop}
    (hu : s.heap.get? u = some (kxs_mw "ValueError.__init__" x)) (hC : s.heap.get? C = some (excClassObj nm qn C N bs bm hd sn sub ab col dd k0 k1 k2 k3 k5 "ValueError.__new__")) (he : s.heap.get? x = some (excObj C t0 none .none)) (hz : rest.length ≤ sizeLine)
    (fin : ∀ h', (∀ b o, b ≠ x → s.heap.get? b = some o → h'.get? b = some o) → h'.get? x = some (excObj C s.heap.objs.size none .none) → Q .none { s with heap := h' }) : wpAny (model prog w) A (call (.ref u) rest) Q E s := by
  obtain ⟨hh, g, d, tk, os⟩ := s
  have FB := F.excBase_ValueError
  have go := fun (A : Around) (P : Fin → Shared → Prop) (E : Value → Shared → Prop) (h : ∀ h', (∀ b o, b ≠ x → hh.get? b = some o → h'.get? b = some o) → h'.get? x = some (excObj C hh.objs.size none .none) → P (.done (.ret .none)) ⟨h', g, d, tk, os⟩) =>
    exc_init_tree (M := model prog w) (A := A) (E := E) (P := P) (g := g) (d := d) (t := tk) (os := os) (cls := .ref C) (t0 := t0) (dv := none) (c2 := .none) (c3 := .none) (b4 := .bool false) (rest := rest) he hz fun h' k e _ => h h' k e
  refine wpAny_call (codeAny_of_tree ?_)
  show wpAny _ _ (callAny (.ref u) _) _ _ _
  unfold callAny
  repeat (first | (with_reducible refine wpAny_load hu ?_) | (refine check_bound_init (rest := rest) FB.toExcCallFacts hC he rfl ?_) | wp_step)
  all_goals (try exact ⟨plainId_quiet FB.init.plain _, codeAny_builtin FB.initEntry (go _ _ _ fun h' k e => fin h' k e)⟩)
theorem init (T : Txt prog K mg c q "line" a b C fI) {x t0 : Addr} {v : Value} (X : K.In s.heap) (hlim : s.heap.NoLimit) (hG : s.heap.Ns mainGlobals mg) (hB : s.heap.Ns builtinsNs mb) (hsu : mb "super" = some (.type "super"))
    (hx : s.heap.get? x = some (excO C t0)) (hnx : K.lookup x = none) (hroom : A.depth < recursionLimit)
    (za : a.length ≤ 100) (zb : b.length ≤ 100)
    (hfm : ∀ (A : Around) (s : Shared) (Q : Value → Shared → Prop) (E : Value → Shared → Prop), (∀ (y : Str) (t' k : Nat), y.length ≤ 100000 → Q (.str y t') { s with toks := k }) → wpAny (model prog w) A (formatField v Str.empty) Q E s)
    (hq : ∀ h' tk dx t1, InitEnd "line" s.heap h' x C dx t1 v → R (.ok (.ret .none)) { s with heap := h', toks := tk }) :
    codeAny (model prog w) A (.call (.ref fI) ⟨[.ref x, v], []⟩) R s := by
  obtain ⟨oc, od, doc, pm, an, cda, ct, osl, p, cc, cl, cld, csl, ccl, cdd, vs, ccs, file, tf, ho, hcd, hcell, hcode, hvs, hfile, hpos⟩ := T.fn
  obtain ⟨nm, qn, N, bs, bm, sn, sub, ab, col, dd, k0, k1, k2, k3, k5, hC, hbm⟩ := T.cls
  have hcl : clsIn K C = some { name := nm, bases := bs, mro := .ref C :: bm, ns := N, qualname := qn, hasDict := true, slotNames := sn, subclasses := sub, abstract := ab, collection := col, hasDel := false } := by unfold clsIn; rw [hC] <;> rfl
  have hsup := T.sup
  unfold ks_superIn at hsup
  rw [hcl] at hsup
  obtain ⟨hp, g, dr, tk, os⟩ := s
  refine ks_codeAny_call_defAt (fd := ksFn "__init__" q (iA "line" p) (iB "line" a b p) (iS "line") .none .none doc pm an (.ref cda) ct cc) (body := iB "line" a b p) (binds := [("self", .ref x), ("line", v)]) hroom (X _ _ ho) rfl hlim (codeRec_of X hcd) rfl
    (BindsTo.of_eq (by first | rfl | with_unfolding_all rfl)) (show ∀ x ∈ (iS "line").names, x.2 ≠ .cell by decide) (fun y hy => by
      rcases List.mem_cons.mp hy with rfl | hy
      · rfl
      · rcases List.mem_cons.mp hy with rfl | hy
        · rfl
        · exact nomatch hy) (fun h₁ hns k => ?_)
  have X₁ : K.In h₁ := X.keeps k
  have hx₁ := k _ _ hx
  have hC₁ := X₁ _ _ hC
  refine ks_wpAt_execs_cons (ks_wpAt_Expr_any (ks_wpAt_MethodCall ?_ (call_tree hpos rfl)))
  refine ks_wpAt_super_base rfl rfl rfl rfl (X₁ _ _ ho) rfl rfl rfl (X₁ _ _ hcode) rfl hvs hfile T.top ?_
  refine ks_loadName_global rfl rfl (loadGlobal_builtin (hG.keeps k) T.nsup (hB.keeps k) hsu ⟨rfl, ?_⟩)
  refine wpAny_loadName_free rfl rfl rfl ⟨_, X₁ _ _ hcell, rfl⟩ ?_
  refine wpAny_loadName_local rfl rfl hns rfl ?_
  refine ks_wpAny_isType_cls hC₁ rfl ⟨rfl, ?_⟩
  refine ks_wpAny_call_super hC₁ rfl hx₁ rfl (fun c e => nomatch e) (looks_mroIn X₁ T.msub) (fun h₂ e₂ k₂ => ?_)
  have X₂ : K.In h₂ := X₁.keeps k₂
  have hx₂ := k₂ _ _ hx₁
  have I₂ : InstAt h₂ x (excO C t0) C none := ⟨hx₂, rfl, rfl, trivial⟩
  refine kxs_getMethod kxs_ValueError e₂ (looks_opaque X₂ T.op) (l₀ := .ref C :: bm) (fun A Q E s k q => wpAny_bind ((looks_clsIn X₂ hcl) A _ E s k (wpAny_pure q))) rfl X₂ hsup (I₂.type.andThen (looks_subIn X₂ T.veC)) (ks_ne X₂ I₂ hcl) rfl ?_
  have k₃ : ∀ b o, h₂.get? b = some o → (h₂.push (kxs_mw "ValueError.__init__" x)).get? b = some o := fun b o e => Heap.get?_push_of_some _ e
  have e₃ : (h₂.push (kxs_mw "ValueError.__init__" x)).get? h₂.objs.size = some (kxs_mw "ValueError.__init__" x) := Heap.get?_push_at rfl rfl
  have k₃₃ : ∀ b o, h₁.get? b = some o → (h₂.push (kxs_mw "ValueError.__init__" x)).get? b = some o := fun b o e => k₃ b o (k₂ b o e)
  have hns₃ := hns.keeps k₃₃
  refine kxs_callWith (i := "ValueError.__init__") (x := x) rfl (evalArgs_plain ?_)
  refine spliced_cons ?_
  refine wpAny_JoinedStr (pos := p.j) ?_
  refine Constant_str ⟨_, _, rfl, ?_, ?_⟩
  · show (Str.empty ++ a).length ≤ sizeLine
    rw [strLen_append]
    exact Nat.le_trans (show _ ≤ 100 by show 0 + a.length ≤ 100; omega) (by decide)
  refine wpAny_FormattedValue_plain (wpAny_Name (wpAny_loadName_local rfl rfl hns₃ rfl ?_) (by decide))
  refine hfm _ _ _ _ fun y t' k' hy => ⟨y, t', rfl, ?_, ?_⟩
  · rw [strLen_append, strLen_append]
    exact Nat.le_trans (show _ ≤ 100100 by show 0 + a.length + y.length ≤ 100100; omega) (by decide)
  refine Constant_str ⟨_, _, rfl, ?_, ?_⟩
  · rw [strLen_append, strLen_append, strLen_append]
    exact Nat.le_trans (show _ ≤ 100200 by show 0 + a.length + y.length + b.length ≤ 100200; omega) (by decide)
  refine ⟨?_, ?_⟩
  · rw [strLen_append, strLen_append, strLen_append]
    exact Nat.le_trans (show _ ≤ 100200 by show 0 + a.length + y.length + b.length ≤ 100200; omega) (by decide)
  refine spliced_nil ⟨e₃, ?_⟩
  refine call_wrap e₃ (k₃ _ _ (X₂ _ _ hC)) (k₃ _ _ hx₂) (show 1 ≤ sizeLine by decide) fun h₄ k₄ hx₄ => ?_
  have X₄ : K.In h₄ := kept_but (X₂.keeps k₃) hnx k₄
  have xL : hp.objs.size ≠ x := Nat.ne_of_gt (Heap.lt_size hx)
  have hns₄ : h₄.Ns hp.objs.size (fun x_1 => List.lookup x_1 [(("self" : Str), Value.ref x), (("line" : Str), v)].reverse) := hns₃.at fun o e => k₄ _ o xL e
  show wpAt _ _ _ (execs _ _) _ _ _
  refine ks_wpAt_execs_cons (ks_wpAt_Assign_Attr (wpAt_of_wpAny ?_))
  refine wpAny_Name (wpAny_loadName_local rfl rfl hns₄ rfl ?_) (by decide)
  refine wpAny_Name (wpAny_loadName_local rfl rfl hns₄ rfl ?_) (by decide)
  refine set_plain X₄ (ox := excObj C (h₂.push (kxs_mw "ValueError.__init__" x)).objs.size none .none) (od := none) ⟨hx₄, rfl, rfl, trivial⟩ T.sa ?_
  refine exc_osa X₄ hx₄ hcl (show refsVE (.ref C :: bm) = true from hbm) rfl T.noN (fun h₅ tk₅ dx k₅ dn dne hx₅ hn₅ => ?_)
  show wpAt _ _ _ (execs _ _) _ _ _
  refine wpAt_of_wpAny (wpAny_execs_nil (hq h₅ tk₅ dx _ ⟨fun b o hb e => k₅ b o hb (k₄ b o hb (k₃₃ b o (k b o e))), hx₅, ?_, dne, hn₅⟩))
  have z : hp.objs.size < h₄.objs.size := hns₄.lt
  exact Nat.le_of_lt (Nat.lt_of_lt_of_le z dn)
/-- a made one -/
structure OwnMade (f : Str) (h h' : Heap) (e C d : Addr) (v : Value) : Prop where
  keep : ∀ b o, h.get? b = some o → h'.get? b = some o
  new : h.objs.size ≤ e
  obj : ∃ oe vs, h'.get? e = some oe ∧ oe.cls = .ref C ∧ oe.dict = some d ∧ oe.data = .fields vs ∧ vs[1]? = some .none
  dbig : h.objs.size ≤ d
  dne : d ≠ e
  ns : h'.Ns1 d (fun y => if y = f then some v else none)
theorem made (T : Txt prog K mg c q "line" a b C fI) {v : Value} (X : K.In s.heap) (hlim : s.heap.NoLimit) (hG : s.heap.Ns mainGlobals mg) (hB : s.heap.Ns builtinsNs mb) (hsu : mb "super" = some (.type "super")) (hroom : A.depth + 1 < recursionLimit)
    (za : a.length ≤ 100) (zb : b.length ≤ 100)
    (hfm : ∀ (A : Around) (s : Shared) (Q : Value → Shared → Prop) (E : Value → Shared → Prop), (∀ (y : Str) (t' k : Nat), y.length ≤ 100000 → Q (.str y t') { s with toks := k }) → wpAny (model prog w) A (formatField v Str.empty) Q E s)
    (hq : ∀ h' tk e d, OwnMade "line" s.heap h' e C d v → R (.ok (.ret (.ref e))) { s with heap := h', toks := tk }) :
    codeAny (model prog w) A (.call (.ref C) ⟨[v], []⟩) R s := by
  obtain ⟨nm, qn, N, bs, bm, sn, sub, ab, col, dd, k0, k1, k2, k3, k5, hC, hbm⟩ := T.cls
  obtain ⟨hp, g, dr, tk, os⟩ := s
  have k : ∀ b o, hp.get? b = some o → ((hp.push (kdv_tup [v])).push (excO C hp.objs.size)).get? b = some o := fun b o e => Heap.get?_push_of_some _ (Heap.get?_push_of_some _ e)
  have hget : ((hp.push (kdv_tup [v])).push (excO C hp.objs.size)).get? (hp.objs.size + 1) = some (excO C hp.objs.size) := by heap_get
  have hnx : K.lookup (hp.objs.size + 1) = none := by
    cases e : K.lookup (hp.objs.size + 1) with
    | none => rfl
    | some o =>
      have z : hp.get? (hp.objs.size + 1) = some o := X _ _ e
      exact absurd (Nat.lt_of_succ_lt (Heap.lt_size z)) (Nat.lt_irrefl _)
  refine call_own F.excBase_ValueError (fun X => refsVE_contains X bm hbm) (X _ _ hC) (looks_findIn X T.iC) (fun self => bind_fn X self T.tC) (show 1 ≤ sizeLine by decide) ?_
  refine init (s := ⟨(hp.push (kdv_tup [v])).push (excO C hp.objs.size), g, dr, tk, os⟩) T (X.keeps k) (hlim.keeps k) (hG.keeps k) (hB.keeps k) hsu hget hnx ?_ za zb hfm fun h' tk' dx t1 M => ?_
  · show A.depth + 1 < recursionLimit
    exact hroom
  · obtain ⟨k', hx, dn, dne, hns⟩ := M
    have old : ∀ b o, hp.get? b = some o → h'.get? b = some o := fun b o e => k' b o (Nat.ne_of_lt (Nat.lt_succ_of_lt (Heap.lt_size e))) (k b o e)
    have z : hp.objs.size + 1 + 1 ≤ dx := by
      first
        | (simpa only [Heap.size_push] using dn)
        | exact dn
        | (have q := dn; rw [Heap.size_push, Heap.size_push] at q; exact q)
    exact ⟨rfl, hq h' tk' (hp.objs.size + 1) dx ⟨old, Nat.le_succ _, ⟨_, _, hx, rfl, rfl, rfl, rfl⟩, Nat.le_trans (Nat.le_trans (Nat.le_succ _) (Nat.le_succ _)) z, dne, hns⟩⟩
end
end PeX
end PySem
namespace Lv
open PySem PySem.Spec PyProof.Rows L2
theorem relO_one {f0 : Str} {v : V} {v' : Value} (r : RelV v v') (f : Str) : RelO (List.lookup f [(f0, v)]) (if f = f0 then some v' else none) := by
  by_cases hw : f = f0
  · subst hw
    rw [if_pos rfl]
    have q : List.lookup f [(f, v)] = some v := by simp [List.lookup]
    rw [q]
    exact r
  · rw [if_neg hw]
    have qw : (f == f0) = false := by simpa using hw
    have q2 : List.lookup f [(f0, v)] = none := by simp [List.lookup, qw]
    rw [q2]
    trivial
section
variable {X : Cx} {C fI : Addr} {c q a b : Str}
/-- C(None): the error keeps None -/
def tMkN (C : Addr) (ta : TA) : L2.St → Hp → XK → Prop := fun σ H Q => ta σ H fun vs H1 => vs = [.non] ∧ ∀ d, H1 d = none → Q (.ref C) (some d) (upd H1 d (.xd [(("line" : Str), .non)]))
theorem pmk_none {x : Expr} {ta : TA} {p pos : Pos} {k : Nat} (T : PySem.PeX.Txt X.prog X.K X.mg c q "line" a b C fI) (za : a.length ≤ 100) (zb : b.length ≤ 100) (hr : Room k X.A) (ha : PA X [x] ta) (hg : Gl X c) (hdb : (c == ("__debug__" : Str)) = false)
    (he : starEach (x :: []) X.env = (false, eval x X.env) :: starEach [] X.env := by rfl) (hpl : (backTo pos (starEach [] X.env)).any (·.1) = false := by rfl) :
    PMk X (.Call (.Name c p) [x] [] pos) (tMkN C ta) := by
  intro pins s σ H Q I h
  refine wpAny_Call_Name_kw (ld_glob I hg T.gC ?_ hdb)
  refine PySem.W.callWith_K (h₀ := X.base) I.ok.mod.kin T.kC (thn (ha.run pos pins s σ H _ I h) fun us s1 hh => ?_) he hpl
  obtain ⟨vs, H1, I1, r1, ev, q1⟩ := hh
  subst ev
  refine ⟨I1.kIn, ?_⟩
  cases r1 with
  | cons rv rn =>
    rename_i v' us'
    cases rn
    obtain rfl : v' = Value.none := rv
    show wpAny _ _ (call (.ref C) [Value.none]) _ _ _
    have hlim := I1.nolimit
    have hG := I1.mod.glob.keeps I1.bk
    obtain ⟨mb, hB0, hB1⟩ := I1.mod.blt
    have hB := hB0.keeps I1.bk
    have hsu : mb "super" = some (.type "super") := (hB1 _ (by decide)).trans (by decide +kernel)
    obtain ⟨hp, g, dr, tk, os⟩ := s1
    refine wpAny_call (PySem.PeX.made T I1.kIn hlim hG hB hsu (by have := hr.dp; omega) za zb (fun A s Q E h => wpAny_formatField_none (h _ _ _ (by decide))) fun h' tk' e d M => ?_)
    show MkP X pins σ Q (.ref e) ⟨h', g, dr, tk', os⟩
    obtain ⟨oe, fv, hoe, hc, hd, hdat, h1⟩ := M.obj
    have hns := M.ns
    obtain ⟨G', g1, g2⟩ := restrict h' fun b => decide (b ≠ e)
    have gk : ∀ b, b ≠ e → G'.get? b = h'.get? b := fun b hb => g1 b (decide_eq_true hb)
    have ge : G'.get? e = none := g2 e (by simp)
    have old : ∀ b o, hp.get? b = some o → G'.get? b = some o := fun b o q => (gk b (Nat.ne_of_lt (Nat.lt_of_lt_of_le (Heap.lt_size q) M.new))).trans (M.keep b o q)
    have ob : ObjOk X.prog X.w (upd H1 d (.xd [(("line" : Str), .non)])) G' d (.xd [(("line" : Str), .non)]) :=
      ⟨_, hns.at (fun o q => (gk d M.dne).trans q), fun f => relO_one (v := .non) rfl f⟩
    have J : L2.Inv X pins σ (upd H1 d (.xd [(("line" : Str), .non)])) ⟨G', g, dr, tk', os⟩ := I1.laid (t' := tk') old M.dbig ob
    refine ⟨e, oe, fv, ⟨G', g, dr, tk', os⟩, _, .ref C, some d, rfl, J, fun b o q => ?_, ge, hoe, ⟨hc, hd⟩, hdat, h1, ?_, rfl, I1.bare, raises_own T.exC T.tyC, q1 d (I1.hok.fresh M.dbig)⟩
    · by_cases hb : b = e
      · have q' : G'.get? b = some o := q
        rw [hb, ge] at q'; cases q'
      · exact (gk b hb).symm.trans q
    · rw [upd_ne (Ne.symm M.dne)]
      exact I1.hok.fresh M.new
end
end Lv

/-! try with several clauses, with `as` or without; no exception leaves -/
namespace Lv
open PySem PySem.Spec PyProof.Rows L2
/-- an exception that a try of X has caught -/
structure Got (X : Cx) (pins : List (Addr × Obj)) (σ : L2.St) (H : Hp) (a : Addr) (cls : Value) (d : Option Addr) (s : Shared) : Prop where
  ex : ∃ (B : Heap) (t : Shared), L2.Inv X pins σ H t ∧ (∀ b o, t.heap.get? b = some o → b ∉ frs X.stack → B.get? b = some o) ∧ t.heap.UpToSlots s.heap ∧
    HandSPX.FlyingZ B (X.env :: X.outer) a (Zc cls d) s.heap ∧ s.os = t.os ∧ AllBare s.gens
  na : H a = none
section
variable {X : Cx} {pins : List (Addr × Obj)} {σ : L2.St} {H : Hp} {a : Addr} {cls : Value} {d : Option Addr} {s : Shared}
theorem Got.inv (g : Got X pins σ H a cls d s) : L2.Inv X pins σ H s := by
  obtain ⟨B, t, I, nb, up, fl, os, ag⟩ := g.ex
  exact I.landed nb fl.1 up os ag
theorem Got.suite (g : Got X pins σ H a cls d s) (hf : X.env.frame = some X.env.locals) :
    ∃ oe, Zc cls d oe ∧ (∃ vs, oe.data = .fields vs) ∧ s.heap.get? a = some oe ∧ L2.Inv (X.suite a ((a, oe) :: (X.pn ++ pins))) [] σ H s := by
  obtain ⟨B, t, I, nb, up, fl, os, ag⟩ := id g.ex
  obtain ⟨oe, vs, ge, ze, de⟩ := fl.there
  have out : a ∉ (X.env :: X.outer).filterMap (·.frame) := by
    intro m
    obtain ⟨_, o2, e2, no⟩ := fl.2.2.1.mem m
    cases ge.symm.trans e2
    exact no vs de
  refine ⟨oe, ze, ⟨vs, de⟩, ge, g.inv.suite ge de g.na ?_ ?_⟩
  · rintro rfl
    exact out (List.mem_filterMap.mpr ⟨_, .head _, hf⟩)
  · intro m
    obtain ⟨e1, m1, q1⟩ := List.mem_filterMap.mp m
    exact out (List.mem_filterMap.mpr ⟨e1, .tail _ m1, q1⟩)
theorem Got.land {M : Model} {A : Around} {E : Value → Shared → Prop} {Q : Unit → Shared → Prop} (g : Got X pins σ H a cls d s) (h : ∀ s', Got X pins σ H a cls d s' → Q () s') :
    wpAny M A (setFlight (.ref a) none) Q E s := by
  obtain ⟨B, t, I, nb, up, fl, os, ag⟩ := g.ex
  exact HandSPX.lands_againZ fl fun h4 f4 u4 => h _ ⟨⟨B, t, I, nb, up.trans u4, f4, os, ag⟩, g.na⟩
theorem Got.test {x : Str} {c : Value} {b : Bool} {np pos' : Pos} {R : Except Value Flow → Shared → Prop} (g : Got X pins σ H a cls d s) (hf : X.env.frame = some X.env.locals) (hc : Names X x c)
    (hb : PySem.W.exmOne X.K cls c = some b) (h : R (.ok (if b then .brk else .next)) s) :
    codeAny (model X.prog X.w) (X.A.mark (some (.ref a))) (.handlers (.ref a) [.ExceptHandler (some (.Name x np)) none [] pos'] X.env) R s := by
  obtain ⟨oe, ze, _, ge, S⟩ := g.suite hf
  refine codeAny_handlers_test ?_
  have look : PySem.W.Looks (model X.prog X.w) s.heap (typeOf (.ref a)) cls := fun _ _ _ _ k q => wpAny_typeOf_ref (k _ _ ge) (ze.1.symm ▸ q)
  have nxt := (PySem.W.exm_one (M := model X.prog X.w) g.inv.kIn look hb).here (A := X.A.mark (some (.ref a))) (s := s) (Q := fun b s₂ => R (.ok (if b then .brk else .next)) s₂)
    (E := notedBy (model X.prog X.w) (X.A.mark (some (.ref a))) X.env fun x s₂ => R (.error x) s₂) h
  rcases hc with ⟨hg, hd, hm | ⟨hm, hv, hn⟩⟩
  · exact ld_glob S hg hm nxt hd
  · exact ld_blt S hg hm hv nxt hn hd
theorem sp_try {D : Ends} {f : Flow} {xe : Value → Shared → Prop} {pn : List (Addr × Obj)} (h : SP (X.tr (X.pn ++ pins) xe) pn D f s) (ok : X.Ok) : SP X pins D f s := by
  cases f with
  | ret u => obtain ⟨v, σ1, H1, J, r, q⟩ := h; exact ⟨v, σ1, H1, J.ofTry ok, r, q⟩
  | _ => obtain ⟨σ1, H1, J, q⟩ := h; exact ⟨σ1, H1, J.ofTry ok, q⟩
theorem sp_out {D : Ends} {f : Flow} {q0 : Addr × Obj} {pn : List (Addr × Obj)} (h : SP (X.suite a (q0 :: (X.pn ++ pins))) pn D f s) (ok : X.Ok) : SP X pins D f s := by
  cases f with
  | ret u => obtain ⟨v, σ1, H1, J, r, q⟩ := h; exact ⟨v, σ1, H1, J.unsuite ok, r, q⟩
  | _ => obtain ⟨σ1, H1, J, q⟩ := h; exact ⟨σ1, H1, J.unsuite ok, q⟩
/-- the ends of a suite whose name goes -/
def gone (i : Nat) (D : Ends) : Ends := { nx := fun σ' H' => D.nx (σ'.set i none) H', rt := D.rt, bk := fun σ' H' => D.bk (σ'.set i none) H', ct := fun σ' H' => D.ct (σ'.set i none) H' }
theorem sp_gone {D : Ends} {f : Flow} {i : Nat} {n : Str} {pos' : Pos} {E : Value → Shared → Prop} (hN : X.N.Nodup) (hi : X.N[i]? = some n) (hl : X.env.kindOf n = some .local) (h : SP X pins (gone i D) f s) :
    wpAny (model X.prog X.w) X.A (do bindName X.env n .none; unbindBehindTheSuite X.env n pos') (fun _ s7 => SP X pins D f s7) E s := by
  cases f with
  | ret u => obtain ⟨v, σ1, H1, J, r, q⟩ := h; exact gone_ok J hN hi hl fun s7 J7 => ⟨v, _, _, J7, r, q⟩
  | _ => obtain ⟨σ1, H1, J, q⟩ := h; exact gone_ok J hN hi hl fun s7 J7 => ⟨_, _, J7, q⟩
end
abbrev ClW := Ends → Addr → Value → Option Addr → L2.St → Hp → Prop
/-- a clause, with the class it names and what its suite wishes -/
inductive Clause (X : Cx) : ExceptHandler → Value → ClW → Prop
  | plain {x : Str} {c : Value} {np pos' : Pos} {b₀ : Stmt} {suite : List Stmt} {ts : Addr → Value → Option Addr → TS} (hc : Names X x c)
      (hsu : ∀ (a : Addr) (oe : Obj) (cls : Value) (d : Option Addr) (pn : List (Addr × Obj)), Zc cls d oe → (∃ vs, oe.data = .fields vs) → PSs (X.suite a ((a, oe) :: pn)) (b₀ :: suite) (ts a cls d)) :
      Clause X (.ExceptHandler (some (.Name x np)) none (b₀ :: suite) pos') c (fun D a cls d σ H => ts a cls d D σ H)
  | named {x n : Str} {i : Nat} {c : Value} {np pos' : Pos} {b₀ : Stmt} {suite : List Stmt} {ts : Addr → Value → Option Addr → TS} (hN : X.N.Nodup) (hi : X.N[i]? = some n) (hl : X.env.kindOf n = some .local) (hc : Names X x c)
      (hsu : ∀ (a : Addr) (oe : Obj) (cls : Value) (d : Option Addr) (pn : List (Addr × Obj)), Zc cls d oe → (∃ vs, oe.data = .fields vs) → PSs (X.suite a ((a, oe) :: pn)) (b₀ :: suite) (ts a cls d)) :
      Clause X (.ExceptHandler (some (.Name x np)) (some n) (b₀ :: suite) pos') c (fun D a cls d σ H => ts a cls d (gone i D) (σ.set i (some (.ref a))) H)
inductive Clauses (X : Cx) : List ExceptHandler → List (Value × ClW) → Prop
  | nil : Clauses X [] []
  | cons {h : ExceptHandler} {c : Value} {f : ClW} {hs : List ExceptHandler} {l : List (Value × ClW)} : Clause X h c f → Clauses X hs l → Clauses X (h :: hs) ((c, f) :: l)
/-- what the clauses wish of an exception -/
def wCl (K : PySem.W.Frag) (D : Ends) : List (Value × ClW) → WX
  | [] => fun _ _ _ _ => False
  | (c, f) :: r => fun cls d σ H => (PySem.W.exmOne K cls c = some true ∧ ∀ a, H a = none → f D a cls d σ H) ∨ (PySem.W.exmOne K cls c = some false ∧ wCl K D r cls d σ H)
section
variable {X : Cx} {pins : List (Addr × Obj)} {σ : L2.St} {H : Hp} {a : Addr} {cls : Value} {d : Option Addr} {s : Shared}
theorem clause_yes {hd : ExceptHandler} {c : Value} {f : ClW} {D : Ends} {rest : List ExceptHandler} (k : Clause X hd c f) (hf : X.env.frame = some X.env.locals) (g : Got X pins σ H a cls d s)
    (hb : PySem.W.exmOne X.K cls c = some true) (w : f D a cls d σ H) : wpAny (model X.prog X.w) X.A (handleBy (.ref a) X.env (hd :: rest)) (SP X pins D) X.xe s := by
  have ok := g.inv.ok
  cases k with
  | plain hc hsu =>
    refine wpAny_handleBy_cons (g.test hf hc hb ?_) (nofun)
    refine codeAny_handlers_suite (g.land fun s4 g4 => ?_)
    obtain ⟨oe, ze, fe, _, S⟩ := g4.suite hf
    exact wpAny_mono ((hsu a oe cls d _ ze fe).run [] _ _ _ D S w) (fun fl s6 q => sp_out q ok) fun _ _ z => z.elim
  | @named x n i _ np pos' b₀ suite ts hN hi hl hc hsu =>
    refine wpAny_handleBy_cons (g.test hf hc hb ?_) (nofun)
    refine codeAny_handlers_suite_as (g.land fun s4 g4 => ?_)
    obtain ⟨oe, ze, fe, _, S⟩ := g4.suite hf
    refine store_ok (X := X.suite a ((a, oe) :: (X.pn ++ pins))) (v := .ref a) S hN hi (.inl hl) rfl (fun s5 S5 => ?_) (.inr hl)
    exact wpAny_mono ((hsu a oe cls d _ ze fe).run [] _ _ _ (gone i D) S5 w) (fun fl s6 q => sp_gone hN hi hl (sp_out q ok)) fun _ _ z => z.elim
theorem clause_no {hd : ExceptHandler} {c : Value} {f : ClW} {D : Ends} {rest : List ExceptHandler} (k : Clause X hd c f) (hf : X.env.frame = some X.env.locals) (g : Got X pins σ H a cls d s)
    (hb : PySem.W.exmOne X.K cls c = some false) (w : wpAny (model X.prog X.w) X.A (handleBy (.ref a) X.env rest) (SP X pins D) X.xe s) :
    wpAny (model X.prog X.w) X.A (handleBy (.ref a) X.env (hd :: rest)) (SP X pins D) X.xe s := by
  cases k with
  | plain hc hsu => exact wpAny_handleBy_cons (g.test hf hc hb w) (nofun)
  | named hN hi hl hc hsu => exact wpAny_handleBy_cons (g.test hf hc hb w) (nofun)
theorem clauses_run {hds : List ExceptHandler} {l : List (Value × ClW)} {D : Ends} (k : Clauses X hds l) (hf : X.env.frame = some X.env.locals) (g : Got X pins σ H a cls d s) (w : wCl X.K D l cls d σ H) :
    wpAny (model X.prog X.w) X.A (handleBy (.ref a) X.env hds) (SP X pins D) X.xe s := by
  induction k with
  | nil => exact w.elim
  | cons c r ih =>
    rcases w with ⟨e, w⟩ | ⟨e, w⟩
    · exact clause_yes c hf g e (w a g.na)
    · exact clause_no c hf g e (ih w)
end
/-- what a try wishes of what flies out of its body -/
abbrev caught (X : Cx) (pins : List (Addr × Obj)) (D : Ends) (hds : List ExceptHandler) : Value → Shared → Prop := fun e => wpAny (model X.prog X.w) X.A (noteFrame e X.env)
  (fun _ => wpAny (model X.prog X.w) X.A (setFlight e none) (fun _ => wpAny (model X.prog X.w) X.A (handleBy e X.env hds) (SP X pins D) X.xe) X.xe) X.xe
/-- try: body, with clauses -/
theorem ps_try_cl {X : Cx} {body : List Stmt} {h₀ : ExceptHandler} {hds : List ExceptHandler} {l : List (Value × ClW)} {pos : Pos} {tb : WX → TS} (hs : X.stack = X.env :: X.outer) (hf : X.env.frame = some X.env.locals)
    (hb : ∀ (W : WX) (pn : List (Addr × Obj)) (xe : Value → Shared → Prop), Takes (X.tr pn xe) W → PassesOwn (model X.prog X.w) X.A X.env xe → PSs (X.tr pn xe) body (tb W))
    (k : Clauses X (h₀ :: hds) l) : PS X (.Try body (h₀ :: hds) [] [] pos) (fun D σ H => tb (wCl X.K D l) D σ H) := by
  refine ⟨fun pins s σ H D I h => wpAny_Try_except ?_⟩
  have ok := I.ok
  have run := (hb (wCl X.K D l) (X.pn ++ pins) (caught X pins D (h₀ :: hds)) (fun u s' xx => ?_) PassesOwn.looking).run [] s σ H D (I.toTry _) h
  · refine wpAny_mono run (fun f s1 q => ?_) (fun e s1 he => he)
    have q' := sp_try q ok
    cases f with
    | next => exact wpAny_execs_nil q'
    | _ => exact q'
  · obtain ⟨a, B, t, _, σ1, H1, cls, d, rfl, J, nb, up, sky, na, os, ag, w⟩ := xx
    refine Sky.land Zc.steady (ok.frames.trans (congrArg some hs)) hf (hs ▸ sky) fun h3 f3 u3 => ?_
    exact clauses_run k hf ⟨⟨B, t, J.ofTry ok, nb, up.trans u3, f3, os, ag⟩, na⟩ w
end Lv
namespace PySem.W
open PySem PySem.Spec PySem.Calls PyProof.Rows
end PySem.W
namespace Lv
open PySem PySem.Spec PyProof.Rows L2
/-- isinstance(e, c), e the caught error, c its class or one above it -/
def rIsT (K : PySem.W.Frag) (D a : Addr) : List V → Hp → VK → Prop := fun xs H Q => ∃ (c : V) (cv : Value), xs = [.ref a, c] ∧ (∀ u, RelV c u → u = cv) ∧ PySem.W.kitOne K (.ref D) cv = some true ∧ Q (.bl true) H
/-- repr(None) -/
def rRpN : List V → Hp → VK → Prop := fun xs H Q => xs = [.non] ∧ Q (.str "None") H
end Lv

/-! errors over other classes than ValueError -/
namespace PySem
namespace PeB
open PySem.W PySem.Calls PyProof.Rows PySem.HandSPX Builtin Builtin.ObjectAttr
abbrev keTail : List Value := [.type "KeyError", .type "LookupError", .type "Exception", .type "BaseException", .type "object"]
/-- what is asked of the __new__ under which such objects are made -/
structure NewF (B newId : String) : Prop where
  kind : builtinKind newId = some .builtinFn
  split : splitId newId = some (B, "__new__")
  row : Manifest.signature? newId = some ⟨.any, B, B, .cls, [⟨"args", .varPos, false⟩, ⟨"kwargs", .varKw, false⟩]⟩
  ends : newId.endsWith ".__new__" = true
  entry : entryFor table newId = some Builtin.«BaseException.__new__»
  owner : newId.dropRight 8 = B
  canon : Manifest.canonical newId = Manifest.canonical "BaseException.__new__"
  quiet : newId.startsWith "lifetime." = false
  star : (B != "*") = true
theorem NewF.of {B newId initId : String} {bm : List Value} (F : ExcBaseFacts B newId initId bm) : NewF B newId := ⟨F.newKind, F.newSplit, F.newRow, F.ends, F.entry, F.owner, F.canon, F.quiet, F.noStar⟩
/-- what is asked of the __init__ that super() finds -/
structure InitF (B initId : String) : Prop where
  kx : KxsFacts B initId
  kind : builtinKind initId = some .slot
  row : Manifest.signature? initId = some ⟨.positional, "*", B, .self, [⟨"args", .varPos, false⟩]⟩
  slot : Slot B "__init__" initId
  entry : entryFor table initId = some Builtin.«BaseException.__init__»
  star : (B != "*") = true
theorem InitF.of {B newId initId : String} {bm : List Value} (k : KxsFacts B initId) (F : ExcBaseFacts B newId initId bm) : InitF B initId := ⟨k, F.initKind, F.initRow, F.init, F.initEntry, F.noStar⟩
/-- the classes above such a class -/
structure Above (B' : String) (l : List Value) : Prop where
  has : l.contains (.type B') = true
  na : l.contains (.type "AttributeError") = false
  nn : l.contains (.type "NameError") = false
  obj : l.contains (.type "object") = true
  ne : l.isEmpty = false
  pass : ∀ self, refuseLoop self "__setattr__" l = pure ()
section
variable {prog : Program} {w : World} {A : Around} {E : Value → Shared → Prop} {R : Result → Shared → Prop} {h : Heap} {g : Array GenState} {d : Drawn} {t : Nat} {os : OsState}
variable {nm q : Str} {C N : Addr} {bs bm : List Value} {hdct : Bool} {sn : List Str} {sub : List Value} {ab : Bool} {col : Option Bool} {dd : Option Addr} {k0 k1 k2 k3 k5 : Option Value} {B newId : String}
theorem Above.of {B' : String} {bmB l : List Value} (a : Above B' bmB) (e : excTail bmB l = true) : Above B' l where
  has := (excTail_contains _ l e).trans a.has
  na := (excTail_contains _ l e).trans a.na
  nn := (excTail_contains _ l e).trans a.nn
  obj := (excTail_contains _ l e).trans a.obj
  ne := by
    cases l with
    | nil =>
      have z := a.has
      rw [← excTail_contains (bmB := bmB) B' [] e] at z
      cases z
    | cons _ _ => rfl
  pass := fun self => excTail_pass self (a.pass self) l e
abbrev tl1 (b : String) : List Value := [.type b, .type "Exception", .type "BaseException", .type "object"]
abbrev tl2 (a b : String) : List Value := [.type a, .type b, .type "Exception", .type "BaseException", .type "object"]
end
end PeB
end PySem

set_option pp.maxSteps 300
/-! an own error over some class of Python: def __init__(self, f): super().__init__(f'..{f}..'); self.f = f -/
namespace PySem
namespace PeB
open PySem.W PySem.Calls PyProof.Rows PySem.HandSPX
/-- the class above: of whose __new__ (Bn, newId), of whose __init__ (Bi, i), its own row -/
structure Bs where
  Bn : String
  newId : String
  Bi : String
  i : String
  tail : List Value
structure BsOk (p : Bs) : Prop where
  new : NewF p.Bn p.newId
  init : InitF p.Bi p.i
  ab : Above p.Bn p.tail
abbrev bVE : Bs := ⟨"ValueError", "ValueError.__new__", "ValueError", "ValueError.__init__", tl1 "ValueError"⟩
abbrev bKE : Bs := ⟨"LookupError", "LookupError.__new__", "KeyError", "KeyError.__init__", tl2 "KeyError" "LookupError"⟩
abbrev bLE : Bs := ⟨"LookupError", "LookupError.__new__", "LookupError", "LookupError.__init__", tl1 "LookupError"⟩
abbrev bIE : Bs := ⟨"IndexError", "IndexError.__new__", "IndexError", "IndexError.__init__", tl2 "IndexError" "LookupError"⟩
abbrev bOE : Bs := ⟨"OverflowError", "OverflowError.__new__", "OverflowError", "OverflowError.__init__", tl2 "OverflowError" "ArithmeticError"⟩
abbrev bAE : Bs := ⟨"ArithmeticError", "ArithmeticError.__new__", "ArithmeticError", "ArithmeticError.__init__", tl1 "ArithmeticError"⟩
abbrev bRE : Bs := ⟨"RuntimeError", "RuntimeError.__new__", "RuntimeError", "RuntimeError.__init__", tl1 "RuntimeError"⟩
/-- __init__ whose text begins with the value -/
def iB1 (f a b : Str) (p : PeX.Ps) : List Stmt := [
  .Expr (.Call (.Attribute (.Call (.Name "super" p.p0) [] [] p.p1) "__init__" p.p2) [.JoinedStr [.FormattedValue (.Name f p.n1) (-1) none p.v1, .Constant (.str b) 0 p.k2] p.j] [] p.c) p.x,
  .Assign [.Attribute (.Name "self" p.q1) f p.q2] (.Name f p.q3) p.q4]
/-- __init__ whose text ends with the value -/
def iB2 (f a b : Str) (p : PeX.Ps) : List Stmt := [
  .Expr (.Call (.Attribute (.Call (.Name "super" p.p0) [] [] p.p1) "__init__" p.p2) [.JoinedStr [.Constant (.str a) 0 p.k1, .FormattedValue (.Name f p.n1) (-1) none p.v1] p.j] [] p.c) p.x,
  .Assign [.Attribute (.Name "self" p.q1) f p.q2] (.Name f p.q3) p.q4]
/-- what the written part says of the class c at C, and of its __init__, at fI -/
structure TxB (P : Program) (K : Frag) (mg : Str → Option Value) (c q f a b : Str) (C fI : Addr) (p : Bs) (bd : Str → Str → Str → PeX.Ps → List Stmt) : Prop where
  gC : mg c = some (.ref C)
  cls : ∃ nm q N bs bm sn sub ab col dd k0 k1 k2 k3 k5, K.lookup C = some (excClassObj nm q C N bs bm true sn sub ab col dd k0 k1 k2 k3 k5 p.newId) ∧ excTail p.tail bm = true
  sa : findIn K (.ref C) "__setattr__" = some (some (.builtin "object.__setattr__"))
  ga : findIn K (.ref C) "__getattribute__" = some (some (.builtin "BaseException.__getattribute__"))
  gg : findIn K (.ref C) "__getattr__" = some none
  noN : findIn K (.ref C) f = some none
  iC : findIn K (.ref C) "__init__" = some (some (.ref fI))
  tC : typeIn K (.ref fI) = some (.type "function")
  kC : keepIn K (.ref C) = true
  exC : subIn K (.ref C) (.type "BaseException") = some true
  veC : subIn K (.ref C) (.type p.Bi) = some true
  tyC : typeIn K (.ref C) = some (.type "type")
  hdC : hasDictIn K C = true
  sup : ks_superIn K C C "__init__" = some (some (.builtin p.i))
  op : nsIn K cStatics "thirdparty.any" = some none
  msub : mroIn K C (.ref C) = some true
  nsup : mg "super" = none
  top : (P.main.scope.names.lookup ("super" : Str)).isSome = false
  fn : ∃ (oc : Value) (od : Option Addr) (doc pm : Value) (an : Option Addr) (cda : Addr) (ct : Value) (osl : Array (Option Value)) (ps : PeX.Ps) (cc : Addr) (cl : Value) (cld : Option Addr) (csl : Array (Option Value)) (ccl : Value) (cdd : Option Addr) (vs : Array Value) (ccs : Array (Option Value)) (file : Str) (tf : Tok),
    K.lookup fI = some ⟨oc, od, .func (ksFn "__init__" q (PeX.iA f ps) (bd f a b ps) (PeX.iS f) .none .none doc pm an (.ref cda) ct cc), osl⟩ ∧ codeIn K (.ref cda) q = true ∧
    K.lookup cc = some ⟨cl, cld, .cell (some (.ref C)), csl⟩ ∧ K.lookup cda = some ⟨ccl, cdd, .fields vs, ccs⟩ ∧ vs[2]? = some (.str file tf) ∧ ((P.main.file : Str) == file) = true ∧ (ps.p2.endLine == ps.c.line) = true
section
variable {prog : Program} {w : World} {A : Around} {E : Value → Shared → Prop} {R : Result → Shared → Prop} {s : Shared} {K : Frag} {mg mb : Str → Option Value} {C fI : Addr} {c q a b : Str}
/-- how the value is put into the text of the error -/
def Fmts (prog : Program) (w : World) (A : Around) (h : Heap) (v : Value) : Prop :=
  ∀ (env : Env) (s' : Shared) (Q : Value → Shared → Prop) (E : Value → Shared → Prop), (∀ b o, h.get? b = some o → s'.heap.get? b = some o) →
    (∀ (y : Str) (t' k : Nat) (h' : Heap), y.length ≤ 100000 → (∀ b o, s'.heap.get? b = some o → h'.get? b = some o) → Q (.str y t') { s' with heap := h', toks := k }) → wpAny (model prog w) (A.deeper env) (formatField v Str.empty) Q E s'
theorem Fmts.mono {prog : Program} {w : World} {A : Around} {h h' : Heap} {v : Value} (f : Fmts prog w A h v) (k : ∀ b o, h.get? b = some o → h'.get? b = some o) : Fmts prog w A h' v :=
  fun env s' Q E k' fin => f env s' Q E (fun b o e => k' b o (k b o e)) fin
/-- a class whose objects keep what they are made of, in the field f -/
structure Kp (P : Program) (w : World) (K : Frag) (mg : Str → Option Value) (c : Str) (C : Addr) (f : Str) : Prop where
  gC : mg c = some (.ref C)
  kC : keepIn K (.ref C) = true
  exC : subIn K (.ref C) (.type "BaseException") = some true
  tyC : typeIn K (.ref C) = some (.type "type")
  ga : findIn K (.ref C) "__getattribute__" = some (some (.builtin "BaseException.__getattribute__"))
  gg : findIn K (.ref C) "__getattr__" = some none
  hdC : hasDictIn K C = true
  noN : findIn K (.ref C) f = some none
  made : ∀ (A : Around) (R : Result → Shared → Prop) (s : Shared) (v : Value) (mb : Str → Option Value), K.In s.heap → s.heap.NoLimit → s.heap.Ns mainGlobals mg → s.heap.Ns builtinsNs mb → mb "super" = some (.type "super") → A.depth + 1 < recursionLimit →
    Fmts P w (A.under (.builtin "type.__call__" ⟨[.ref C, v], []⟩)) s.heap v → (∀ h' tk e d, PeX.OwnMade f s.heap h' e C d v → R (.ok (.ret (.ref e))) { s with heap := h', toks := tk }) → codeAny (model P w) A (.call (.ref C) ⟨[v], []⟩) R s
end
end PeB
end PySem

set_option pp.maxSteps 400
/-! values with their data, dicts of one int among them: repr, and in the text of an error -/
namespace Lv
open PySem PySem.Spec PyProof.Rows L2
/-- a value and its data -/
inductive Vd (K : PySem.W.Frag) (H : Hp) : V → PyData → Prop
  | flat {v : V} {d : PyData} : Dp K H v d → d.hasDict = false → Vd K H v d
  | emp {a : Addr} : H a = some (.dK []) → Vd K H (.ref a) (.dict [])
  | one {a : Addr} {k : Str} {i : Int} : H a = some (.dK [(.inr k, .int i)]) → Vd K H (.ref a) (.dict [(.str k, .int i)])
  | temp {a b : Addr} : SqT K H a [.ref b] → H b = some (.dK []) → Vd K H (.ref a) (.tuple [.dict []])
/-- data that is small enough to be shown -/
structure Sm (d : PyData) : Prop where
  sh : d.showable = true
  dp : d.depth ≤ 60
  ln : d.shown.length ≤ 90000
  tx : ∀ z, d = .str z → z.length ≤ 90000
def encK : Key → PyData
  | .inl i => .int i
  | .inr x => .str x
theorem encK_ok {P : Program} {w : World} {h : Heap} (k : Key) (key : Value) (e : (mixKind P w).is k key = true) : Reads h key (encK k) [] := by
  rcases keyIs_shape e with ⟨i, t, rfl, rfl⟩ | ⟨x, t, rfl, rfl⟩
  · exact .int i t
  · exact .str x t
section
variable {X : Cx} {pins : List (Addr × Obj)} {σ : L2.St} {H : Hp} {s : Shared}
theorem Vd.reads {v : V} {d : PyData} {u : Value} (I : L2.Inv X pins σ H s) (h : Vd X.K H v d) (r : RelV v u) : ∃ as, Reads s.heap u d as ∧ (d.hasDict = true → sysModules ∉ as) := by
  cases h with
  | flat hd hn =>
    obtain ⟨as, rd⟩ := Dp.reads I d v u hd r
    exact ⟨as, rd, PyData.noDict_hsm hn⟩
  | @emp a ha =>
    cases r
    obtain ⟨_, ns, vs, kv, hd⟩ := (show ObjOk X.prog X.w H s.heap a (.dK []) from I.hok a _ ha)
    cases kv
    refine ⟨_, PyProof.V.reads_dictOf (enc := encK) encK_ok hd .nil, fun _ m => ?_⟩
    rw [List.mem_singleton.mp m] at ns
    simp at ns
  | @one a k i ha =>
    cases r
    obtain ⟨_, ns, vs, kv, hd⟩ := (show ObjOk X.prog X.w H s.heap a (.dK _) from I.hok a _ ha)
    obtain _ | ⟨e, kv⟩ := kv
    cases kv
    rename_i q
    obtain ⟨k', v'⟩ := q
    obtain ⟨rfl, t, rfl⟩ := e
    refine ⟨_, PyProof.V.reads_dictOf (enc := encK) encK_ok hd (.cons (.int i t) .nil), fun _ m => ?_⟩
    have m' : sysModules = a := by simpa using m
    rw [m'] at ns
    simp at ns
  | @temp a b ha hb =>
    cases r
    obtain ⟨_, ns, vs, kv, hd⟩ := (show ObjOk X.prog X.w H s.heap b (.dK []) from I.hok b _ hb)
    cases kv
    obtain ⟨its, rv, ⟨o, ho, hc, n, hdt⟩, _⟩ := I.tuple ha
    obtain ⟨u, rfl, ru⟩ := rv.one
    cases ru
    have rd := PyProof.V.reads_dictOf (enc := encK) encK_ok hd .nil
    refine ⟨_, .tuple ho hc hdt (.cons rd .nil), fun _ m => ?_⟩
    have m' : sysModules = b := by simpa using m
    rw [m'] at ns
    simp at ns
/-- repr of a value by its data -/
def rRpV (K : PySem.W.Frag) : List V → Hp → VK → Prop := fun xs H Q => ∃ (v : V) (d : PyData), xs = [v] ∧ Vd K H v d ∧ Sm d ∧ Q (.str d.shown) H
end
end Lv

/-! errors as values: made, asked for their fields and their classes -/
namespace PySem.W
open PySem PySem.Spec PySem.Calls PyProof.Rows
section
variable {prog : Program} {w : World} {A : Around} {E : Value → Shared → Prop} {s : Shared} {K : Frag} {x D : Addr} {ox : Obj} {od : Option Obj}
end
end PySem.W
namespace Lv
open PySem PySem.Spec PyProof.Rows L2
/-- an error of the class C, its dict at d -/
def EvO (C d a : Addr) : HO := .ext fun h => ∃ (oe : Obj) (vs : Array Value), h.get? a = some oe ∧ Zc (.ref C) (some d) oe ∧ oe.data = .fields vs
theorem evO_ok {P : Program} {w : World} {H : Hp} {h : Heap} {a C d : Addr} {oe : Obj} {vs : Array Value} (e : h.get? a = some oe) (z : Zc (.ref C) (some d) oe) (dd : oe.data = .fields vs) : ObjOk P w H h a (EvO C d a) :=
  ⟨⟨oe, vs, e, z, dd⟩, ⟨oe, e⟩, fun _ _ ⟨o, v, q, r⟩ k => ⟨o, v, k o q, r⟩⟩
/-- an error, held: of the class C -/
def IsE (H : Hp) (a C : Addr) : Prop := H a = some (ExO (.ref C) a) ∨ ∃ (d : Addr) (fs : List (Str × V)), H a = some (EvO C d a) ∧ H d = some (.xd fs)
section
variable {X : Cx} {pins : List (Addr × Obj)} {σ : L2.St} {H : Hp} {s : Shared}
/-- isinstance(e, c) -/
def rIsV (K : PySem.W.Frag) : List V → Hp → VK → Prop := fun xs H Q => ∃ (a D : Addr) (c : V) (cv : Value) (b : Bool), xs = [.ref a, c] ∧ IsE H a D ∧ ExcC K D ∧ (∀ u, RelV c u → u = cv) ∧ PySem.W.kitOne K (.ref D) cv = some b ∧ Q (.bl b) H
/-- what is asked of a class for its objects' field f to be read -/
structure Rdb (K : PySem.W.Frag) (C : Addr) (f : Str) : Prop where
  xf : XfC K C
  no : PySem.W.findIn K (.ref C) f = some none
/-- e.f -/
def tFl (K : PySem.W.Frag) (f : Str) (te : TE) : TE := fun σ H Q => te σ H fun x H1 => ∃ (a C d : Addr) (fs : List (Str × V)) (v : V), x = .ref a ∧ Rdb K C f ∧ H1 a = some (EvO C d a) ∧ H1 d = some (.xd fs) ∧ fs.lookup f = some v ∧ Q v H1
/-- C(x), as a value -/
def tKeep (K : PySem.W.Frag) (C : Addr) (f : Str) (ta : TA) : TE := fun σ H Q => ta σ H fun vs H1 => ∃ (v : V) (d : PyData), vs = [v] ∧ Vd K H1 v d ∧ Sm d ∧ ∀ a dd, H1 a = none → H1 dd = none → a ≠ dd → Q (.ref a) (upd (upd H1 dd (.xd [(f, v)])) a (EvO C dd a))
/-- C(x), to be raised -/
def tKeepX (K : PySem.W.Frag) (C : Addr) (f : Str) (ta : TA) : L2.St → Hp → XK → Prop := fun σ H Q => ta σ H fun vs H1 => ∃ (v : V) (d : PyData), vs = [v] ∧ Vd K H1 v d ∧ Sm d ∧ ∀ dd, H1 dd = none → Q (.ref C) (some dd) (upd H1 dd (.xd [(f, v)]))
section
variable {c f : Str} {C : Addr} {x : Expr} {ta : TA} {p pos : Pos} {k : Nat}
end
end
end Lv

/-! a caught error handed on as a value; clauses with one class or two -/
namespace Lv
open PySem PySem.Spec PyProof.Rows L2
/-- a def's promise wherever it is called, also while an error is handled -/
structure FnC (P : Program) (w : World) (K : PySem.W.Frag) (mg : Str → Option Value) (base : Heap) (CX : CXT) (k : Nat) (f : Addr) (fd : FuncData) (ps : List Str) (sp : Sp) : Prop where
  len : ∀ vs H Q E, sp vs H Q E → vs.length = ps.length
  run : ∀ (A : Around) (outer : List Env) (s : Shared) (H : Hp) (args : Args) (us : List Value) (vs : List V) (Q : VK) (E : XK), L2H.RoomH k A → Env0 P w K mg base A outer s H →
    BindsTo s fd args (ps.zip us) → Vals vs us → sp vs H Q E → codeAny (model P w) A (.call (.ref f) args) (CR CX outer P w H s Q E) s
section
variable {P : Program} {w : World} {K : PySem.W.Frag} {mg : Str → Option Value} {base : Heap} {CX : CXT}
end
section
variable {X : Cx} {CX : CXT} {k : Nat} {f : Addr} {fd : FuncData} {ps : List Str} {sp : Sp} {dvs : List V} {ds : List Value} {E : XK} {x : Str} {p pos : Pos} {e : Expr} {es : List Expr} {t : TA}
end
section
variable {X : Cx} {pins : List (Addr × Obj)} {σ : L2.St} {H : Hp} {a C d : Addr} {s : Shared}
/-- the error that was caught, as a value of the suite -/
theorem Got.held (g : Got X pins σ H a (.ref C) (some d) s) (hs : X.stack = X.env :: X.outer) (hf : X.env.frame = some X.env.locals) (hx : X.ex = []) : L2.Inv (X.suite a (X.pn ++ pins)) [] σ (upd H a (EvO C d a)) s := by
  obtain ⟨B, t, J, nb, up, fl, os, ag⟩ := id g.ex
  obtain ⟨oe, vs, ge, ze, de⟩ := fl.there
  have out : a ∉ (X.env :: X.outer).filterMap (·.frame) := by
    intro m
    obtain ⟨_, o2, e2, no⟩ := fl.2.2.1.mem m
    cases ge.symm.trans e2
    exact no vs de
  have nt : t.heap.get? a = none := by
    cases e : t.heap.get? a with
    | none => rfl
    | some o =>
      have z := nb a o e (by rw [hs]; exact out)
      rw [fl.2.1] at z
      cases z
  have I := g.inv
  have na := g.na
  have n0 : X.s_0.heap.get? a = none := by
    cases e : X.s_0.heap.get? a with
    | none => rfl
    | some o =>
      obtain ⟨o', z⟩ := J.base.there a o e (by rw [hx]; exact List.not_mem_nil)
      rw [nt] at z
      cases z
  have ne0 : ∀ b o, X.s_0.heap.get? b = some o → b ≠ a := by
    rintro b o e rfl
    rw [n0] at e
    cases e
  have neH : ∀ {b : Addr} {o : HO}, H b = some o → b ≠ a := fun e => ne_of_none e na
  refine ⟨I.ok.suite _ _, I.os, I.bare, ⟨I.base.keep, I.base.slot, fun b o e n hb => ?_, I.base.there, fun b xs e => ?_, fun b o u e => ?_, fun b ps e => ?_⟩, I.loc, I.cell, ?_, fun y c e => ?_, fun p hp => ?_, fun b u e => ?_, I.len⟩
  · rw [upd_ne (ne0 b o e)]
    exact I.base.free b o e n hb
  · have q := I.base.tups b xs e
    rw [upd_ne (neH q)]
    exact q
  · have q := I.base.frzs b o u e
    rw [upd_ne (neH q)]
    exact q
  · obtain ⟨m, q⟩ := I.base.tbls b ps e
    exact ⟨m, by rw [upd_ne (neH q)]; exact q⟩
  · rw [upd_ne]
    · exact I.free
    · intro z
      exact out (List.mem_filterMap.mpr ⟨X.env, .head _, by rw [hf]; exact congrArg some z⟩)
  · rw [upd_ne]
    · exact I.freeC y c e
    · rintro rfl
      obtain ⟨v, o, ho, hd⟩ := I.cell y c e
      rw [ge] at ho
      cases ho
      rw [de] at hd
      cases hd
  · have hp' : p ∈ X.pn ++ pins := by rw [List.append_nil] at hp; exact hp
    obtain ⟨e1, e2, e3, e4, e5⟩ := I.pin p hp'
    refine ⟨e1, ?_, e3, e4, e5⟩
    rw [upd_ne]
    · exact e2
    · intro z
      have q := (J.pin p hp').1
      rw [z, nt] at q
      cases q
  · by_cases hb : b = a
    · subst hb
      rw [upd_same] at e
      cases e
      exact evO_ok ge ze de
    · rw [upd_ne hb] at e
      exact (I.hok b u e).stay (fun c v _ q => q) (fun c q => by rw [upd_ne (neH q)]; exact q) fun c xs q => by rw [upd_ne (neH q)]; exact q
theorem Got.more {cls : Value} {d : Option Addr} {s' : Shared} (g : Got X pins σ H a cls d s) (k : ∀ b o, s.heap.get? b = some o → s'.heap.get? b = some o) (os : s'.os = s.os) (ag : AllBare s'.gens) : Got X pins σ H a cls d s' := by
  obtain ⟨B, t, J, nb, up, fl, os0, ag0⟩ := g.ex
  refine ⟨⟨B, t, J, nb, fun b o e hd => ?_, ⟨fun b o e => k _ _ (fl.1 b o e), fl.2.1, fl.2.2.1.of_keeps fun b o e _ => ⟨o, k _ _ e, rfl⟩, ?_⟩, os.trans os0, ag⟩, g.na⟩
  · obtain ⟨sl, q⟩ := up b o e hd
    exact ⟨sl, k _ _ q⟩
  · obtain ⟨oe, vs, T, oT, ts, e1, e2, e3, e4, e5, e6, e7, e8⟩ := fl.2.2.2
    exact ⟨oe, vs, T, oT, ts, k _ _ e1, e2, e3, e4, e5, e6, k _ _ e7, e8⟩
end
section
variable {X : Cx} {pins : List (Addr × Obj)} {σ : L2.St} {H : Hp} {a : Addr} {cls : Value} {d : Option Addr} {s : Shared}
theorem Got.name {x : Str} {c : Value} {np : Pos} {Q : Value → Shared → Prop} {E : Value → Shared → Prop} (g : Got X pins σ H a cls d s) (hf : X.env.frame = some X.env.locals) (hc : Names X x c) (h : Q c s) :
    wpAny (model X.prog X.w) (X.A.mark (some (.ref a))) (eval (.Name x np) X.env) Q E s := by
  obtain ⟨oe, ze, _, ge, S⟩ := g.suite hf
  rcases hc with ⟨hg, hd, hm | ⟨hm, hv, hn⟩⟩
  · exact ld_glob S hg hm h hd
  · exact ld_blt S hg hm hv h hn hd
end
abbrev ClE := Ends → Addr → Addr → Addr → L2.St → Hp → Prop
/-- a clause 'except c as n' or 'except (c1, c2) as n', the error a value of its suite -/
inductive ClauseE (X : Cx) : ExceptHandler → List Value → ClE → Prop
  | one {x n : Str} {i : Nat} {c : Value} {np pos' : Pos} {b₀ : Stmt} {suite : List Stmt} {ts : Addr → TS} (hN : X.N.Nodup) (hi : X.N[i]? = some n) (hl : X.env.kindOf n = some .local) (hc : Names X x c)
      (hsu : ∀ (a : Addr) (pn : List (Addr × Obj)), PSs (X.suite a pn) (b₀ :: suite) (ts a)) :
      ClauseE X (.ExceptHandler (some (.Name x np)) (some n) (b₀ :: suite) pos') [c] (fun D a C d σ H => ts a (gone i D) (σ.set i (some (.ref a))) (upd H a (EvO C d a)))
  | two {x1 x2 n : Str} {i : Nat} {c1 c2 : Value} {p1 p2 tp pos' : Pos} {tk} {b₀ : Stmt} {suite : List Stmt} {ts : Addr → TS} (hN : X.N.Nodup) (hi : X.N[i]? = some n) (hl : X.env.kindOf n = some .local) (h1 : Names X x1 c1) (h2 : Names X x2 c2)
      (hsu : ∀ (a : Addr) (pn : List (Addr × Obj)), PSs (X.suite a pn) (b₀ :: suite) (ts a)) :
      ClauseE X (.ExceptHandler (some (.Tuple [.Name x1 p1, .Name x2 p2] tk tp)) (some n) (b₀ :: suite) pos') [c1, c2] (fun D a C d σ H => ts a (gone i D) (σ.set i (some (.ref a))) (upd H a (EvO C d a)))
inductive ClausesE (X : Cx) : List ExceptHandler → List (List Value × ClE) → Prop
  | nil : ClausesE X [] []
  | cons {h : ExceptHandler} {cs : List Value} {f : ClE} {hs : List ExceptHandler} {l : List (List Value × ClE)} : ClauseE X h cs f → ClausesE X hs l → ClausesE X (h :: hs) ((cs, f) :: l)
/-- what the clauses wish of an error -/
def wClE (K : PySem.W.Frag) (D : Ends) : List (List Value × ClE) → WX
  | [] => fun _ _ _ _ => False
  | (cs, f) :: r => fun cls d σ H => (PySem.W.exmAny K cls cs = some true ∧ ∃ C dd, cls = .ref C ∧ d = some dd ∧ ∀ a, H a = none → f D a C dd σ H) ∨ (PySem.W.exmAny K cls cs = some false ∧ wClE K D r cls d σ H)
section
variable {X : Cx} {pins : List (Addr × Obj)} {σ : L2.St} {H : Hp} {a : Addr} {s : Shared}
end
end Lv

/-! two lists of the same flat items -/
namespace Lv
open PySem PySem.Spec PyProof.Rows L2
/-- x != y, two lists with the same flat items -/
def rNeS (K : PySem.W.Frag) : R2 := fun x y H Q => ∃ (a b : Addr) (xs : List V), x = .ref a ∧ y = .ref b ∧ SqL K H a xs ∧ SqL K H b xs ∧ xs.all flatB = true ∧ Q (.bl false) H
end Lv

set_option pp.maxSteps 600
/-! match of a tuple, by cases [a, b, ..] with a guard -/
namespace Lv
open PySem PySem.Spec PyProof.Rows L2
/-- patterns that are names alone -/
inductive Caps : List Pattern → List Str → Prop
  | nil : Caps [] []
  | cons {n : Str} {pos : Pos} {ps : List Pattern} {ns : List Str} : Caps ps ns → Caps (.MatchAs none (some n) pos :: ps) (n :: ns)
theorem Caps.len {ps : List Pattern} {ns : List Str} (c : Caps ps ns) : ps.length = ns.length := by
  induction c with
  | nil => rfl
  | cons _ ih => simp [ih]
theorem caps_run {M : Model} {A : Around} {E : Value → Shared → Prop} {s : Shared} {env : Env} {ps : List Pattern} {ns : List Str} (c : Caps ps ns) :
    ∀ {us : List Value} {Q : Option (List (Str × Value)) → Shared → Prop}, us.length = ns.length → Q (some (ns.zip us)) s → wpAny M A (matchEach ps env us) Q E s := by
  induction c with
  | nil =>
    intro us Q hl h
    cases us with
    | nil => exact wpAny_matchEach_nil h
    | cons _ _ => exact nomatch hl
  | @cons n pos ps ns _ ih =>
    intro us Q hl h
    cases us with
    | nil => exact nomatch hl
    | cons u us => exact wpAny_matchEach_cons (wpAny_matchPattern_Capture (ih (Nat.succ.inj hl) h))
/-- the slots of some names set -/
def setAll : List Nat → List V → L2.St → L2.St
  | i :: is, v :: vs, σ => setAll is vs (σ.set i (some v))
  | _, _, σ => σ
/-- the slots of names -/
inductive Slts (X : Cx) : List Str → List Nat → Prop
  | nil : Slts X [] []
  | cons {n : Str} {i : Nat} {ns : List Str} {is : List Nat} (hi : X.N[i]? = some n) (hl : X.env.kindOf n = some .local) (r : Slts X ns is) : Slts X (n :: ns) (i :: is)
section
variable {X : Cx} {pins : List (Addr × Obj)} {H : Hp}
theorem bind_run {ns : List Str} {is : List Nat} (c : Slts X ns is) (hN : X.N.Nodup) : ∀ {vs : List V} {us : List Value} {σ : L2.St} {s : Shared} {Q : Unit → Shared → Prop} {E : Value → Shared → Prop}, us.length = ns.length → Vals vs us → L2.Inv X pins σ H s →
    (∀ s', L2.Inv X pins (setAll is vs σ) H s' → Q () s') → wpAny (model X.prog X.w) X.A (assignInOrder ((ns.zip us).map fun (n, _) => bindName X.env n) ((ns.zip us).map (·.2))) Q E s := by
  induction c with
  | nil =>
    intro vs us σ s Q E hl r I h
    refine wpAny_assignInOrder_none (h s ?_)
    cases us with
    | nil => cases r; exact I
    | cons _ _ => exact nomatch hl
  | @cons n i ns is hi hk _ ih =>
    intro vs us σ s Q E hl r I h
    cases r with
    | nil => exact nomatch hl
    | cons r1 r2 =>
      refine wpAny_assignInOrder_more (wpAny_bindName (store_ok I hN hi (.inl hk) r1 (fun s1 I1 => ?_) (.inr hk)))
      exact ih (Nat.succ.inj hl) r2 I1 h
abbrev TCs := List V → Addr → TS
/-- what the cases wish, the subject a tuple -/
structure PCs (X : Cx) (cs : List MatchCase) (t : TCs) : Prop where
  run : ∀ (pins : List (Addr × Obj)) (s : Shared) (σ : L2.St) (H : Hp) (D : Ends) (a : Addr) (xs : List V) (first : Bool), L2.Inv X pins σ H s → SqT X.K H a xs → t xs a D σ H → wpAny (model X.prog X.w) X.A (matchCases cs X.env (.ref a) first) (SP X pins D) X.xe s
def tCsNil : TCs := fun _ _ D σ H => D.nx σ H
/-- case [..] if g: body -/
def tCsCons (K : PySem.W.Frag) (is : List Nat) (tg : TT) (tb : TS) (tr : TCs) : TCs := fun xs a D σ H =>
  if xs.length = is.length then tg (setAll is xs σ) H fun b H1 => if b = true then tb D (setAll is xs σ) H1 else SqT K H1 a xs ∧ tr xs a D (setAll is xs σ) H1 else tr xs a D σ H
theorem pcs_nil : PCs X [] tCsNil := ⟨fun pins s σ H D a xs first I ht h => wpAny_matchCases_nil ⟨σ, H, I, h⟩⟩
theorem pcs_cons {ps : List Pattern} {pos : Pos} {g : Expr} {body : List Stmt} {rest : List MatchCase} {ns : List Str} {is : List Nat} {tg : TT} {tb : TS} {tr : TCs} (hc : X.calm = true) (hN : X.N.Nodup) (c : Caps ps ns) (sl : Slts X ns is) (hg : PT X g tg) (hb : PSs X body tb) (hr : PCs X rest tr)
    (hstar : ps.findIdx? (·.isStar) = none := by rfl) (hwild : (ps.all fun p => p.isWildcard || (p.isStar && p.names.isEmpty)) = false := by rfl) :
    PCs X (⟨.MatchSequence ps pos, some g, body⟩ :: rest) (tCsCons X.K is tg tb tr) := by
  refine ⟨fun pins s σ H D a xs first I ht h => wpAny_matchCases_cons (wpAny_matchPattern_Sequence ?_ hstar hwild)⟩
  obtain ⟨its, rv, hp, hz⟩ := I.tuple ht
  have li : ns.length = is.length := by
    clear h c hg hb hr
    induction sl with
    | nil => rfl
    | cons _ _ _ ih => simp [ih]
  have lx : xs.length = its.length := rv.length
  have fit : (its.toArray.size : Int) < 2 ^ 63 := by
    rw [List.size_toArray]
    have : sizeLine ≤ 2 ^ 40 := by decide
    omega
  rw [collectionFlag_split]
  refine wpAny_bind (wpAny_typeOf hp.typeIs ?_)
  rw [flag_seq_tuple]
  refine wpAny_pure ?_
  rw [if_pos rfl]
  refine pyLen_tuple hp fit ?_
  have I2 : L2.Inv X pins σ H { s with toks := s.toks + 1 + 1 } := I.kept fun _ _ e => e
  unfold tCsCons at h
  by_cases hn : xs.length = is.length
  · rw [if_pos hn] at h
    have e : its.toArray.size = ps.length := by rw [List.size_toArray, c.len, li, ← hn, lx]
    rw [if_neg (by rw [e]; simp), ← e]
    refine unpackItems_tuple (I.ok.hd hc) hp fun h' hx => ?_
    have I3 : L2.Inv X pins σ H { s with heap := h', toks := s.toks + 1 + 1 } := I2.kept (t' := s.toks + 1 + 1) fun b o e => hx b o (Nat.ne_of_lt (Heap.lt_size e)) e
    refine caps_run c (by rw [li, ← hn, lx]) ?_
    refine bind_run sl hN (by rw [li, ← hn, lx]) rv I3 fun s4 I4 => ?_
    refine thn (hg.run pins s4 _ H _ I4 h) fun b s5 hh => ?_
    obtain ⟨H5, I5, q⟩ := hh
    cases b with
    | true => exact hb.run pins s5 _ H5 D I5 q
    | false => exact hr.run pins s5 _ H5 D a xs false I5 q.1 q.2
  · rw [if_neg hn] at h
    have e : ((its.toArray.size : Int) != (ps.length : Int)) = true := by
      rw [List.size_toArray, c.len, li, ← lx]
      simpa using fun z => hn (by omega)
    rw [if_pos e]
    exact hr.run pins _ σ H D a xs false I2 ht h
/-- match subject: .. -/
def tMatch (K : PySem.W.Frag) (te : TE) (t : TCs) : TS := fun D σ H => te σ H fun x H1 => ∃ (a : Addr) (xs : List V), x = .ref a ∧ SqT K H1 a xs ∧ t xs a D σ H1
theorem ps_match {e : Expr} {cs : List MatchCase} {pos : Pos} {te : TE} {t : TCs} (he : PE X e te) (hc : PCs X cs t) : PS X (.Match e cs pos) (tMatch X.K te t) := by
  refine ⟨fun pins s σ H D I h => wpAny_Match (thn (he.run pins s σ H _ I h) ?_)⟩
  rintro u s1 ⟨x, H1, I1, r, a, xs, rfl, ht, q⟩
  cases (show u = Value.ref a from r)
  exact hc.run pins s1 σ H1 D a xs true I1 ht q
end
end Lv
namespace Lv
open PySem PySem.Spec PyProof.Rows L2 PySem.W
section
variable {prog : Program} {w : World} {A : Around} {E : Value → Shared → Prop} {s : Shared}
/-- a, b, *c = a tuple -/
theorem star_tup {l : Addr} {items : Array Value} {i : Nat} {Q : List Value → Shared → Prop} (ht : IsTup s.heap l items) (hh : A.handled = none) (hi : i ≤ items.size) (hz : items.size ≤ 16384)
    (fin : ∀ (h' : Heap) (tk : Nat), (∀ b o, s.heap.get? b = some o → h'.get? b = some o) → Q (items.toList.take i ++ [.ref h'.objs.size]) { s with heap := h'.push { cls := .type "list", data := .seq (items.toList.drop i).toArray }, toks := tk }) :
    wpAny (model prog w) A (unpackItems (.ref l) (i + 1) (some i)) Q E s := by
  obtain ⟨ol, gl, _⟩ := id ht
  have far : l ≠ s.heap.objs.size := Nat.ne_of_lt (Heap.lt_size gl)
  have lf : (items.toList.take i).length = i := by rw [List.length_take, Array.length_toList]; omega
  have lr : (items.toList.drop i).length = items.size - i := by rw [List.length_drop, Array.length_toList]
  unfold unpackItems notIterableAtAll
  refine wpAny_bind (wpAny_bind (wpAny_specialOf ht.typeIs slot_tuple_iter.lookup (wpAny_pure ?_)))
  rw [if_neg (by simp)]
  refine wpAny_bind (wpAny_holding (iter_tuple ht (wpAny_bind (wpAny_holding (draw_tuple far i 0 _ _ ⟨_, Heap.get?_push_size _ rfl, rfl, rfl⟩ (ht.push _) (by omega) fun h1 it1 e1 => ?_)))))
  have t1 : IsTup h1 l items := (ht.push _).extBut e1.extBut far
  obtain ⟨oi, gi, _⟩ := id it1
  obtain ⟨o1, g1, _⟩ := id t1
  rw [Nat.zero_add] at it1
  rw [List.drop_zero, if_neg (by rw [lf]; omega)]
  refine wpAny_bind (wpAny_holding (kun_collect (s := { s with heap := h1 }) (T := "tuple_iterator") (.inr (.inr (.inr rfl))) (Walks.tuple (A := A.in1) hh s.heap.objs.size l far items) (fun j u st => st.1.typeIs) (k := i) hi ⟨it1, t1⟩ (Heap.lt_size gi) (Heap.lt_size g1) (fun h2 tk k2 => ?_) (Nat.le_trans hz (by decide))))
  have z : i + 1 - 1 - i = 0 := by omega
  have kk : ∀ b o, s.heap.get? b = some o → h2.get? b = some o := fun b o e => k2 b o (Nat.ne_of_lt (Heap.lt_size e)) (e1.extBut b o (Nat.ne_of_lt (Heap.lt_size e)) (Heap.get?_push_of_some _ e))
  simp only [z, Nat.not_lt_zero, if_false, Nat.sub_zero, List.take_length, List.drop_length, List.append_nil]
  refine wpAny_bind (wpAny_newList (wpAny_pure ?_) (by rw [lr]; exact Nat.le_trans (show _ ≤ 16384 by omega) (by decide)))
  exact fin h2 tk kk
end
section
variable {X : Cx}
/-- the targets a, .., *c of a tuple -/
def gStar (K : PySem.W.Frag) (i : Nat) (t : TGs) : TG := fun v σ H Q => ∃ (a : Addr) (xs : List V), v = .ref a ∧ SqT K H a xs ∧ i ≤ xs.length ∧ xs.length ≤ 16384 ∧ ∀ p, H p = none → t (xs.take i ++ [.ref p]) σ (upd H p (.lst (xs.drop i))) Q
theorem pg_star {es es' : List Expr} {k : Nat} {pos : Pos} {t : TGs} {i : Nat} (hc : X.calm = true) (h : PGs X es' t) (he : (assignEach es X.env).map (·.2) = (assignEach es' X.env).map (·.2) := by rfl)
    (hn : (assignEach es X.env).length = i + 1 := by rfl) (hst : (assignEach es X.env).findIdx? (·.1) = some i := by rfl) : PG X (.Tuple es k pos) (gStar X.K i t) := by
  refine ⟨fun pins s σ H v u Q I r hw => ?_⟩
  obtain ⟨a, xs, rfl, hq, hl, hz, hw⟩ := hw
  cases r
  obtain ⟨its, rv, ht, _⟩ := I.tuple hq
  have lx : xs.length = its.length := rv.length
  rw [arm_assign_Tuple]
  refine wpAny_bind (wpAny_standAt ?_)
  unfold unpack
  rw [hn, hst]
  refine wpAny_bind (wpAny_holding (star_tup ht (I.ok.hd hc) (by rw [List.size_toArray]; omega) (by rw [List.size_toArray]; omega) fun h' tk kk => ?_))
  have I1 : L2.Inv X pins σ H { s with heap := h', toks := tk } := I.kept (t' := tk) kk
  have hf : H h'.objs.size = none := I1.hok.fresh (Nat.le_refl _)
  have I2 := I1.laid (a := h'.objs.size) (o := .lst (xs.drop i)) (t' := tk) (h' := h'.push { cls := .type "list", data := .seq (its.drop i).toArray }) (fun b o e => Heap.get?_push_of_some _ e) (Nat.le_refl _)
    ⟨Nat.le_trans (show _ ≤ 16384 by rw [List.length_drop]; omega) (by decide), its.drop i, _, rv.drop i, Heap.get?_push_size _ rfl⟩
  rw [he]
  exact h.run pins _ σ _ _ _ Q I2 ((rv.take i).append (.cons (show RelV (.ref h'.objs.size) (.ref h'.objs.size) from rfl) .nil)) (hw _ hf)
end
end Lv

/-! instances with defs of their own: str, len, ==, !=; a class in a local name -/
namespace Lv
open PySem PySem.Spec PyProof.Rows L2
section
variable {X : Cx} {CX : CXT} {n k i : Nat} {C g : Addr} {sp : Sp} {E : XK}
/-- str(x) -/
def rStrI (C : Addr) (sp : Sp) (E : XK) : List V → Hp → VK → Prop := fun xs H Q => ∃ a dx fs, xs = [V.ref a] ∧ H a = some (.ins C dx fs) ∧ sp [.ref a] H (fun z H' => ∃ t, z = .str t ∧ Q z H') E
/-- len(x) -/
def rLenI (C : Addr) (sp : Sp) (E : XK) : List V → Hp → VK → Prop := fun xs H Q => ∃ a dx fs, xs = [V.ref a] ∧ H a = some (.ins C dx fs) ∧ sp [.ref a] H (fun z H' => ∃ m : Nat, z = .int m ∧ m ≤ 1000000 ∧ Q z H') E
/-- x == y, the def's own answer -/
def rEqI (K : PySem.W.Frag) (C : Addr) (sp : Sp) (E : XK) : R2 := fun x y H Q => ∃ a dx fs t, x = .ref a ∧ H a = some (.ins C dx fs) ∧ TyX K H y t ∧ PySem.W.notFirst K C t = true ∧ sp [x, y] H Q E
/-- x != y: the answer of == turned round -/
def rNeI (K : PySem.W.Frag) (C : Addr) (sp : Sp) (E : XK) : R2 := fun x y H Q => ∃ a dx fs t, x = .ref a ∧ H a = some (.ins C dx fs) ∧ TyX K H y t ∧ PySem.W.notFirst K C t = true ∧ sp [x, y] H (fun z H' => ∃ b, z = .bl b ∧ Q (.bl (!b)) H') E
/-- C(..), C in the i-th slot -/
def tMakeL (i : Nat) (C : Addr) (sp : Sp) (dvs : List V) (E : XK) (t : TA) : TE := fun σ H Q => σ[i]? = some (some (.ref C)) ∧ tMake C sp dvs E t σ H Q
theorem pe_makeL {f : Addr} {fd : FuncData} {ps : List Str} {dvs : List V} {ds : List Value} {x : Str} {p pos : Pos} {e : Expr} {es : List Expr} {t : TA} (M : Mk X.K C f) (F : FnOk X.prog X.w X.K X.mg X.base CX k f fd ps sp) (hr : Room (k + 1) X.A)
    (hN : X.N[i]? = some x) (hv : Vis X.env.scope x) (hb : Binds X.K fd ps ds) (hd : Vals dvs ds) (hx : Passes CX X E) (ha : PA X (e :: es) t) (hdb : (x == ("__debug__" : Str)) = false := by decide) (hcd : (x == ("__classdict__" : Str)) = false := by decide)
    (he : starEach (e :: es) X.env = (false, eval e X.env) :: starEach es X.env := by rfl) (hpl : (backTo pos (starEach es X.env)).any (·.1) = false := by rfl) : PE X (.Call (.Name x p) (e :: es) [] pos) (tMakeL i C sp dvs E t) := by
  refine ⟨fun pins s σ H Q I h => ?_⟩
  obtain ⟨hs, ht⟩ := h
  refine wpAny_Call_Name_kw (thn ((pe_var (pos := p) hN hv hdb hcd).run pins s σ H (fun v H1 => v = .ref C ∧ H1 = H) I ⟨.ref C, hs, rfl, rfl⟩) fun u s1 ⟨v, H1, I1, r1, e1, e2⟩ => ?_)
  subst e1 e2
  cases r1
  exact PySem.W.callWith_K (h₀ := X.base) I.ok.mod.kin M.kp (thn (ha.run pos pins s1 σ _ _ I1 ht) fun us s2 ⟨vs, H2, I2, r, q⟩ => ⟨I2.kIn, run_make M F hr hb hd hx I2 r q⟩) he hpl
/-- x == (), x a tuple of any values -/
def rEqE (K : PySem.W.Frag) : R2 := fun x y H Q => ∃ (a b : Addr) (xs : List V), x = .ref a ∧ y = .ref b ∧ SqT K H a xs ∧ SqT K H b [] ∧ Q (.bl xs.isEmpty) H
theorem op_eqE (hu : X.A.units + 64 < cLine) : OpR X (compareOp .Eq) (rEqE X.K) := by
  intro pins s σ H x y v u Q I rx ry h
  obtain ⟨a, b, xs, rfl, rfl, ha, hb, q⟩ := h
  cases (show v = Value.ref a from rx)
  cases (show u = Value.ref b from ry)
  obtain ⟨us, r1, p1, _⟩ := I.tuple ha
  obtain ⟨ws, r2, p2, _⟩ := I.tuple hb
  cases r2
  refine SeqAt.RcAt.tuples (e := fun _ => true) p1 p2 (by omega) (fun j h1 h2 => absurd h2 (Nat.not_lt_zero j)) X.prog X.w _ _ ⟨.bl xs.isEmpty, H, I, ?_, q⟩
  show Value.bool _ = Value.bool _
  congr 1
  have e := r1.length
  cases us with
  | nil =>
    cases xs with
    | nil => rfl
    | cons _ _ => cases e
  | cons _ _ =>
    cases xs with
    | nil => cases e
    | cons _ _ => simp
end
end Lv

/-! the parts of a text: split and partition -/
namespace Lv
open PySem PySem.Spec PyProof.Rows L2
theorem joinL_mem (S : List Nat) : ∀ (ps : List (List Nat)) (p : List Nat), p ∈ ps → p.length ≤ (TL.joinL S ps).length
  | [], p, h => nomatch h
  | [q], p, h => by
    rw [List.mem_singleton.mp h]
    exact Nat.le_refl _
  | q :: r :: rs, p, h => by
    show _ ≤ (q ++ (S ++ TL.joinL S (r :: rs))).length
    rw [List.length_append, List.length_append]
    rcases List.mem_cons.mp h with rfl | h
    · omega
    · have := joinL_mem S (r :: rs) p h
      omega
theorem joinL_sub (S : List Nat) (c : Nat) : ∀ (ps : List (List Nat)) (p : List Nat), p ∈ ps → c ∈ p → c ∈ TL.joinL S ps
  | [], p, h, _ => nomatch h
  | [q], p, h, hc => by
    rw [List.mem_singleton.mp h] at hc
    exact hc
  | q :: r :: rs, p, h, hc => by
    show c ∈ q ++ (S ++ TL.joinL S (r :: rs))
    rcases List.mem_cons.mp h with rfl | h
    · exact List.mem_append_left _ hc
    · exact List.mem_append_right _ (List.mem_append_right _ (joinL_sub S c (r :: rs) p h hc))
theorem joinL_num (S : List Nat) (hS : 1 ≤ S.length) : ∀ (ps : List (List Nat)), (ps.map (·.length)).sum + ps.length ≤ (TL.joinL S ps).length + 1
  | [] => Nat.zero_le _
  | [q] => by
    show q.length + 0 + 1 ≤ q.length + 1
    omega
  | q :: r :: rs => by
    have ih := joinL_num S hS (r :: rs)
    show q.length + ((r :: rs).map (·.length)).sum + ((r :: rs).length + 1) ≤ (q ++ (S ++ TL.joinL S (r :: rs))).length + 1
    rw [List.length_append, List.length_append]
    omega
theorem join_back (z y : Str) : Txt.join y (Txt.split z y) = z := by
  rw [TL.join_eq]
  exact StrLaws.join_split z y
theorem back_tl (z y : Str) : TL.joinL (TL.tl y) ((Txt.split z y).map TL.tl) = TL.tl z := by
  rw [← TL.tl_join, ← TL.join_eq, join_back]
theorem part_len {z y w : Str} (h : w ∈ Txt.split z y) : w.length ≤ z.length := by
  have h1 := joinL_mem (TL.tl y) ((Txt.split z y).map TL.tl) (TL.tl w) (List.mem_map_of_mem h)
  rw [back_tl] at h1
  rw [len_tl, len_tl]
  exact h1
theorem part_mem {z y w : Str} {c : Nat} (h : w ∈ Txt.split z y) (hc : c ∈ TL.tl w) : c ∈ TL.tl z := by
  have h1 := joinL_sub (TL.tl y) c ((Txt.split z y).map TL.tl) (TL.tl w) (List.mem_map_of_mem h) hc
  rw [back_tl] at h1
  exact h1
theorem part_pl {z y w : Str} (h : Pl z) (hw : w ∈ Txt.split z y) : Pl w := fun c hc => h c (part_mem hw hc)
theorem part_num {z y : Str} (hy : 1 ≤ (TL.tl y).length) : ((Txt.split z y).map (·.length)).sum + (Txt.split z y).length ≤ z.length + 1 := by
  have h := joinL_num (TL.tl y) hy ((Txt.split z y).map TL.tl)
  rw [back_tl, ← len_tl, List.length_map, List.map_map] at h
  have e : (List.length ∘ TL.tl) = fun w : Str => w.length := by funext w; exact (len_tl w).symm
  have h' : ((Txt.split z y).map (List.length ∘ TL.tl)).sum + (Txt.split z y).length ≤ z.length + 1 := h
  rw [e] at h'
  exact h'
theorem spl_ne (S : List Nat) : ∀ (k : Nat) (acc l : List Nat), TL.spl S k acc l ≠ []
  | _, acc, [] => by rw [TL.spl_nil]; simp
  | 0, acc, c :: r => by
    show (if TL.pre S (c :: r) = true then acc :: TL.spl S (S.length - 1) [] r else TL.spl S 0 (acc ++ [c]) r) ≠ []
    split
    · simp
    · exact spl_ne S 0 _ r
  | k + 1, acc, _ :: r => spl_ne S k acc r
theorem split_ne {z y : Str} (hy : TL.tl y ≠ []) (hk : y.cps.all (· < 256) = true) : Txt.split z y ≠ [] := by
  intro e
  have h := TL.split_spl z y hy (TL.kind_ok hk)
  rw [e] at h
  exact spl_ne _ _ _ _ h.symm
theorem par_of (S : List Nat) : ∀ (acc l a b : List Nat), TL.par S acc l = some (a, b) → (∀ c ∈ a, c ∈ acc ++ l) ∧ (∀ c ∈ b, c ∈ l) ∧ a.length ≤ acc.length + l.length ∧ b.length ≤ l.length
  | acc, [], a, b, h => nomatch h
  | acc, c :: r, a, b, h => by
    have h' : (if TL.pre S (c :: r) = true then some (acc, (c :: r).drop S.length) else TL.par S (acc ++ [c]) r) = some (a, b) := h
    split at h'
    · injection h' with h'
      injection h' with h1 h2
      subst h1 h2
      exact ⟨fun c hc => List.mem_append_left _ hc, fun c hc => List.mem_of_mem_drop hc, by omega, by rw [List.length_drop]; omega⟩
    · obtain ⟨h1, h2, h3, h4⟩ := par_of S (acc ++ [c]) r a b h'
      refine ⟨fun d hd => ?_, fun d hd => .tail _ (h2 d hd), ?_, ?_⟩
      · have := h1 d hd
        simpa using this
      · rw [List.length_append] at h3
        simp only [List.length_cons, List.length_nil] at *
        omega
      · simp only [List.length_cons]
        omega
/-- the first and the last part of a partition are made of the text's signs -/
theorem part3 {z y : Str} (hy : TL.tl y ≠ []) : ((∀ c ∈ TL.tl (Txt.partition z y).1, c ∈ TL.tl z) ∧ (Txt.partition z y).1.length ≤ z.length) ∧ ((∀ c ∈ TL.tl (Txt.partition z y).2.2, c ∈ TL.tl z) ∧ (Txt.partition z y).2.2.length ≤ z.length) := by
  rw [TL.partition_par z y hy]
  cases h : TL.par (TL.tl y) [] (TL.tl z) with
  | none => exact ⟨⟨fun c hc => hc, Nat.le_refl _⟩, (fun c hc => nomatch hc), Nat.zero_le _⟩
  | some p =>
    obtain ⟨a, b⟩ := p
    obtain ⟨h1, h2, h3, h4⟩ := par_of _ _ _ _ _ h
    rw [List.nil_append] at h1
    rw [List.length_nil, Nat.zero_add, ← len_tl] at h3
    rw [← len_tl] at h4
    exact ⟨⟨fun c hc => h1 c hc, h3⟩, fun c hc => h2 c hc, h4⟩
theorem neLs {K : PySem.W.Frag} {H : Hp} {a b : Addr} {xs ys : List Str} {Q : VK} (ha : SqL K H a (xs.map V.str)) (hb : SqL K H b (ys.map V.str)) (px : ∀ w ∈ xs, Pl w) (py : ∀ w ∈ ys, Pl w) (q : Q (.bl (!decide (xs = ys))) H) : rNeD K (.ref a) (.ref b) H Q := by
  refine ⟨dLs xs, dLs ys, .lst ha (dpS xs), .lst hb (dpS ys), shapedL px, shapedL py, ?_⟩
  simp only [dLs, PyData.eqv, eqvS]
  exact q
theorem at_last {α : Type} {xs : List α} (h : xs ≠ []) : atI xs (-1) = xs.getLast? := by
  have hl : 0 < xs.length := List.length_pos_iff.mpr h
  unfold atI ixN
  rw [if_neg (by decide), if_pos (by omega), List.getLast?_eq_getElem?]
  show xs[((-1 : Int) + xs.length).toNat]? = _
  rw [show ((-1 : Int) + xs.length).toNat = xs.length - 1 by omega]
theorem cut_last {xs : List V} : cutV xs none (some (-1)) = xs.dropLast := by
  unfold cutV
  rw [HT.sIx_none, List.drop_zero, Nat.sub_zero]
  have e : HT.sIx xs.length xs.length (some (-1)) = xs.length - 1 := by
    unfold HT.sIx
    simp
    omega
  rw [e, List.dropLast_eq_take]
end Lv

/-! nested tuples as data: compared and shown -/
namespace Lv
open PySem PySem.Spec PyProof.Rows L2
/-- data of a small depth that can be compared and shown -/
structure Gd (d : PyData) (k n : Nat) : Prop where
  lay : d.canLay0 = true
  dep : d.depth ≤ k
  shw : d.showable = true
  nod : d.hasDict = false
  len : d.shown.length ≤ n
theorem Gd.mono {d : PyData} {k n k' n' : Nat} (g : Gd d k n) (h1 : k ≤ k') (h2 : n ≤ n') : Gd d k' n' := ⟨g.lay, Nat.le_trans g.dep h1, g.shw, g.nod, Nat.le_trans g.len h2⟩
theorem Gd.str {w : Str} (p : Pl w) : Gd (.str w) 0 (10 * w.length + 2) := by
  refine ⟨?_, ?_, ?_, ?_, ?_⟩
  · rw [PyData.canLay0]
    exact strOk_pl p
  · simp [PyData.depth]
  · simp [PyData.showable]
  · simp [PyData.hasDict]
  · rw [PyData.shown]
    exact rlen p
theorem Gd.int {i : Int} {n : Nat} (h : i.natAbs.log2 < 1920) (hn : (Str.ofString (toString i)).length ≤ n) : Gd (.int i) 0 n := by
  refine ⟨?_, ?_, ?_, ?_, ?_⟩
  · simp [PyData.canLay0]
  · simp [PyData.depth]
  · simp only [PyData.showable]
    exact decide_eq_true h
  · simp [PyData.hasDict]
  · rw [PyData.shown]
    exact hn
structure GdAll (ds : List PyData) (k n : Nat) : Prop where
  lay : PyData.canLayAll0 ds = true
  dep : PyData.depthAll ds ≤ k
  shw : PyData.showableAll ds = true
  nod : PyData.hasDictAll ds = false
  len : ((PyData.shownAll ds).map (·.length)).sum + 2 * (PyData.shownAll ds).length ≤ ds.length * (n + 2)
theorem GdAll.of {k n : Nat} : ∀ {ds : List PyData}, (∀ d ∈ ds, Gd d k n) → GdAll ds k n
  | [], _ => ⟨by simp [PyData.canLayAll0], by simp [PyData.depthAll], by simp [PyData.showableAll], by simp [PyData.hasDictAll], by simp [PyData.shownAll]⟩
  | d :: ds, h => by
    have g := h d (.head _)
    have r := GdAll.of (ds := ds) fun x hx => h x (.tail _ hx)
    refine ⟨?_, ?_, ?_, ?_, ?_⟩
    · rw [PyData.canLayAll0, g.lay, r.lay]
      rfl
    · rw [PyData.depthAll]
      exact Nat.max_le.mpr ⟨g.dep, r.dep⟩
    · rw [PyData.showableAll, g.shw, r.shw]
      rfl
    · rw [PyData.hasDictAll, g.nod, r.nod]
      rfl
    · have h1 := r.len
      have h2 := g.len
      have e : (ds.length + 1) * (n + 2) = ds.length * (n + 2) + (n + 2) := Nat.succ_mul _ _
      rw [PyData.shownAll, List.map_cons, List.sum_cons, List.length_cons, List.length_cons, e]
      omega
theorem Gd.tuple {ds : List PyData} {k n : Nat} (h : ∀ d ∈ ds, Gd d k n) : Gd (.tuple ds) (k + 1) (ds.length * (n + 2) + 3) := by
  have g := GdAll.of h
  refine ⟨?_, ?_, ?_, ?_, ?_⟩
  · rw [PyData.canLay0]
    exact g.lay
  · simp only [PyData.depth]
    have := g.dep
    omega
  · simp only [PyData.showable]
    exact g.shw
  · simp only [PyData.hasDict]
    exact g.nod
  · have h1 := g.len
    have h2 := tupleText_len_le (PyData.shownAll ds)
    simp only [PyData.shown]
    omega
theorem Gd.list {ds : List PyData} {k n : Nat} (h : ∀ d ∈ ds, Gd d k n) : Gd (.list ds) (k + 1) (ds.length * (n + 2) + 3) := by
  have g := GdAll.of h
  refine ⟨?_, ?_, ?_, ?_, ?_⟩
  · rw [PyData.canLay0]
    exact g.lay
  · simp only [PyData.depth]
    have := g.dep
    omega
  · simp only [PyData.showable]
    exact g.shw
  · simp only [PyData.hasDict]
    exact g.nod
  · have h1 := g.len
    have h2 := listText_len_le (PyData.shownAll ds)
    simp only [PyData.shown]
    omega
theorem Gd.shaped {d : PyData} {k n : Nat} (g : Gd d k n) (h : k ≤ 60) : SeqAt.shaped d = true := by
  unfold SeqAt.shaped
  rw [g.lay]
  exact decide_eq_true (by have := g.dep; omega)
/-- the names of a type or a front -/
theorem Gd.names {ws : List Str} (h : ∀ w ∈ ws, isNm w = true) (hn : ws.length ≤ 5) : Gd (dS ws) 1 423 := by
  refine (Gd.tuple (k := 0) (n := 82) fun d hd => ?_).mono (Nat.le_refl _) ?_
  · obtain ⟨w, hw, rfl⟩ := List.mem_map.mp hd
    have := isNm_len (h w hw)
    exact (Gd.str (pl_of (h w hw))).mono (Nat.le_refl _) (by omega)
  · rw [List.length_map]
    omega
theorem eqv_map {α : Type} [DecidableEq α] {f : α → PyData} (h : ∀ x y, PyData.eqv (f x) (f y) = decide (x = y)) : ∀ xs ys : List α, PyData.eqvAll (xs.map f) (ys.map f) = decide (xs = ys)
  | [], [] => by simp [PyData.eqvAll]
  | x :: xs, [] => by simp [PyData.eqvAll]
  | [], y :: ys => by simp [PyData.eqvAll]
  | x :: xs, y :: ys => by
    rw [List.map_cons, List.map_cons, PyData.eqvAll, eqv_map h xs ys, h x y]
    by_cases h1 : x = y <;> by_cases h2 : xs = ys <;> simp [h1, h2]
theorem dp_map {K : PySem.W.Frag} {H : Hp} {α : Type} {f : α → PyData} : ∀ {vs : List V} {xs : List α}, vs.length = xs.length → (∀ (i : Nat) x, xs[i]? = some x → ∃ v, vs[i]? = some v ∧ Dp K H v (f x)) → DpAll K H vs (xs.map f)
  | [], [], _, _ => .nil
  | v :: vs, x :: xs, hl, h => by
    obtain ⟨v', e, d⟩ := h 0 x rfl
    cases e
    exact .cons d (dp_map (Nat.succ.inj hl) fun i y hy => h (i + 1) y hy)
  | [], _ :: _, hl, _ => nomatch hl
  | _ :: _, [], hl, _ => nomatch hl
end Lv

/-! comprehensions whose elements are new tuples -/
namespace Lv
open PySem PySem.Spec PyProof.Rows L2
/-- all tuples stay -/
def SmT (H H' : Hp) : Prop := ∀ a xs, H a = some (.tup xs) → H' a = some (.tup xs)
theorem SmT.of {H H' : Hp} (s : Same H H') : SmT H H' := fun a xs h => s _ _ h
theorem SmT.gr {d : Addr} {H H' : Hp} (g : Gr d H H') : SmT H H' := fun a xs h => g.keep _ _ (g.pre.ne_tup h) h
theorem SmT.lst {H : Hp} {D : Addr} {l l' : List V} (h : H D = some (.lst l)) : SmT H (upd H D (.lst l')) := fun a xs e => by
  rw [upd_ne]
  · exact e
  · intro z
    rw [z, h] at e
    cases e
theorem SmT.trans {H H1 H2 : Hp} (a : SmT H H1) (b : SmT H1 H2) : SmT H H2 := fun p xs h => b _ _ (a _ _ h)
section
variable {J : It} {n : Nat} {G : Hp → Prop} {Y : Nat → Hp → V → Hp → Prop} {g : TG} {tt : TT} {te : TE} {vs : List Nat} {σ : L2.St} {H1 : Hp} {Q : VK}
theorem lc_mon (w : Walk J n G Y) (P : Nat → V → Hp → Prop) (hP : ∀ i y H H', SmT H H' → P i y H → P i y H') (hn : n ≤ sizeLine) (hG : ∀ H, Same H1 H → G H)
    (hs : ∀ i x H H', i < n → Same H1 H → Y i H x H' → ∀ R : VK, (∀ y H4, Same H H4 → P i y H4 → R y H4) →
      g x (wipe σ vs) H' fun σ2 H2 => wipe σ2 vs = wipe σ vs ∧ tt σ2 H2 fun b H3 => b = true ∧ te σ2 H3 R)
    (mono : ∀ (x : V) (σ' : L2.St) (H' : Hp) (A B : L2.St → Hp → Prop), (∀ s h, A s h → B s h) → g x σ' H' A → g x σ' H' B)
    (monoT : ∀ (σ' : L2.St) (H' : Hp) (A B : Bool → Hp → Prop), (∀ b h, A b h → B b h) → tt σ' H' A → tt σ' H' B)
    (hd : ∀ H D ys, Same H1 H → H1 D = none → ys.length = n → (∀ (i : Nat) y, ys[i]? = some y → P i y H) → H D = some (.lst ys) → Q (.ref D) H) : LcB J g tt te vs σ Q H1 := by
  intro D hD
  refine lc_it w (fun i H => Same H1 H ∧ ∃ ys, ys.length = i ∧ (∀ (j : Nat) y, ys[j]? = some y → P j y H) ∧ H D = some (.lst ys)) ⟨same_new hD, [], rfl, (fun j y h => nomatch h), upd_same⟩
    (fun i H _ h => hG H h.1) ?_ (fun H h => let ⟨hS, ys, hl, hp, hL⟩ := h; hd H D ys hS hD hl hp hL)
  rintro i x H H' hi ⟨hS, ys, hl, hp, hL⟩ hy
  have := hs i x H H' hi hS hy
    (fun y H4 => ∃ acc, H4 D = some (.lst acc) ∧ acc.length < sizeLine ∧
      (Same H1 (upd H4 D (.lst (acc ++ [y]))) ∧ ∃ zs, zs.length = i + 1 ∧ (∀ (j : Nat) z, zs[j]? = some z → P j z (upd H4 D (.lst (acc ++ [y])))) ∧ upd H4 D (.lst (acc ++ [y])) D = some (.lst zs)))
    (fun y H4 s4 py => ⟨ys, s4 _ _ hL, by rw [hl]; omega, same_mut (hS.trans s4) hD, ys ++ [y], by rw [List.length_append, hl]; rfl, fun j z hz => ?_, upd_same⟩)
  · refine mono _ _ _ _ _ ?_ this
    rintro s h ⟨e, h2⟩
    refine ⟨e, monoT _ _ _ _ ?_ h2⟩
    rintro b h3 ⟨rfl, h4⟩
    rw [if_pos rfl]
    exact h4
  · have st : SmT H4 (upd H4 D (.lst (ys ++ [y]))) := SmT.lst (s4 _ _ hL)
    by_cases hj : j < i
    · rw [List.getElem?_append_left (by omega)] at hz
      exact hP _ _ _ _ ((SmT.of s4).trans st) (hp j z hz)
    · have e : j = i := by
        have := (List.getElem?_eq_some_iff.mp hz).1
        rw [List.length_append, hl] at this
        simp at this
        omega
      subst e
      rw [List.getElem?_append_right (by omega), hl, Nat.sub_self] at hz
      cases hz
      exact hP _ _ _ _ st py
end
end Lv

set_option pp.maxSteps 1500
/-! sets whose members are nested tuples: made, filled, counted -/
namespace Lv
open PySem PySem.Spec PyProof.Rows L2
section
variable {P : Program} {w : World}
/-- whether v's hash is by value: some answer, nothing else -/
def HashQ (P : Program) (w : World) (n : Nat) (s : Shared) (v : Value) : Prop := ∀ (A : Around) (E : Value → Shared → Prop) (Q : Bool → Shared → Prop), (∀ b, Q b s) → wpAny (model P w) A (hashByValue n v) Q E s
theorem HashQ.tup {n : Nat} {s : Shared} {a : Addr} {o : Obj} {vs : Array Value} {m : Nat} (ho : s.heap.get? a = some o) (hc : o.cls = .type "tuple") (hd : o.data = .seq vs m) (hv : ∀ v ∈ vs.toList, HashQ P w n s v) : HashQ P w (n + 1) s (.ref a) := by
  intro A E Q q
  unfold hashByValue
  refine wpAny_bind (wpAny_specialOf (T := "tuple") ⟨o, ho, hc⟩ F.slot_tuple_hash.lookup ?_)
  show wpAny _ _ (seqItems? (.ref a) >>= _) _ _ s
  refine wpAny_bind (wpAny_seqItems ho hd (wpAny_bind ?_))
  show wpAny _ _ (forIn vs _ _) _ _ s
  rw [← Array.forIn_toList]
  refine wpAny_forIn_list _ (fun rest _ s1 => s1 = s ∧ ∀ v ∈ rest, HashQ P w n s v) _ (fun v rest r s1 h => ?_) (fun r s1 h => ?_) _ _ ⟨rfl, hv⟩
  · obtain ⟨rfl, h⟩ := h
    refine wpAny_bind (h v (.head _) _ _ _ fun b => ?_)
    cases b with
    | true =>
      refine wp_if_neg (by decide) ?_
      exact wpAny_pure ⟨rfl, fun u hu => h u (.tail _ hu)⟩
    | false =>
      refine wp_if_pos (by decide) ?_
      exact wpAny_pure (wpAny_pure (q _))
  · obtain ⟨rfl, _⟩ := h
    obtain ⟨r1, r2⟩ := r
    cases r1 with
    | none => exact wpAny_pure (q _)
    | some b => exact wpAny_pure (q _)
mutual
theorem hashQ : ∀ (k : NestedKey) (v : Value) (n : Nat) (s : Shared), NestedIs s.heap k v → HashQ P w n s v
  | .none, _, n, s, x => by cases x; intro A E Q q; cases n <;> exact wpAny_pure (q _)
  | .num i, _, n, s, x => by cases x <;> (intro A E Q q; cases n <;> exact wpAny_pure (q _))
  | .text y, _, n, s, x => by cases x; intro A E Q q; cases n <;> exact wpAny_pure (q _)
  | .tup ks, _, n, s, x => by
    cases x with
    | tup hg hc hd hk =>
      cases n with
      | zero => intro A E Q q; exact wpAny_pure (q _)
      | succ n => exact .tup hg hc hd (hashQs ks _ n s hk)
theorem hashQs : ∀ (ks : List NestedKey) (vs : List Value) (n : Nat) (s : Shared), NestedAll s.heap ks vs → ∀ v ∈ vs, HashQ P w n s v
  | [], _, n, s, x, v, hv => by cases x; cases hv
  | k :: ks, _, n, s, x, v, hv => by
    cases x with
    | cons x1 x2 =>
      rcases List.mem_cons.mp hv with rfl | hv
      · exact hashQ k _ n s x1
      · exact hashQs ks _ n s x2 v hv
end
/-- v is of no class statement -/
def PlainQ (P : Program) (w : World) (n : Nat) (s : Shared) (v : Value) : Prop := ∀ (A : Around) (E : Value → Shared → Prop) (Q : Bool → Shared → Prop), Q false s → wpAny (model P w) A (ofAClassStatement n v) Q E s
theorem PlainQ.tup {n : Nat} {s : Shared} {a : Addr} {o : Obj} {vs : Array Value} {m : Nat} (ho : s.heap.get? a = some o) (hc : o.cls = .type "tuple") (hd : o.data = .seq vs m) (hv : ∀ v ∈ vs.toList, PlainQ P w n s v) : PlainQ P w (n + 1) s (.ref a) := by
  intro A E Q q
  unfold ofAClassStatement
  refine wpAny_bind (wpAny_typeOf (T := "tuple") ⟨o, ho, hc⟩ ?_)
  dsimp only
  rw [if_pos (show (("tuple" : String) == "tuple") = true by decide)]
  refine wpAny_bind (wpAny_pure ?_)
  refine wp_if_neg (by decide) ?_
  show wpAny _ _ (seqItems? (.ref a) >>= _) _ _ s
  refine wpAny_bind (wpAny_seqItems ho hd (wpAny_bind ?_))
  show wpAny _ _ (forIn vs _ _) _ _ s
  rw [← Array.forIn_toList]
  refine wpAny_forIn_list _ (fun rest r s1 => r.1 = none ∧ s1 = s ∧ ∀ v ∈ rest, PlainQ P w n s v) _ (fun v rest r s1 h => ?_) (fun r s1 h => ?_) _ _ ⟨rfl, rfl, hv⟩
  · obtain ⟨_, rfl, h⟩ := h
    refine wpAny_bind (h v (.head _) _ _ _ ?_)
    refine wp_if_neg (by decide) ?_
    exact wpAny_pure ⟨rfl, rfl, fun u hu => h u (.tail _ hu)⟩
  · obtain ⟨e, rfl, _⟩ := h
    obtain ⟨r1, r2⟩ := r
    cases (show r1 = none from e)
    exact wpAny_pure q
mutual
theorem plainQ : ∀ (k : NestedKey) (v : Value) (n : Nat) (s : Shared), NestedIs s.heap k v → k.depth ≤ n → PlainQ P w n s v
  | .none, _, n, s, x, _ => by cases x; intro A E Q q; cases n <;> exact wpAny_pure q
  | .num i, _, n, s, x, _ => by cases x <;> (intro A E Q q; cases n <;> exact wpAny_pure q)
  | .text y, _, n, s, x, _ => by cases x; intro A E Q q; cases n <;> exact wpAny_pure q
  | .tup ks, _, n, s, x, h => by
    cases x with
    | tup hg hc hd hk =>
      simp only [NestedKey.depth] at h
      cases n with
      | zero => omega
      | succ n => exact .tup hg hc hd (plainQs ks _ n s hk (by omega))
theorem plainQs : ∀ (ks : List NestedKey) (vs : List Value) (n : Nat) (s : Shared), NestedAll s.heap ks vs → NestedKey.depthAll ks ≤ n → ∀ v ∈ vs, PlainQ P w n s v
  | [], _, n, s, x, _, v, hv => by cases x; cases hv
  | k :: ks, _, n, s, x, h, v, hv => by
    cases x with
    | cons x1 x2 =>
      simp only [NestedKey.depthAll] at h
      rcases List.mem_cons.mp hv with rfl | hv
      · exact plainQ k _ n s x1 (by omega)
      · exact plainQs ks _ n s x2 (by omega) v hv
end
abbrev NK (P : Program) (w : World) : HeapKind P w NestedKey := nestedKind P w
/-- a search among nested tuples can't be seen -/
theorem unseen {A : Around} {E : Value → Shared → Prop} {s : Shared} {k : NestedKey} {b : Addr} {ys : List Value} {Q : Bool → Shared → Prop} (hb : (NK P w).is s.heap k b) (hy : ∀ y ∈ ys, ∃ c k', y = Value.ref c ∧ (NK P w).is s.heap k' c) (q : Q false s) :
    wpAny (model P w) A (searchCouldBeSeen (.ref b) ys) Q E s := by
  unfold searchCouldBeSeen
  refine wpAny_bind (wpAny_forIn_list _ (fun rest r s1 => r.1 = none ∧ s1 = s ∧ ∀ y ∈ rest, ∃ c k', y = Value.ref c ∧ (NK P w).is s.heap k' c) _ (fun v rest r s1 h => ?_) (fun r s1 h => ?_) _ _ ⟨rfl, rfl, hy⟩)
  · obtain ⟨_, rfl, h⟩ := h
    obtain ⟨c, k', rfl, hc⟩ := h v (.head _)
    have later : ∀ y ∈ rest, ∃ c k', y = Value.ref c ∧ (NK P w).is s1.heap k' c := fun u hu => h u (.tail _ hu)
    dsimp only
    by_cases hv : (b == c || (carriedByValue (.ref b) && carriedByValue (.ref c))) = true
    · exact wp_if_pos hv (wpAny_pure ⟨rfl, rfl, later⟩)
    · refine wp_if_neg hv (wpAny_bind ((NK P w).quiet hb ?_))
      refine wp_if_neg (by decide) (wpAny_bind ((NK P w).quiet hc ?_))
      refine wp_if_neg (by decide) (wpAny_bind (plainQ k _ 8 _ hb.1 hb.2 _ _ _ ?_))
      refine wp_if_neg (by decide) (wpAny_bind (plainQ k' _ 8 _ hc.1 hc.2 _ _ _ ?_))
      refine wp_if_neg (by decide) ?_
      exact wpAny_pure ⟨rfl, rfl, later⟩
  · obtain ⟨e, rfl, _⟩ := h
    obtain ⟨r1, r2⟩ := r
    cases (show r1 = none from e)
    exact wpAny_pure q
end
end Lv

/-! sets of nested tuples: the search for a member -/
namespace Lv
open PySem PySem.Spec PyProof.Rows L2
/-- the c-th stand of a search for the hash h -/
abbrev stand (t : SetTable) (h : Int) (c : Nat) : SetTable.Probe := nth t.mask (runAt t.mask (SetTable.bits h % (t.mask + 1)) (SetTable.bits h)) c
theorem stand_clean (t : SetTable) (h : Int) (c : Nat) : (stand t h c).dummy = none := by
  induction c with
  | zero => rfl
  | succ c ih =>
    show (nth t.mask _ (c + 1)).dummy = none
    rw [nth_succ]
    unfold adv
    split <;> exact ih
theorem stand_on (t : SetTable) (h : Int) (c q : Nat) : nth t.mask (stand t h c) q = stand t h (c + q) := (nth_add t.mask c _ q).symm
/-- one question of the search: the next place of a member with this hash, or the free slot -/
theorem probe_at {t : SetTable} {hs : List Int} (T : TabOk t hs) {ha : Nat → Int} (hha : ∀ (i : Nat) x, hs[i]? = some x → ha i = x) {h : Int} {K c : Nat} (hc : c ≤ K) (hf : K < 10 * SetTable.turns t.mask)
    (hK : way t.mask h K ∉ t.place.toList) (hb : ∀ q, q < K → way t.mask h q ∈ t.place.toList) :
    (∃ (q i : Nat), c ≤ q ∧ q < K ∧ t.place.toList[i]? = some (way t.mask h q) ∧ hs[i]? = some h ∧ (∀ (q' i' : Nat), c ≤ q' → q' < q → t.place.toList[i']? = some (way t.mask h q') → hs[i']? ≠ some h) ∧
      t.probe ha h (stand t h c) = some (.candidate (way t.mask h q) i (stand t h (q + 1)))) ∨
    ((∀ (q' i' : Nat), c ≤ q' → q' < K → t.place.toList[i']? = some (way t.mask h q') → hs[i']? ≠ some h) ∧ t.probe ha h (stand t h c) = some (.empty (way t.mask h K) none)) := by
  have at_ : ∀ q, (nth t.mask (stand t h c) q).j = way t.mask h (c + q) := fun q => congrArg SetTable.Probe.j (stand_on t h c q)
  have sz : t.place.toList.length = hs.length := by rw [Array.length_toList]; exact T.sz
  have hsome : ∀ (i j : Nat), t.place.toList[i]? = some j → hs[i]? = some (hs.getD i 0) := fun i j e => by
    have hl : i < hs.length := by rw [← sz]; exact (List.getElem?_eq_some_iff.mp e).1
    simp [List.getD, List.getElem?_eq_getElem hl]
  have no : ∀ {B : Nat}, (∀ (k' i' : Nat), k' < B → t.place.toList[i']? = some (nth t.mask (stand t h c) k').j → ha i' ≠ h) → ∀ (q' i' : Nat), c ≤ q' → q' < c + B → t.place.toList[i']? = some (way t.mask h q') → hs[i']? ≠ some h := by
    intro B hno q' i' h1 h2 h3 h4
    refine hno (q' - c) i' (by omega) ?_ (hha i' h h4)
    rw [at_, show c + (q' - c) = q' by omega]
    exact h3
  rcases go_spec t T.ris T.dm ha h (10 * SetTable.turns t.mask) (K - c) (stand t h c) (stand_clean t h c) (by omega) (fun q hq => by rw [at_]; exact hb _ (by omega)) (by rw [at_, show c + (K - c) = K by omega]; exact hK) with ⟨q, i, hq, hi, hh, hno, hp⟩ | ⟨hno, hp⟩
  · refine .inl ⟨c + q, i, by omega, by omega, by rw [← at_]; exact hi, ?_, no hno, ?_⟩
    · have e := hsome i _ hi
      rw [e]
      rw [← hha i _ e, hh]
    · have hp' : t.probe ha h (stand t h c) = some (.candidate (nth t.mask (stand t h c) q).j i (nth t.mask (stand t h c) (q + 1))) := hp
      rw [hp', at_, stand_on]
      rfl
  · refine .inr ⟨fun q' i' h1 h2 => no hno q' i' h1 (by omega), ?_⟩
    have hp' : t.probe ha h (stand t h c) = some (.empty (nth t.mask (stand t h c) (K - c)).j none) := hp
    rw [hp', at_, show c + (K - c) = K by omega]
/-- members: a key, and where it stands -/
abbrev Mems := List (NestedKey × Addr)
def hashN (w : World) (L : Mems) : List Int := L.map fun p => p.1.hash w
def rowN (w : World) (L : Mems) : List (Int × Value) := L.map fun p => (p.1.hash w, Value.ref p.2)
/-- the set at a holds L -/
structure SetN (P : Program) (w : World) (h : Heap) (a : Addr) (L : Mems) (es : Array (Int × Value)) (ep : Nat) (t : SetTable) : Prop where
  obj : ∃ o, h.get? a = some o ∧ o.ExactSet ∧ o.data = .set es ep t
  row : es.toList = rowN w L
  tab : TabOk t (hashN w L)
  once : (L.map (·.1)).Nodup
  key : ∀ p ∈ L, (NK P w).is h p.1 p.2
  free : L.length * 5 < t.mask * 3
  small : L.length < 64
section
variable {P : Program} {w : World} {A : Around} {E : Value → Shared → Prop} {s : Shared} {a : Addr} {L : Mems} {es : Array (Int × Value)} {ep : Nat} {t : SetTable}
theorem row_len (w : World) (L : Mems) : (rowN w L).length = L.length := by simp [rowN]
theorem hash_len (w : World) (L : Mems) : (hashN w L).length = L.length := by simp [hashN]
theorem SetN.len {h : Heap} (R : SetN P w h a L es ep t) : es.size = L.length := by
  rw [← Array.length_toList, R.row, row_len]
theorem fits_of {n : Nat} (h1 : t.place.size = n) (h2 : t.dummies = #[]) (h3 : n ≤ t.mask) : t.fits n = true := by
  unfold SetTable.fits SetTable.fill
  rw [h2, Bool.and_eq_true, beq_iff_eq, decide_eq_true_eq]
  exact ⟨h1, by show t.place.size + 0 ≤ t.mask; omega⟩
theorem SetN.fit {h : Heap} (R : SetN P w h a L es ep t) : t.fits es.size = true := by
  have h1 := R.tab.sz
  rw [hash_len] at h1
  have h2 := R.len
  have h3 := R.free
  exact fits_of (by omega) R.tab.dm (by omega)
theorem SetN.nth_ {h : Heap} (R : SetN P w h a L es ep t) {i : Nat} {p : NestedKey × Addr} (e : L[i]? = some p) : es[i]? = some (p.1.hash w, Value.ref p.2) := by
  rw [← Array.getElem?_toList, R.row]
  simp [rowN, e]
theorem SetN.stays {h : Heap} (R : SetN P w h a L es ep t) : ¬ t.gaveWay = true := by
  unfold SetTable.gaveWay
  rw [mask_odd R.tab.mok]
  decide
/-- the search, from its c-th stand on -/
theorem seek (R : SetN P w s.heap a L es ep t) {x : Addr} {k : NestedKey} (hx : (NK P w).is s.heap k x) (ru : (NK P w).room A) {K : Nat} (hf : K < 10 * SetTable.turns t.mask) (hK : way t.mask (k.hash w) K ∉ t.place.toList)
    (hb : ∀ q, q < K → way t.mask (k.hash w) q ∈ t.place.toList) {Q : SetFound → Shared → Prop} (qi : k ∈ L.map (·.1) → Q (.there none) s) (qo : k ∉ L.map (·.1) → Q (.free (way t.mask (k.hash w) K) false) s) :
    ∀ (f c : Nat) (o : Option SetTable.Probe), o.getD (t.probeStart (k.hash w)) = stand t (k.hash w) c → c ≤ K → K - c < f →
      (∀ (i : Nat) p, L[i]? = some p → p.1 = k → ∃ c', c ≤ c' ∧ c' < K ∧ t.place.toList[i]? = some (way t.mask (k.hash w) c')) → wpAny (model P w) A (setSearchFrom a (.ref x) (k.hash w) true f o) Q E s := by
  intro f
  induction f with
  | zero => intro c o _ _ hz; omega
  | succ f ih =>
    intro c o eo hc hz later
    obtain ⟨ob, hob, hex, hda⟩ := R.obj
    have hat : ∀ (i : Nat) v, (hashN w L)[i]? = some v → (fun i => (es[i]?.map (·.1)).getD 0) i = v := fun i v e => by
      unfold hashN at e
      rw [List.getElem?_map] at e
      cases hp : L[i]? with
      | none => rw [hp] at e; cases e
      | some p =>
        rw [hp] at e
        cases e
        simp [R.nth_ hp]
    have inL : ∀ (i : Nat) p, L[i]? = some p → p.1 = k → (hashN w L)[i]? = some (k.hash w) := fun i p e ek => by
      unfold hashN
      rw [List.getElem?_map, e, ← ek]
      rfl
    rw [setSearchFrom_succ]
    refine wpAny_bind (wpAny_setState_of hob hda R.fit ?_)
    dsimp only
    refine wp_if_neg R.stays ?_
    rw [eo]
    rcases probe_at R.tab hat hc hf hK hb with ⟨q, i, h1, h2, h3, h4, h5, h6⟩ | ⟨h5, h6⟩
    · rw [h6]
      dsimp only
      have il : i < L.length := by
        have := (List.getElem?_eq_some_iff.mp h4).1
        rw [hash_len] at this
        exact this
      obtain ⟨p, hp⟩ : ∃ p, L[i]? = some p := ⟨_, List.getElem?_eq_getElem il⟩
      have pm := List.mem_of_getElem? hp
      have slot := slot_live R.tab.ris h3
      have rest : wpAny (model P w) A (searchRest a (.ref x) (k.hash w) true f es t (way t.mask (k.hash w) q) i (stand t (k.hash w) (q + 1))) Q E s := by
        unfold searchRest
        rw [R.nth_ hp]
        dsimp only
        refine wpAny_bind (wpAny_holding ((NK P w).eqBool ru (R.key p pm) hx (wpAny_bind (wpAny_setState_of hob hda R.fit ?_))))
        dsimp only
        by_cases same : p.1 = k
        · rw [decide_eq_true same]
          exact wp_if_pos (by decide) (wpAny_pure (qi (List.mem_map.mpr ⟨p, pm, same⟩)))
        · rw [decide_eq_false same]
          refine wp_if_neg (by decide) ?_
          rw [sameMem]
          dsimp only
          simp only [if_true, slot, R.nth_ hp]
          refine wpAny_bind (wpAny_isSame_ref_self (wpAny_bind (wpAny_pure ?_)))
          simp only [if_true]
          refine wp_if_neg (by decide) ?_
          refine ih (q + 1) (some (stand t (k.hash w) (q + 1))) rfl (by omega) (by omega) fun i0 p0 e0 k0 => ?_
          obtain ⟨c', l1, l2, l3⟩ := later i0 p0 e0 k0
          refine ⟨c', ?_, l2, l3⟩
          rcases Nat.lt_trichotomy c' q with z | z | z
          · exact absurd (inL i0 p0 e0 k0) (h5 c' i0 l1 z l3)
          · have s0 := slot_live R.tab.ris l3
            rw [z, slot] at s0
            injection s0 with s0
            rw [← s0, hp] at e0
            cases e0
            exact absurd k0 same
          · omega
      by_cases hl : t.led = true
      · refine wp_if_neg (by rw [hl]; decide) ?_
        exact rest
      · refine wp_if_pos (by simp [hl]) ?_
        refine wpAny_bind (unseen hx (fun y hy => ?_) ?_)
        · obtain ⟨e, he, rfl⟩ := List.mem_map.mp hy
          have he' : e ∈ es.toList := by
            have : e ∈ es ∧ e.1 = k.hash w := by simpa using he
            simpa using this.1
          rw [R.row] at he'
          obtain ⟨p2, hp2, rfl⟩ := List.mem_map.mp he'
          exact ⟨p2.2, p2.1, rfl, R.key p2 hp2⟩
        · exact wp_if_neg (by decide) rest
    · rw [h6]
      refine wpAny_pure (qo fun hm => ?_)
      obtain ⟨p0, m0, k0⟩ := List.mem_map.mp hm
      obtain ⟨i0, l0, e0⟩ := List.getElem_of_mem m0
      have e1 : L[i0]? = some p0 := by rw [List.getElem?_eq_getElem l0, e0]
      obtain ⟨c', l1, l2, l3⟩ := later i0 p0 e1 k0
      exact h5 c' i0 l1 l2 l3 (inL i0 p0 e1 k0)
/-- the search of an adding -/
theorem search_n (R : SetN P w s.heap a L es ep t) {x : Addr} {k : NestedKey} (hx : (NK P w).is s.heap k x) (ru : (NK P w).room A) {Q : SetFound → Shared → Prop} (qi : k ∈ L.map (·.1) → Q (.there none) s)
    (qo : ∀ K, k ∉ L.map (·.1) → way t.mask (k.hash w) K ∉ t.place.toList → (∀ q, q < K → way t.mask (k.hash w) q ∈ t.place.toList) → Q (.free (way t.mask (k.hash w) K) false) s) :
    wpAny (model P w) A (setSearch a (.ref x) (k.hash w) true) Q E s := by
  have fr := R.free
  obtain ⟨K, hf, hK, hb⟩ := R.tab.first (by rw [hash_len]; omega) (k.hash w)
  have few : 10 * SetTable.turns t.mask ≤ 2000 := by
    unfold SetTable.turns
    rcases R.tab.mok with e | e | e <;> omega
  refine seek R hx ru hf hK hb qi (fun n => qo K n hK hb) 100000 0 none rfl (Nat.zero_le _) (by omega) fun i p e ek => ?_
  have hi : (hashN w L)[i]? = some (k.hash w) := by
    unfold hashN
    rw [List.getElem?_map, e, ← ek]
    rfl
  have il : i < t.place.toList.length := by
    have h1 := (List.getElem?_eq_some_iff.mp hi).1
    have h2 := R.tab.sz
    rw [Array.length_toList]
    omega
  obtain ⟨c, hc, ec⟩ := R.tab.before hK hi (List.getElem?_eq_getElem il)
  exact ⟨c, Nat.zero_le _, hc, by rw [List.getElem?_eq_getElem il, ec]⟩
end
end Lv

/-! sets of nested tuples: a member is put in -/
namespace Lv
open PySem PySem.Spec PyProof.Rows L2
section
variable {P : Program} {w : World} {A : Around} {E : Value → Shared → Prop} {s : Shared} {a : Addr} {L : Mems} {es : Array (Int × Value)} {ep : Nat} {t : SetTable}
theorem key_but {h h' : Heap} {k : NestedKey} {b : Addr} {o : Obj} (hb : (NK P w).is h k b) (ho : h.get? a = some o) (hd : o.data = .set es ep t) (sb : Heap.SameBut a h h') : (NK P w).is h' k b := by
  refine ⟨NestedIs.at (fun c oc vs n hc hv => ?_) k _ hb.1, hb.2⟩
  refine (sb.2 c fun e => ?_).trans hc
  rw [e, ho] at hc
  cases hc
  rw [hd] at hv
  cases hv
theorem range_all {α : Type} : ∀ (l : List α), (List.range l.length).filterMap (fun i => l[i]?) = l
  | [] => rfl
  | x :: l => by
    rw [List.length_cons, List.range_succ_eq_map, List.filterMap_cons]
    simp only [List.getElem?_cons_zero, List.filterMap_map]
    exact congrArg (x :: ·) (range_all l)
theorem reorder (order : List Nat) (hr : es.toList = rowN w L) (hp : order.Perm (List.range L.length)) :
    ∃ L2 : Mems, order.filterMap (fun i => es[i]?) = rowN w L2 ∧ L2.Perm L ∧ hashN w L2 = order.map fun i => (es.map (·.1)).getD i 0 := by
  have at_ : ∀ i : Nat, es[i]? = (L[i]?).map fun p => (p.1.hash w, Value.ref p.2) := fun i => by
    rw [← Array.getElem?_toList, hr]
    simp [rowN]
  refine ⟨order.filterMap (fun i => L[i]?), ?_, ?_, ?_⟩
  · unfold rowN
    rw [List.map_filterMap]
    exact congrArg (fun f => order.filterMap f) (funext at_)
  · have h := hp.filterMap (fun i => L[i]?)
    rw [range_all] at h
    exact h
  · have all : ∀ i ∈ order, i < L.length := fun i hi => List.mem_range.mp (hp.mem_iff.mp hi)
    clear hp
    unfold hashN
    induction order with
    | nil => rfl
    | cons i r ih =>
      have hi := all i (.head _)
      have e : L[i]? = some L[i] := List.getElem?_eq_getElem hi
      rw [List.filterMap_cons, e]
      dsimp only
      rw [List.map_cons, List.map_cons, ih fun j hj => all j (.tail _ hj)]
      refine congrArg (· :: _) ?_
      rw [Array.getD_eq_getD_getElem?, Array.getElem?_map, at_, e]
      rfl
/-- the table is laid anew -/
theorem relay_n {o : Obj} (ho : s.heap.get? a = some o) (hx : o.ExactSet) (hd : o.data = .set es ep t) (hr : es.toList = rowN w L) (hsz : t.place.size = L.length) (hdm : t.dummies = #[]) (hm : L.length ≤ t.mask)
    (once : (L.map (·.1)).Nodup) (key : ∀ p ∈ L, (NK P w).is s.heap p.1 p.2) (small : L.length < 64) {want M : Nat} (hw : SetTable.sizeAbove want - 1 = M) (hM : MaskOk M) (hw2 : SetTable.sizeAbove want ≤ 128) (hn : L.length * 5 < M * 3)
    {Q : Unit → Shared → Prop} (q : ∀ h' L' es' ep' t', Heap.SameBut a s.heap h' → SetN P w h' a L' es' ep' t' → L'.Perm L → Q () { s with heap := h' }) : wpAny (model P w) A (setRelay a want) Q E s := by
  have hl : es.size = L.length := by rw [← Array.length_toList, hr, row_len]
  obtain ⟨t', order, e, hp, T, em, _, _, _⟩ := relaid_ok t (hs := es.map (·.1)) hw hM (by rw [Array.size_map, hl]; omega)
  rw [Array.size_map, hl] at hp
  obtain ⟨L2, r1, r2, r3⟩ := reorder order.toList hr hp
  rw [← r3] at T
  have r1' : (order.filterMap (es[·]?)).toList = rowN w L2 := by rw [Array.toList_filterMap]; exact r1
  have hs2 : (order.filterMap (es[·]?)).size = es.size := by rw [← Array.length_toList, r1', row_len, r2.length_eq, hl]
  rw [setRelay_eq]
  refine wpAny_bind (wpAny_setState_of ho hd (by rw [hl]; exact fits_of hsz hdm hm) ?_)
  dsimp only
  refine wp_if_neg (by rw [sizeLine_eq]; omega) ?_
  rw [e]
  refine wpAny_bind (wp_if_neg (by rw [hs2]; simp) (wpAny_pure ?_))
  refine wpAny_storeSet_of ho hd ?_ (by rw [hs2, hl, sizeLine_eq]; omega)
  have sb : Heap.SameBut a s.heap (s.heap.update a (Obj.putSet (order.filterMap (es[·]?)) t')) := Heap.SameBut.update ..
  exact q _ L2 _ (ep + 1) t' sb ⟨⟨_, store_at ho hd, ⟨hx.1, hx.2.1, hx.2.2⟩, rfl⟩, r1', T, (r2.map (·.1)).nodup_iff.mpr once, fun p hp => key_but (key p (r2.mem_iff.mp hp)) ho hd sb, by rw [r2.length_eq, em]; exact hn, by rw [r2.length_eq]; exact small⟩ r2
/-- a key is put in -/
theorem add_n (R : SetN P w s.heap a L es ep t) {x : Addr} {k : NestedKey} (hx : (NK P w).is s.heap k x) (ru : (NK P w).room A) (more : L.length + 1 < 64) {Q : Bool → Shared → Prop}
    (q : ∀ b h' L' es' ep' t', Heap.SameBut a s.heap h' → SetN P w h' a L' es' ep' t' → (k ∈ L.map (·.1) → L' = L) → (k ∉ L.map (·.1) → L'.Perm ((k, x) :: L)) → Q b { s with heap := h' }) :
    wpAny (model P w) A (setAddHashed a (.ref x) (k.hash w)) Q E s := by
  obtain ⟨o, ho, hex, hd⟩ := R.obj
  have hl := R.len
  have fr := R.free
  refine wpAny_holding ?_
  rw [show (100000 : Nat) = 99999 + 1 from rfl, setAddHashedIn_succ]
  refine wpAny_bind (wpAny_setState_of ho hd R.fit ?_)
  dsimp only
  refine wp_if_neg (by simp [byScan, Value.scannable]) ?_
  refine wpAny_bind (search_n R hx ru (fun hm => wpAny_pure (q false s.heap L es ep t (Heap.SameBut.refl a s.heap) R (fun _ => rfl) fun z => absurd hm z)) fun K hm hK hb => ?_)
  dsimp only
  refine wpAny_bind (wpAny_setState_of ho hd R.fit ?_)
  dsimp only
  obtain ⟨b1, b2, b3, b4, _, _, _, _, b9⟩ := R.tab.put hK hb
  rw [hash_len] at b2 b9
  have hpm : (L.take (SetTable.below t.place (way t.mask (k.hash w) K)) ++ (k, x) :: L.drop (SetTable.below t.place (way t.mask (k.hash w) K))).Perm ((k, x) :: L) := by
    have := List.perm_middle (a := (k, x)) (l₁ := L.take (SetTable.below t.place (way t.mask (k.hash w) K))) (l₂ := L.drop (SetTable.below t.place (way t.mask (k.hash w) K)))
    rw [List.take_append_drop] at this
    exact this
  have hrow : (SetTable.insertAt es (SetTable.below t.place (way t.mask (k.hash w) K)) (k.hash w, Value.ref x)).toList = rowN w (L.take (SetTable.below t.place (way t.mask (k.hash w) K)) ++ (k, x) :: L.drop (SetTable.below t.place (way t.mask (k.hash w) K))) := by
    rw [SetTable.toList_insertAt, R.row]
    simp [rowN, List.map_take, List.map_drop]
  have hhash : hashN w (L.take (SetTable.below t.place (way t.mask (k.hash w) K)) ++ (k, x) :: L.drop (SetTable.below t.place (way t.mask (k.hash w) K))) = (hashN w L).take (SetTable.below t.place (way t.mask (k.hash w) K)) ++ k.hash w :: (hashN w L).drop (SetTable.below t.place (way t.mask (k.hash w) K)) := by
    simp [hashN, List.map_take, List.map_drop]
  rw [← hhash] at b3
  generalize hpt : t.put (way t.mask (k.hash w) K) = pt at b1 b3 b4 b9 ⊢
  obtain ⟨t1, p1⟩ := pt
  dsimp only at b1 b3 b4 b9 ⊢
  subst b1
  generalize SetTable.below t.place (way t.mask (k.hash w) K) = pl at *
  generalize L.take pl ++ (k, x) :: L.drop pl = L1 at *
  have l1 : L1.length = L.length + 1 := hpm.length_eq
  have once1 : (L1.map (·.1)).Nodup := by
    refine (hpm.map (·.1)).nodup_iff.mpr ?_
    rw [List.map_cons]
    exact List.nodup_cons.mpr ⟨hm, R.once⟩
  have go : ∀ (b : Bool) (t2 : SetTable), t2 = (if b = true then t1 else { t1 with plain := false }) → wpAny (model P w) A (do
      storeSet a (SetTable.insertAt es pl (k.hash w, Value.ref x)) t2
      if !false && t2.tooFull then setRelay a (SetTable.grown (es.size + 1))
      return true) Q E s := by
    intro b t2 e2
    have T2 : TabOk t2 (hashN w L1) ∧ t2.mask = t1.mask ∧ t2.fill = t1.fill := by
      rw [e2]
      cases b with
      | true => exact ⟨b3, rfl, rfl⟩
      | false => exact ⟨⟨b3.ris, b3.dm, b3.sz, b3.mok, b3.bd, b3.reach⟩, rfl, rfl⟩
    obtain ⟨T2, m2, f2⟩ := T2
    generalize SetTable.insertAt es pl (k.hash w, Value.ref x) = es1 at *
    have hs1 : es1.size = L.length + 1 := by rw [← Array.length_toList, hrow, row_len, l1]
    refine wpAny_bind (wpAny_storeSet_of ho hd ?_ (by rw [hs1, sizeLine_eq]; omega))
    have sb : Heap.SameBut a s.heap (s.heap.update a (Obj.putSet es1 t2)) := Heap.SameBut.update ..
    have ho1 := store_at (es' := es1) (t' := t2) ho hd
    have key1 : ∀ p ∈ L1, (NK P w).is (s.heap.update a (Obj.putSet es1 t2)) p.1 p.2 := fun p hp => by
      rcases List.mem_cons.mp (hpm.mem_iff.mp hp) with rfl | hp
      · exact key_but hx ho hd sb
      · exact key_but (R.key p hp) ho hd sb
    generalize s.heap.update a (Obj.putSet es1 t2) = h1 at *
    have full : t2.tooFull = decide ((L.length + 1) * 5 ≥ t2.mask * 3) := by
      unfold SetTable.tooFull
      rw [f2, b9]
    by_cases hf : (L.length + 1) * 5 ≥ t2.mask * 3
    · rw [full, decide_eq_true hf]
      refine wp_if_pos rfl (wpAny_bind ?_)
      rw [hl]
      have two : (t.mask = 7 ∧ L.length = 4) ∨ (t.mask = 31 ∧ L.length = 18) := by
        rw [m2, b4] at hf
        rcases R.tab.mok with e | e | e <;> rw [e] at hf fr
        · exact .inl ⟨e, by omega⟩
        · exact .inr ⟨e, by omega⟩
        · omega
      have end_ : ∀ h' L' es' ep' t', Heap.SameBut a h1 h' → SetN P w h' a L' es' ep' t' → L'.Perm L1 → wpAny (model P w) A (pure true) Q E { s with heap := h' } := fun h' L' es' ep' t' s2 R2 p2 =>
        wpAny_pure (q true h' L' es' ep' t' (sb.trans s2) R2 (fun z => absurd z hm) fun _ => p2.trans hpm)
      have sz2 : t2.place.size = L1.length := by
        have := T2.sz
        rw [hash_len] at this
        exact this
      rcases two with ⟨e, e'⟩ | ⟨e, e'⟩
      · refine relay_n (s := { s with heap := h1 }) (M := 31) ho1 ⟨hex.1, hex.2.1, hex.2.2⟩ rfl hrow sz2 T2.dm (by rw [m2, b4]; omega) once1 key1 (by omega) (by rw [e', size_20]) (.inr (.inl rfl)) (by rw [e', size_20]; decide) (by omega) end_
      · refine relay_n (s := { s with heap := h1 }) (M := 127) ho1 ⟨hex.1, hex.2.1, hex.2.2⟩ rfl hrow sz2 T2.dm (by rw [m2, b4]; omega) once1 key1 (by omega) (by rw [e', size_76]) (.inr (.inr rfl)) (by rw [e', size_76]; decide) (by omega) end_
    · rw [full, decide_eq_false hf]
      refine wp_if_neg (fun z => nomatch z) ?_
      refine wpAny_pure (q true h1 L1 es1 (ep + 1) t2 sb ⟨⟨_, ho1, ⟨hex.1, hex.2.1, hex.2.2⟩, rfl⟩, hrow, T2, once1, key1, by omega, by omega⟩ (fun z => absurd z hm) fun _ => hpm)
  by_cases hpl : t1.plain = true
  · exact wp_if_pos hpl (wpAny_bind (hashQ k _ 8 s hx.1 _ _ _ fun b => go b _ rfl))
  · exact wp_if_neg hpl (wpAny_bind (wpAny_pure (go true _ rfl)))
end
end Lv

/-! set comprehensions: what the set is and what adding does is told by two readings -/
namespace Lv
open PySem PySem.Spec PyProof.Rows L2
/-- a new empty set's object -/
abbrev freshSet (w : World) : Obj := { cls := .type "set", dict := none, data := .set #[] 0 (.fresh 0 0 (!w.params.followText "set-order")) }
/-- set.add(D, y) does what Add says -/
def AddR (Y : Cx) (Add : V → Hp → Addr → (Hp → Prop) → Prop) : Prop := ∀ (pins : List (Addr × Obj)) (s : Shared) (σ : L2.St) (H : Hp) (D : Addr) (y : V) (u : Value) (N : Hp → Prop) (E : Value → Shared → Prop),
  L2.Inv Y pins σ H s → RelV y u → Add y H D N → wpAny (model Y.prog Y.w) Y.A (call (.builtin "set.add") [.ref D, u]) (fun _ s' => ∃ H', L2.Inv Y pins σ H' s' ∧ N H') E s
/-- {elt for target in iter if ..} -/
def tScG (new : Addr → HO) (Add : V → Hp → Addr → (Hp → Prop) → Prop) (wi : TI) (g : TG) (tt : TT) (te : TE) (vs : List Nat) : TE := fun σ H Q => wi σ H fun J H1 => ∀ D, H1 D = none → ∃ W : Nat → Nat → Hp → Prop, (∃ m, W 0 m (upd H1 D (new D))) ∧
  ∀ i m H, W i m H → (J.stop i H ∧ Q (.ref D) H) ∨ (J.go i H ∧ ∃ N : Hp → Prop, (∀ H', N H' → ∃ m', m' < m ∧ W (i + 1) m' H') ∧ ∀ x H', J.yld i H x H' → g x (wipe σ vs) H' fun σ2 H2 => wipe σ2 vs = wipe σ vs ∧ tt σ2 H2 fun b H3 => if b = true then te σ2 H3 fun y H4 => Add y H4 D N else N H3)
section
variable {X : Cx} {new : Addr → HO} {Add : V → Hp → Addr → (Hp → Prop) → Prop}
theorem pe_scG {elt tg iter : Expr} {ifs : List Expr} {scope : Scope} {own : List (PySem.Str × Nat)} {pos : Pos} {wi : TI} {g : TG} {tt : TT} {te : TE} (hnew : ∀ (H : Hp) (h : Heap), ObjOk X.prog X.w H (h.push (freshSet X.w)) h.objs.size (new h.objs.size))
    (ha : ∀ (s : Shared) (H : Hp) (ce : Env) (fp : List Addr), AddR (X.blk s H scope ce fp) Add) (calm : X.calm = true) (nd : X.N.Nodup) (hi : PI X tg iter wi) (ok : BlkOk X.N X.env.scope scope own)
    (hg : ∀ (s : Shared) (H : Hp) (C : Addr) (cl : List (PySem.Str × Addr)) (fp : List Addr), PG (X.blk s H scope (compEnvC scope cl C X.env) fp) tg g) (ht : ∀ (s : Shared) (H : Hp) (C : Addr) (cl : List (PySem.Str × Addr)) (fp : List Addr), PTs (X.blk s H scope (compEnvC scope cl C X.env) fp) ifs tt)
    (he : ∀ (s : Shared) (H : Hp) (C : Addr) (cl : List (PySem.Str × Addr)) (fp : List Addr), PE (X.blk s H scope (compEnvC scope cl C X.env) fp) elt te) (hs : ∀ x, foldedSetIterable iter X.env x = pure x := by intro _; rfl) :
    PE X (.SetComp elt [⟨tg, iter, ifs, 0⟩] scope pos) (tScG new Add wi g tt te (own.map (·.2))) := by
  refine ⟨fun pins sA σ HA Q IA wish => ?_⟩
  suffices main : ∀ Qf : Value → Shared → Prop, (∀ u s', (∃ v H', L2.Inv X pins σ H' s' ∧ RelV v u ∧ Q v H') → Qf u s') → wpAny (model X.prog X.w) X.A (eval (.SetComp elt [⟨tg, iter, ifs, 0⟩] scope pos) X.env) Qf X.xe sA from main _ fun _ _ h => h
  intro Qf hQf
  rw [PpSet.eval_SetComp]
  have cellsOk : ∀ y ∈ scope.names, y.2 = .free → ∃ c, X.env.cells.lookup y.1 = some c := fun y hy e => (ok.free y hy e).elim (fun z => IA.ok.has _ (.inl z)) fun z => IA.ok.has _ (.inr z)
  refine wpAny_comprehension_free rfl hs (closure_ok cellsOk) ok.kind (fun y hy e => by rw [ok.uniq y hy, e]) (thn (hi.run pins sA σ HA _ IA wish) fun xv sB hx => thn hx fun itv sC hC => ?_)
  obtain ⟨it, fp, tn, J, HC, rfl, IC, T, stC, fC, todo⟩ := hC
  refine PpSet.newSet_ok (newEnv_comp ?_)
  obtain ⟨D, eD⟩ : ∃ D, D = sC.heap.objs.size := ⟨_, rfl⟩
  have freeD : HC D = none := IC.hok.fresh (Nat.le_of_eq eD.symm)
  obtain ⟨W, ⟨m0, wm0⟩, turn⟩ := todo D freeD
  obtain ⟨sD, eSD⟩ : ∃ sD : Shared, sD = { sC with heap := sC.heap.push (freshSet X.w) } := ⟨_, rfl⟩
  obtain ⟨HD, eHD⟩ : ∃ HD, HD = upd HC D (new D) := ⟨_, rfl⟩
  have heapD : sD.heap = sC.heap.push (freshSet X.w) := by rw [eSD]
  have ID : L2.Inv X pins σ HD sD := by
    rw [eSD, eHD]
    refine IC.laid (t' := sC.toks) (fun b o e => Heap.get?_push_of_some _ e) (by rw [eD]; exact Nat.le_refl _) ?_
    rw [eD]
    exact hnew _ _
  have fpD : ∀ b ∈ fp, FpOk X pins HD b ∧ b < sD.heap.objs.size := fun b hb => by
    obtain ⟨o, e, _⟩ := T.obj _ _ stC b hb
    have lt := Heap.lt_size e
    refine ⟨⟨?_, (fC b hb).2⟩, by rw [heapD, Heap.size_push]; exact Nat.lt_succ_of_lt lt⟩
    rw [eHD, upd_ne (by rw [eD]; exact Nat.ne_of_lt lt)]
    exact (fC b hb).1
  have stD : tn 0 sD.heap := T.keep _ _ _ stC fun b _ o e => by rw [heapD]; exact Heap.get?_push_of_some _ e
  rw [← eHD] at wm0
  rw [← eD]
  show codeAny _ _ (.compStart (.SetComp elt [⟨tg, iter, ifs, 0⟩] scope pos) 0 (.ref it) (.ref D) (compEnvC scope (cellsFrom ((({ sC with heap := sC.heap.push (freshSet X.w) } : Shared)).heap.objs.size + 1) scope.names (cloFrom X.env.cells scope.names [])) (({ sC with heap := sC.heap.push (freshSet X.w) } : Shared)).heap.objs.size X.env)) (compPost (model X.prog X.w) X.A X.xe none Qf (.ref D) (({ sC with heap := sC.heap.push (freshSet X.w) } : Shared)).heap.objs.size) { ({ sC with heap := sC.heap.push (freshSet X.w) } : Shared) with heap := pushCells (({ sC with heap := sC.heap.push (freshSet X.w) } : Shared).heap.push { cls := .type "dict", data := .dict #[] }) scope.names }
  rw [← eSD]
  have IE := block_start ID ok nd fpD
  have pg := hg sD HD sD.heap.objs.size (cellsFrom (sD.heap.objs.size + 1) scope.names (cloFrom X.env.cells scope.names [])) fp
  have pt := ht sD HD sD.heap.objs.size (cellsFrom (sD.heap.objs.size + 1) scope.names (cloFrom X.env.cells scope.names [])) fp
  have pe := he sD HD sD.heap.objs.size (cellsFrom (sD.heap.objs.size + 1) scope.names (cloFrom X.env.cells scope.names [])) fp
  have none_ : ∀ b ∈ fp, HD b = none := fun b hb => (fpD b hb).1.1
  obtain ⟨ce, ece⟩ : ∃ ce, ce = compEnvC scope (cellsFrom (sD.heap.objs.size + 1) scope.names (cloFrom X.env.cells scope.names [])) sD.heap.objs.size X.env := ⟨_, rfl⟩
  have loc : ce.locals = sD.heap.objs.size := by rw [ece]; rfl
  rw [← ece] at IE pg pt pe ⊢
  obtain ⟨sE, eSE⟩ : ∃ sE : Shared, sE = { sD with heap := pushCells (sD.heap.push { cls := .type "dict", data := .dict #[] }) scope.names } := ⟨_, rfl⟩
  rw [← eSE] at IE ⊢
  have stE : tn 0 sE.heap := T.keep _ _ _ stD fun b _ o e => by rw [eSE]; exact pushCells_keeps _ _ _ _ (Heap.get?_push_of_some _ e)
  have fixed : ∀ {σ' : L2.St} {H' : Hp} {s' : Shared}, L2.Inv (X.blk sD HD scope ce fp) [] σ' H' s' → (∀ b ∈ fp, H' b = none) → ∀ b ∈ fp, FpOk (X.blk sD HD scope ce fp) [] H' b := fun {_ _ _} I' hn b hb =>
    ⟨hn b hb, (I'.ok.exf b hb).1, I'.ok.exfs b hb, .inl hb, fun x c e => (I'.ok.exf b hb).2 x c e, fun p hp => by cases hp⟩
  have loop : codeAny (model X.prog X.w) X.A (.compLoop (.SetComp elt [⟨tg, iter, ifs, 0⟩] scope pos) 0 (.ref it) (.ref D) ce) (compPost (model X.prog X.w) X.A X.xe none Qf (.ref D) sD.heap.objs.size) sE := by
    refine PpSet.compLoopS_any (fun n s' => ∃ i H', L2.Inv (X.blk sD HD scope ce fp) [] (wipe σ (own.map (·.2))) H' s' ∧ tn i s'.heap ∧ (∀ b ∈ fp, H' b = none) ∧ W i n H') (fun n sF hF => ?_) m0 ⟨0, HD, IE, stE, none_, wm0⟩
    obtain ⟨i, HF, IF, stF, nF, wF⟩ := hF
    rcases turn i n HF wF with ⟨stop, done⟩ | ⟨go, N, later, step⟩
    · refine thnF (T.done (X.blk sD HD scope ce fp) rfl rfl rfl calm i [] sF _ HF (fun _ _ => False) IF (fixed IF nF) stF stop) fun r sG hG => ?_
      obtain ⟨rfl, IG⟩ := hG
      have IH : L2.Inv X pins σ HF sG := ID.call' (ch := fp) IG.os IG.base IG.hok IG.bare fun b hb => ⟨(fpD b hb).1.2.2.2.1, (fpD b hb).1.2.1, (fpD b hb).1.2.2.2.2.1, (fpD b hb).1.2.2.2.2.2⟩
      have nloc : HF sD.heap.objs.size = none := loc ▸ (show HF ce.locals = none from IG.free)
      obtain ⟨mm, hns, _⟩ := IG.loc
      have hns' : sG.heap.Ns sD.heap.objs.size mm := loc ▸ (show sG.heap.Ns ce.locals mm from hns)
      obtain ⟨f0, f1, f2, f3, f4, f5⟩ := ID.fpOk (Nat.le_refl _) nloc
      exact ⟨mm, hns', fun h2 sb => hQf _ _ ⟨.ref D, HF, IH.turned (t' := sG.toks) (fun b o hb e => (sb.2 b hb).trans e) f0 f1 f3 f4 f5, rfl, done⟩⟩
    · refine thnF (T.item (X.blk sD HD scope ce fp) rfl rfl rfl calm i [] sF _ HF (fun _ _ => False) IF (fixed IF nF) stF go) fun r sG hG => ?_
      obtain ⟨u, rfl, hG⟩ := hG
      refine thnF hG fun _ sH hH => ?_
      obtain ⟨x, HH, IH, rx, yx, stH, nH⟩ := hH
      refine thnF (pg.run _ sH _ HH x u _ (IH.pinned (fixed IH nH) (T.obj _ _ stH)) rx (step x HH yx)) fun _ sI hI => ?_
      obtain ⟨σI, HI, II, wI, qI⟩ := hI
      refine thnF (pt.run _ sI σI HI _ II qI) fun b sJ hJ => ?_
      obtain ⟨HJ, IJ, qJ⟩ := hJ
      have next : ∀ {s' : Shared} {H' : Hp}, L2.Inv (X.blk sD HD scope ce fp) ([] ++ pinsAt fp sH.heap) σI H' s' → N H' → ∃ m, m < n ∧ ∃ i H', L2.Inv (X.blk sD HD scope ce fp) [] (wipe σ (own.map (·.2))) H' s' ∧ tn i s'.heap ∧ (∀ b ∈ fp, H' b = none) ∧ W i m H' := fun {s' H'} I' hN => by
        obtain ⟨m', lt, w'⟩ := later H' hN
        have pinned : ∀ b ∈ fp, ∀ o, sH.heap.get? b = some o → s'.heap.get? b = some o ∧ H' b = none := fun b hb o e => by
          have z := I'.pin (b, o) (List.mem_append_right _ (List.mem_append_right _ (mem_pinsAt hb e)))
          exact ⟨z.1, z.2.1⟩
        refine ⟨m', lt, i + 1, H', (I'.unpinned (pins := [])).weak (by rw [← wI, wipe_length]) (fun j v e => ?_), T.keep _ _ _ stH fun b hb o e => (pinned b hb o e).1, fun b hb => ?_, w'⟩
        · rw [← wI] at e
          exact (wipe_some e).1
        · obtain ⟨o, e, _⟩ := T.obj _ _ stH b hb
          exact (pinned b hb o e).2
      cases b with
      | false =>
        rw [if_neg Bool.false_ne_true] at qJ ⊢
        exact next IJ qJ
      | true =>
        rw [if_pos rfl] at qJ ⊢
        refine thnF (pe.run _ sJ σI HJ _ IJ qJ) fun z sK hK => ?_
        obtain ⟨yv, HK, IK, rK, aK⟩ := hK
        refine wpAny_mono (ha sD HD ce fp _ sK σI HK D yv z N _ IK rK aK) (fun _ sL hL => ?_) fun _ _ e => e
        obtain ⟨HL, IL, nL⟩ := hL
        exact next IL nL
  exact PpSet.codeAny_compStart_set loop (T.self X.A 0 _ _ _ stE loop)
end
end Lv

/-! sets of nested tuples as tracked things; set comprehensions of them, len -/
namespace Lv
open PySem PySem.Spec PyProof.Rows L2
mutual
/-- the value is the nested key -/
inductive NkV (K : PySem.W.Frag) (H : Hp) : NestedKey → V → Prop
  | int (i : Int) : NkV K H (.num i) (.int i)
  | str (z : Str) : NkV K H (.text z) (.str z)
  | tup {a : Addr} {xs : List V} {ks : List NestedKey} : SqT K H a xs → NkAll K H ks xs → NkV K H (.tup ks) (.ref a)
inductive NkAll (K : PySem.W.Frag) (H : Hp) : List NestedKey → List V → Prop
  | nil : NkAll K H [] []
  | cons {k : NestedKey} {v : V} {ks : List NestedKey} {vs : List V} : NkV K H k v → NkAll K H ks vs → NkAll K H (k :: ks) (v :: vs)
end
mutual
theorem NkV.mono {K : PySem.W.Frag} {H H' : Hp} (t : ∀ a xs, SqT K H a xs → SqT K H' a xs) : ∀ {k : NestedKey} {v : V}, NkV K H k v → NkV K H' k v
  | _, _, .int i => .int i
  | _, _, .str z => .str z
  | _, _, .tup h r => .tup (t _ _ h) (NkAll.mono t r)
theorem NkAll.mono {K : PySem.W.Frag} {H H' : Hp} (t : ∀ a xs, SqT K H a xs → SqT K H' a xs) : ∀ {ks : List NestedKey} {vs : List V}, NkAll K H ks vs → NkAll K H' ks vs
  | _, _, .nil => .nil
  | _, _, .cons h r => .cons (NkV.mono t h) (NkAll.mono t r)
end
section
variable {X : Cx} {pins : List (Addr × Obj)} {σ : L2.St} {H : Hp} {s : Shared}
mutual
theorem nk_is (I : L2.Inv X pins σ H s) : ∀ {k : NestedKey} {v : V} {u : Value}, NkV X.K H k v → RelV v u → NestedIs s.heap k u
  | _, _, _, .int i, r => by obtain ⟨t, rfl⟩ := r; exact .int _ _
  | _, _, _, .str z, r => by obtain ⟨t, rfl⟩ := r; exact .text _ _
  | _, _, _, .tup h a, r => by
    cases r
    obtain ⟨its, rv, ⟨o, ho, hc, n, hd⟩, _⟩ := I.tuple h
    exact .tup ho hc hd (by simpa using nks_are I a rv)
theorem nks_are (I : L2.Inv X pins σ H s) : ∀ {ks : List NestedKey} {vs : List V} {us : List Value}, NkAll X.K H ks vs → Vals vs us → NestedAll s.heap ks us
  | _, _, _, .nil, r => by cases r; exact .nil
  | _, _, _, .cons h a, r => by
    cases r with
    | cons r1 r2 => exact .cons (nk_is I h r1) (nks_are I a r2)
end
end
/-- the key stands at b -/
def KeyAt (K : PySem.W.Frag) (H : Hp) (k : NestedKey) (b : Addr) : Prop := NkV K H k (.ref b) ∧ k.depth ≤ 8
theorem KeyAt.mono {K : PySem.W.Frag} {H H' : Hp} {k : NestedKey} {b : Addr} (t : ∀ a xs, SqT K H a xs → SqT K H' a xs) (h : KeyAt K H k b) : KeyAt K H' k b := ⟨h.1.mono t, h.2⟩
/-- the set at a, its members aside -/
def Set0 (w : World) (h : Heap) (a : Addr) (L : Mems) : Prop := ∃ (es : Array (Int × Value)) (ep : Nat) (t : SetTable), (∃ o, h.get? a = some o ∧ o.ExactSet ∧ o.data = .set es ep t) ∧ es.toList = rowN w L ∧ TabOk t (hashN w L) ∧ (L.map (·.1)).Nodup ∧ L.length * 5 < t.mask * 3 ∧ L.length < 64
def SetNO (w : World) (a : Addr) (L : Mems) : HO := .ext fun h => Set0 w h a L
theorem Set0.full {P : Program} {w : World} {h : Heap} {a : Addr} {L : Mems} (R : Set0 w h a L) (k : ∀ p ∈ L, (NK P w).is h p.1 p.2) : ∃ es ep t, SetN P w h a L es ep t := by
  obtain ⟨es, ep, t, h1, h2, h3, h4, h5, h6⟩ := R
  exact ⟨es, ep, t, h1, h2, h3, h4, k, h5, h6⟩
theorem SetN.set0 {P : Program} {w : World} {h : Heap} {a : Addr} {L : Mems} {es : Array (Int × Value)} {ep : Nat} {t : SetTable} (R : SetN P w h a L es ep t) : Set0 w h a L := ⟨es, ep, t, R.obj, R.row, R.tab, R.once, R.free, R.small⟩
theorem setNO_ok {P : Program} {w : World} {H : Hp} {h : Heap} {a : Addr} {L : Mems} (R : Set0 w h a L) : ObjOk P w H h a (SetNO w a L) := by
  obtain ⟨es, ep, t, ⟨o, ho, r⟩, q⟩ := id R
  refine ⟨R, ⟨o, ho⟩, fun h1 h2 p k => ?_⟩
  obtain ⟨es', ep', t', ⟨o', ho', r'⟩, q'⟩ := (show Set0 w h1 a L from p)
  exact ⟨es', ep', t', ⟨o', k o' ho', r'⟩, q'⟩
theorem setNO_new (P : Program) (w : World) (H : Hp) (h : Heap) : ObjOk P w H (h.push (freshSet w)) h.objs.size (SetNO w h.objs.size []) := by
  refine setNO_ok ⟨#[], 0, _, ⟨_, Heap.get?_push_size _ rfl, ⟨rfl, rfl, rfl⟩, rfl⟩, rfl, ?_, List.nodup_nil, (show 0 * 5 < 7 * 3 by decide), by decide⟩
  refine ⟨?_, rfl, rfl, .inl rfl, (fun x hx => nomatch hx), (fun i x j e => nomatch e)⟩
  show List.Pairwise _ []
  exact List.Pairwise.nil
/-- set.add of a nested tuple -/
def AddN (K : PySem.W.Frag) (w : World) : V → Hp → Addr → (Hp → Prop) → Prop := fun y H D N => ∃ (b : Addr) (k : NestedKey) (L : Mems), y = .ref b ∧ KeyAt K H k b ∧ H D = some (SetNO w D L) ∧ (∀ p ∈ L, KeyAt K H p.1 p.2) ∧ L.length + 1 < 64 ∧
  ∀ L' : Mems, (k ∈ L.map (·.1) → L' = L) → (k ∉ L.map (·.1) → L'.Perm ((k, b) :: L)) → N (upd H D (SetNO w D L'))
theorem addR_n {Y : Cx} (hu : Y.A.units + 16 < cLine) : AddR Y (AddN Y.K Y.w) := by
  intro pins s σ H D y u N E I ry h
  obtain ⟨b, k, L, rfl, hk, hD, hL, more, q⟩ := h
  cases ry
  have isK : ∀ {k : NestedKey} {b : Addr}, KeyAt Y.K H k b → (NK Y.prog Y.w).is s.heap k b := fun h => ⟨nk_is I h.1 rfl, h.2⟩
  obtain ⟨es, ep, t, R⟩ := Set0.full (P := Y.prog) (show Set0 Y.w s.heap D L from (I.hok D _ hD).1) fun p hp => isK (hL p hp)
  obtain ⟨o, ho, hex, hd⟩ := R.obj
  refine wpAny_call_entry (T := "set") F.slot_set_add ⟨o, ho, hex.1⟩ F.entry_set_add ?_ (F.args_set_add_2 _ _)
  unfold Builtin.«set.add» Builtin.Frozenset.oneOther
  simp only [List.isEmpty_nil, bind_assoc]
  unfold Builtin.Frozenset.addrOf setAdd
  refine wpAny_bind (wpAny_pure (wpAny_bind (wpAny_pure (wpAny_bind (wpAny_holding (wpAny_bind ((NK Y.prog Y.w).pyHash (show Y.A.in1.units + 8 < cLine by rw [Around.in1_units]; omega) (isK hk) ?_)))))))
  refine add_n (s := { s with toks := s.toks + k.draws }) (k := k) ⟨R.obj, R.row, R.tab, R.once, R.key, R.free, R.small⟩ (isK hk) (show Y.A.in1.units + 8 < cLine by rw [Around.in1_units]; omega) more fun c h' L' es' ep' t' sb R' l1 l2 => ?_
  show wpAny _ _ (ret Value.none) _ _ _
  refine wpAny_pure ⟨_, rfl, upd H D (SetNO Y.w D L'), ?_, q L' l1 l2⟩
  obtain ⟨o', ho', _⟩ := R'.obj
  exact I.write (e := D) (t' := s.toks + k.draws) (by rw [hD]; trivial) (.inl rfl) (fun b u hb hu => (sb.2 b hb).trans hu) ⟨o', ho'⟩ (setNO_ok R'.set0)
/-- len of such a set -/
def rLenN (w : World) : List V → Hp → VK → Prop := fun xs H Q => ∃ (a : Addr) (L : Mems), xs = [.ref a] ∧ H a = some (SetNO w a L) ∧ Q (.int L.length) H
theorem call_lenN {X : Cx} : CallR X (.builtin "len") (rLenN X.w) := by
  intro pins s σ H xs us Q I r h
  obtain ⟨a, L, rfl, ha, q⟩ := h
  obtain ⟨u, rfl, ru⟩ := r.one
  cases (show u = Value.ref a from ru)
  obtain ⟨es, ep, t, ⟨o, ho, hex, hd⟩, hr, hT, _, hf, hs⟩ := (show Set0 X.w s.heap a L from (I.hok a _ ha).1)
  have hl : es.size = L.length := by rw [← Array.length_toList, hr, row_len]
  have sz := hT.sz
  rw [hash_len] at sz
  refine call_len_set ho hex hd (fits_of (by omega) hT.dm (by omega)) (by omega) ⟨.int L.length, H, I.tok _, ⟨s.toks + 1, by rw [hl]⟩, q⟩
end Lv

/-! set comprehensions walked: the members' keys -/
namespace Lv
open PySem PySem.Spec PyProof.Rows L2
/-- the body of a set comprehension's reading, behind what it walks -/
def ScB (new : Addr → HO) (Add : V → Hp → Addr → (Hp → Prop) → Prop) (J : It) (g : TG) (tt : TT) (te : TE) (vs : List Nat) (σ : L2.St) (Q : VK) (H1 : Hp) : Prop := ∀ D, H1 D = none → ∃ W : Nat → Nat → Hp → Prop, (∃ m, W 0 m (upd H1 D (new D))) ∧
  ∀ i m H, W i m H → (J.stop i H ∧ Q (.ref D) H) ∨ (J.go i H ∧ ∃ N : Hp → Prop, (∀ H', N H' → ∃ m', m' < m ∧ W (i + 1) m' H') ∧ ∀ x H', J.yld i H x H' → g x (wipe σ vs) H' fun σ2 H2 => wipe σ2 vs = wipe σ vs ∧ tt σ2 H2 fun b H3 => if b = true then te σ2 H3 fun y H4 => Add y H4 D N else N H3)
theorem tSc_eq {new : Addr → HO} {Add : V → Hp → Addr → (Hp → Prop) → Prop} {wi : TI} {g : TG} {tt : TT} {te : TE} {vs : List Nat} {σ : L2.St} {H : Hp} {Q : VK} : tScG new Add wi g tt te vs σ H Q = wi σ H fun J H1 => ScB new Add J g tt te vs σ Q H1 := rfl
section
variable {new : Addr → HO} {Add : V → Hp → Addr → (Hp → Prop) → Prop} {J : It} {n : Nat} {G : Hp → Prop} {Y : Nat → Hp → V → Hp → Prop} {g : TG} {tt : TT} {te : TE} {vs : List Nat} {σ : L2.St} {H1 : Hp} {Q : VK}
theorem sc_it (w : Walk J n G Y) (Pv : Addr → Nat → Hp → Prop) (h0 : ∀ D, H1 D = none → Pv D 0 (upd H1 D (new D))) (hG : ∀ D i H, i ≤ n → Pv D i H → G H)
    (hs : ∀ D i x H H', H1 D = none → i < n → Pv D i H → Y i H x H' → g x (wipe σ vs) H' fun σ2 H2 => wipe σ2 vs = wipe σ vs ∧ tt σ2 H2 fun b H3 => if b = true then te σ2 H3 fun y H4 => Add y H4 D (Pv D (i + 1)) else Pv D (i + 1) H3)
    (hd : ∀ D H, H1 D = none → Pv D n H → Q (.ref D) H) : ScB new Add J g tt te vs σ Q H1 := by
  intro D hD
  refine ⟨fun i m H => m = n - i ∧ i ≤ n ∧ Pv D i H, ⟨n, rfl, Nat.zero_le _, h0 D hD⟩, fun i m H h => ?_⟩
  obtain ⟨rfl, hi, p⟩ := h
  by_cases e : i = n
  · subst e
    exact .inl ⟨w.stops H (hG D _ H hi p), hd D H hD p⟩
  · have lt : i < n := by omega
    exact .inr ⟨w.goes i H lt (hG D i H hi p), Pv D (i + 1), fun H' p' => ⟨n - (i + 1), by omega, rfl, by omega, p'⟩, fun x H' y => hs D i x H H' hD lt p (w.yields i H x H' lt (hG D i H hi p) y)⟩
/-- the members of a set of nested tuples: their keys are those of the elements -/
structure Keys (kf : Nat → NestedKey) (i : Nat) (L : Mems) : Prop where
  sub : ∀ p ∈ L, ∃ j, j < i ∧ kf j = p.1
  all : ∀ j, j < i → kf j ∈ L.map (·.1)
  once : (L.map (·.1)).Nodup
theorem Keys.zero {kf : Nat → NestedKey} : Keys kf 0 [] := ⟨(fun p h => nomatch h), (fun j h => absurd h (Nat.not_lt_zero j)), List.nodup_nil⟩
theorem Keys.next {kf : Nat → NestedKey} {i : Nat} {L L' : Mems} {b : Addr} (k : Keys kf i L) (h1 : kf i ∈ L.map (·.1) → L' = L) (h2 : kf i ∉ L.map (·.1) → L'.Perm ((kf i, b) :: L)) : Keys kf (i + 1) L' := by
  by_cases h : kf i ∈ L.map (·.1)
  · rw [h1 h]
    refine ⟨fun p hp => let ⟨j, lt, e⟩ := k.sub p hp; ⟨j, by omega, e⟩, fun j hj => ?_, k.once⟩
    by_cases e : j = i
    · rw [e]
      exact h
    · exact k.all j (by omega)
  · have pm := h2 h
    have pk := pm.map (·.1)
    refine ⟨fun p hp => ?_, fun j hj => ?_, pk.nodup_iff.mpr (List.nodup_cons.mpr ⟨h, k.once⟩)⟩
    · rcases List.mem_cons.mp (pm.mem_iff.mp hp) with rfl | hp
      · exact ⟨i, by omega, rfl⟩
      · obtain ⟨j, lt, e⟩ := k.sub p hp
        exact ⟨j, by omega, e⟩
    · refine pk.mem_iff.mpr ?_
      by_cases e : j = i
      · rw [e]
        exact .head _
      · exact .tail _ (k.all j (by omega))
theorem Keys.len {kf : Nat → NestedKey} {i : Nat} {L : Mems} (k : Keys kf i L) : L.length ≤ i := by
  have h : ∀ (l : List NestedKey) (m : List Nat), l.Nodup → (∀ x ∈ l, ∃ j ∈ m, kf j = x) → l.length ≤ m.length := by
    intro l
    induction l with
    | nil => intro m _ _; exact Nat.zero_le _
    | cons x l ih =>
      intro m nd h
      obtain ⟨nx, nl⟩ := List.nodup_cons.mp nd
      obtain ⟨j, hj, ej⟩ := h x (.head _)
      have := ih (m.erase j) nl fun y hy => by
        obtain ⟨j', hj', e'⟩ := h y (.tail _ hy)
        refine ⟨j', (List.mem_erase_of_ne fun e => ?_).mpr hj', e'⟩
        rw [e, ej] at e'
        rw [e'] at nx
        exact nx hy
      rw [List.length_erase_of_mem hj] at this
      have pos := List.length_pos_of_mem hj
      rw [List.length_cons]
      omega
  have := h (L.map (·.1)) (List.range i) k.once fun x hx => by
    obtain ⟨p, hp, rfl⟩ := List.mem_map.mp hx
    obtain ⟨j, lt, e⟩ := k.sub p hp
    exact ⟨j, List.mem_range.mpr lt, e⟩
  rw [List.length_map, List.length_range] at this
  exact this
theorem sqt_ext {K : PySem.W.Frag} {H : Hp} {D a : Addr} {φ : Heap → Prop} {o : HO} {xs : List V} (hD : H D = some (.ext φ)) (h : SqT K H a xs) : SqT K (upd H D o) a xs := by
  rcases h with (h | ⟨u, h⟩) | h
  · refine .inl (.inl ?_)
    rw [upd_ne fun e => by rw [e, hD] at h; cases h]
    exact h
  · refine .inl (.inr ⟨u, ?_⟩)
    rw [upd_ne fun e => by rw [e, hD] at h; cases h]
    exact h
  · exact .inr h
theorem sc_nest {K : PySem.W.Frag} {wd : World} (w : Walk J n G Y) (kf : Nat → NestedKey) (hn : n < 63) (hG : ∀ H, Same H1 H → G H)
    (hs : ∀ i x H H', i < n → Same H1 H → Y i H x H' → ∀ R : VK, (∀ b H4, Same H H4 → KeyAt K H4 (kf i) b → R (.ref b) H4) → g x (wipe σ vs) H' fun σ2 H2 => wipe σ2 vs = wipe σ vs ∧ tt σ2 H2 fun b H3 => b = true ∧ te σ2 H3 R)
    (mono : ∀ (x : V) (σ' : L2.St) (H' : Hp) (A B : L2.St → Hp → Prop), (∀ s h, A s h → B s h) → g x σ' H' A → g x σ' H' B)
    (monoT : ∀ (σ' : L2.St) (H' : Hp) (A B : Bool → Hp → Prop), (∀ b h, A b h → B b h) → tt σ' H' A → tt σ' H' B)
    (hd : ∀ H D L, Same H1 H → H1 D = none → H D = some (SetNO wd D L) → Keys kf n L → Q (.ref D) H) : ScB (fun a => SetNO wd a []) (AddN K wd) J g tt te vs σ Q H1 := by
  have sq : ∀ {H H' : Hp} {a : Addr} {xs : List V}, Same H H' → SqT K H a xs → SqT K H' a xs := fun s h => Evl.ex_t s h
  refine sc_it w (fun D i H => Same H1 H ∧ ∃ L : Mems, H D = some (SetNO wd D L) ∧ Keys kf i L ∧ ∀ p ∈ L, KeyAt K H p.1 p.2) (fun D hD => ⟨same_new hD, [], upd_same, .zero, (fun p h => nomatch h)⟩) (fun D i H _ h => hG H h.1) ?_ (fun D H hD h => let ⟨s, L, f, k, _⟩ := h; hd H D L s hD f k)
  rintro D i x H H' hD hi ⟨hS, L, hL, hK, hA⟩ hy
  have := hs i x H H' hi hS hy (fun y H4 => AddN K wd y H4 D fun H => Same H1 H ∧ ∃ L : Mems, H D = some (SetNO wd D L) ∧ Keys kf (i + 1) L ∧ ∀ p ∈ L, KeyAt K H p.1 p.2) (fun b H4 s4 kb => ?_)
  · refine mono _ _ _ _ _ ?_ this
    rintro s h ⟨e, h2⟩
    refine ⟨e, monoT _ _ _ _ ?_ h2⟩
    rintro b h3 ⟨rfl, h4⟩
    rw [if_pos rfl]
    exact h4
  · have hD4 := s4 _ _ hL
    have up : ∀ {L' : Mems} {p : NestedKey × Addr}, KeyAt K H4 p.1 p.2 → KeyAt K (upd H4 D (SetNO wd D L')) p.1 p.2 := fun h => h.mono fun a xs t => sqt_ext hD4 t
    have old : ∀ p ∈ L, KeyAt K H4 p.1 p.2 := fun p hp => (hA p hp).mono fun a xs t => sq s4 t
    refine ⟨b, kf i, L, rfl, kb, hD4, old, by have := hK.len; omega, fun L' h1 h2 => ⟨same_mut (hS.trans s4) hD, L', upd_same, hK.next h1 h2, fun p hp => up ?_⟩⟩
    by_cases h : kf i ∈ L.map (·.1)
    · rw [h1 h] at hp
      exact old p hp
    · rcases List.mem_cons.mp ((h2 h).mem_iff.mp hp) with rfl | hp
      · exact kb
      · exact old p hp
/-- how many members: as many as elements just if no key comes twice -/
theorem Keys.count {kf : Nat → NestedKey} {n : Nat} {L : Mems} (k : Keys kf n L) : (L.length = n) ↔ ((List.range n).map kf).Nodup := by
  have same : ∀ x, x ∈ L.map (·.1) ↔ x ∈ (List.range n).map kf := fun x => by
    constructor
    · intro hx
      obtain ⟨p, hp, rfl⟩ := List.mem_map.mp hx
      obtain ⟨j, lt, e⟩ := k.sub p hp
      exact List.mem_map.mpr ⟨j, List.mem_range.mpr lt, e⟩
    · intro hx
      obtain ⟨j, hj, rfl⟩ := List.mem_map.mp hx
      exact k.all j (List.mem_range.mp hj)
  have ge : ∀ {l m : List NestedKey}, l.Nodup → (∀ x ∈ l, x ∈ m) → l.length ≤ m.length := by
    intro l
    induction l with
    | nil => intro m _ _; exact Nat.zero_le _
    | cons x l ih =>
      intro m nd h
      obtain ⟨nx, nl⟩ := List.nodup_cons.mp nd
      have hx := h x (.head _)
      have := ih (m := m.erase x) nl fun y hy => (List.mem_erase_of_ne (show y ≠ x from fun e => nx (e ▸ hy))).mpr (h y (.tail _ hy))
      rw [List.length_erase_of_mem hx] at this
      have pos := List.length_pos_of_mem hx
      rw [List.length_cons]
      omega
  have lm : ((List.range n).map kf).length = n := by simp
  constructor
  · intro e
    have small : ∀ (m : List NestedKey), (∀ x ∈ L.map (·.1), x ∈ m) → m.length ≤ L.length → m.Nodup := by
      have key : ∀ (l m : List NestedKey), l.Nodup → (∀ x ∈ l, x ∈ m) → m.length ≤ l.length → m.Nodup := by
        intro l
        induction l with
        | nil =>
          intro m _ _ h
          rw [List.length_eq_zero_iff.mp (Nat.le_zero.mp h)]
          exact List.nodup_nil
        | cons x l ih =>
          intro m nd h hl
          obtain ⟨nx, nl⟩ := List.nodup_cons.mp nd
          have hx := h x (.head _)
          have r := ih (m.erase x) nl (fun y hy => (List.mem_erase_of_ne (show y ≠ x from fun e => nx (e ▸ hy))).mpr (h y (.tail _ hy))) (by rw [List.length_erase_of_mem hx]; rw [List.length_cons] at hl; omega)
          have pm := List.perm_cons_erase hx
          refine pm.nodup_iff.mpr (List.nodup_cons.mpr ⟨fun hm => ?_, r⟩)
          have := ge (l := x :: l) (m := m.erase x) nd fun y hy => by
            rcases List.mem_cons.mp hy with rfl | hy
            · exact hm
            · exact (List.mem_erase_of_ne (show y ≠ x from fun e => nx (e ▸ hy))).mpr (h y (.tail _ hy))
          rw [List.length_erase_of_mem hx] at this
          have pos := List.length_pos_of_mem hx
          omega
      exact fun m h hl => key (L.map (·.1)) m k.once h (by rw [List.length_map]; exact hl)
    exact small _ (fun x hx => (same x).mp hx) (by rw [lm, e]; exact Nat.le_refl _)
  · intro nd
    have h1 := ge k.once fun x hx => (same x).mp hx
    have h2 := ge nd fun x hx => (same x).mpr hx
    rw [List.length_map] at h1 h2
    rw [List.length_map, List.length_range] at h1 h2
    omega
end
end Lv

/-! sorted of tuples and lists of nested data -/
namespace Lv
open PySem PySem.Spec PyProof.Rows L2 PySem.W PySem.Calls
section
variable {P : Program} {w : World} {A : Around} {E : Value → Shared → Prop} {s : Shared}
/-- the items of a tuple, collected -/
theorem collect_tp {l : Addr} {vs : List Value} {Q : List Value → Shared → Prop} (hl : s.heap.IsTuple l vs.toArray) (hz : vs.length ≤ sizeLine)
    (q : Q vs { s with heap := (s.heap.push (seqObj "list" #[] 0)).update s.heap.objs.size (Obj.mapSeq (· ++ vs.toArray)) }) : wpAny (model P w) A (collect (.ref l)) Q E s := by
  obtain ⟨o, hg, hc, n, hd⟩ := hl
  unfold collect
  refine wpAny_bind (wpAny_runValue (codeAny_builtin entry_proto_collect' ?_))
  show wpAny _ _ (do again (.builtin "list.__iadd__" ⟨[← newList [], .ref l], []⟩)) _ _ s
  refine wpAny_bind (wpAny_newList (wpAny_pure ⟨Code.quiet_builtin _ (by decide +kernel), codeAny_builtin entry_list_iadd' ?_⟩) (Nat.zero_le _))
  show wpAny _ _ (Builtin.List.listExtendWith (.ref s.heap.objs.size) (.ref l) (.ref s.heap.objs.size)) _ _ { s with heap := s.heap.push (seqObj "list" #[] 0) }
  unfold Builtin.List.listExtendWith
  have hg1 : (s.heap.push (seqObj "list" #[] 0)).get? l = some o := Heap.get?_push_of_some _ hg
  refine wpAny_bind (wpAny_typeOf (T := "tuple") ⟨o, hg1, hc⟩ ?_)
  have yes : (Value.type "tuple" == Value.type "tuple") = true := by rfl
  rw [if_pos (by rw [yes]; simp)]
  refine wpAny_bind (listItems_at hg1 hd (wpAny_bind (listItems_at (xs := #[]) (n := 0) (Heap.get?_push_size _ rfl) rfl ?_)))
  rw [if_neg (by simp)]
  refine wpAny_bind (listUpdate_at (xs := #[]) (n := 0) (Heap.get?_push_size _ rfl) rfl (wpAny_pure ?_) (Nat.zero_le _) (by show (#[] ++ vs.toArray).size ≤ sizeLine + 1; simp; omega))
  show wpAny (model P w) A (do
      let o ← load s.heap.objs.size
      match o.data with
      | .seq xs _ => pure xs.toList
      | _ => unsupported "internal:collect") Q E { s with heap := (s.heap.push (seqObj "list" #[] 0)).update s.heap.objs.size (Obj.mapSeq (· ++ vs.toArray)) }
  refine wpAny_bind (wpAny_load (get?_update_seq (Heap.get?_push_size _ rfl) _) ?_)
  show wpAny _ _ (pure ((#[] : Array Value) ++ vs.toArray).toList) Q E _
  rw [show ((#[] : Array Value) ++ vs.toArray).toList = vs by simp]
  exact wpAny_pure q
/-- sorted(tuple, ..) is list.sort(..) of a new list of its items -/
theorem sortT_of {l : Addr} {vs : List Value} {kw : List (Str × Value)} {Q : Value → Shared → Prop} (hl : s.heap.IsTuple l vs.toArray) (hz : vs.length ≤ sizeLine) (a1 : argsOk "sorted" ⟨[.ref l], kw⟩) (a2 : ∀ x, argsOk "list.sort" ⟨[.ref x], kw⟩)
    (body : ∀ E1 : Value → Shared → Prop, wpAny (model P w) A.in1.in1 (Builtin.«list.sort» ⟨[.ref (s.heap.objs.size + 1)], kw⟩) (fun f s1 => f = .done (.ret .none) ∧ Q (.ref (s.heap.objs.size + 1)) s1) E1 { s with heap := copyHeap s.heap vs }) :
    wpAny (model P w) A (call (.builtin "sorted") [.ref l] kw) Q E s := by
  refine call_function_entry_kw kind_sorted plain_sorted entry_sorted a1 ?_
  unfold Builtin.«sorted»
  refine wpAny_bind (m := checkCount "sorted" 1 1 _) (wpAny_pure (wpAny_bind (collect_tp hl hz (wpAny_bind (wpAny_newList ?_ hz)))))
  have at_ : ((s.heap.push (seqObj "list" #[] 0)).update s.heap.objs.size (Obj.mapSeq (· ++ vs.toArray))).objs.size = s.heap.objs.size + 1 := by rw [Heap.size_update, size_push']
  show wpAny _ _ _ _ _ { s with heap := copyHeap s.heap vs }
  rw [at_]
  refine wpAny_bind (wpAny_holding (wpAny_call_entry_kw slot_list_sort ⟨_, copyHeap_at s.heap vs, rfl⟩ entry_list_sort ?_ (a2 _)))
  refine wpAny_mono (body _) (fun f s1 h => ?_) fun _ _ e => e
  obtain ⟨rfl, h⟩ := h
  exact ⟨_, rfl, wpAny_pure ⟨_, rfl, h⟩⟩
end
/-- values and what they read as, in the order of the data -/
def sortP (ps : List (V × PyData)) : List (V × PyData) := ps.mergeSort (dataLe false (·.2))
/-- sorted(xs), xs a tuple or a list of alike data -/
def rSortD (K : PySem.W.Frag) : List V → Hp → VK → Prop := fun xs H Q => ∃ (a : Addr) (ps : List (V × PyData)), xs = [.ref a] ∧ (SqL K H a (ps.map (·.1)) ∨ SqT K H a (ps.map (·.1))) ∧ (∀ p ∈ ps, Dp K H p.1 p.2 ∧ p.2.depth ≤ 8) ∧ AllAlike (ps.map (·.2)) ∧ Sortable (ps.map (·.2)) ∧
  ∀ p, H p = none → Q (.ref p) (upd H p (.lst ((sortP ps).map (·.1))))
theorem vals_each : ∀ {ps : List (V × PyData)} {us : List Value}, Vals (ps.map (·.1)) us → EachIs (fun u p => RelV p.1 u) us ps
  | [], _, .nil => .nil
  | _ :: _, _, .cons r t => .cons r (vals_each t)
theorem each_vals : ∀ {ps : List (V × PyData)} {us : List Value}, EachIs (fun u p => RelV p.1 u) us ps → Vals (ps.map (·.1)) us
  | _, _, .nil => .nil
  | _, _, .cons r t => .cons r (each_vals t)
theorem cr_sortD {X : Cx} (hu : X.A.units + 16 < cLine) : CallR X (.builtin "sorted") (rSortD X.K) := by
  intro pins s σ H xs us Q I r h
  obtain ⟨a, ps, rfl, hs, hd, al, so, q⟩ := h
  obtain ⟨u, rfl, ru⟩ := r.one
  cases (show u = Value.ref a from ru)
  have main : ∀ (vs : List Value), Vals (ps.map (·.1)) vs → ps.length ≤ sizeLine → (s.heap.IsList a vs.toArray ∨ s.heap.IsTuple a vs.toArray) → wpAny (model X.prog X.w) X.A (call (.builtin "sorted") [.ref a]) (EP X pins σ Q) X.xe s := by
    intro vs rv hz hl
    have e := vals_each rv
    have er : EachIs (fun v (b : V × PyData) => ∃ as, Reads s.heap v b.2 as) vs ps := by
      have : EachIs (fun v (b : V × PyData) => RelV b.1 v ∧ b ∈ ps) vs ps := each_mem e
      exact this.mono fun v b hb => Dp.reads I _ _ _ (hd b hb.2).1 hb.1
    have bound : ∀ b ∈ ps, X.A.units + 2 + b.2.depth < cLine := fun b hb => by have := (hd b hb).2; omega
    have fin : ∀ out : List Value, out.length = ps.length → EachIs (fun u (p : V × PyData) => RelV p.1 u) out (ps.mergeSort (dataLe false (·.2))) → EP X pins σ Q (.ref (s.heap.objs.size + 1)) { s with heap := sortedAll s.heap vs (List.toArray out) } := by
      intro out ho eo
      have vo : Vals ((sortP ps).map (·.1)) out := each_vals eo
      have free : H (s.heap.objs.size + 1) = none := I.hok.fresh (Nat.le_succ _)
      obtain ⟨c, hc⟩ := sortedAll_at s.heap vs (List.toArray out)
      refine ⟨.ref (s.heap.objs.size + 1), upd H (s.heap.objs.size + 1) (.lst ((sortP ps).map (·.1))), I.laid (t' := s.toks) (fun b o e => sortedAll_old e) (Nat.le_succ _) ⟨?_, out, c, vo, hc⟩, rfl, q _ free⟩
      rw [vo.length, ho]
      exact hz
    rcases hl with hl | hl
    · exact sorted_data (enc := fun b : V × PyData => b.2) hl e er al so hz bound fin
    · have er1 : EachIs (fun v (b : V × PyData) => ∃ as, Reads (sortingHeap (copyHeap s.heap vs) (s.heap.objs.size + 1) vs) v b.2 as) vs ps := er.mono fun _ _ h => let ⟨as, r⟩ := h; ⟨as, Reads.keeps (fun _ _ => sorting_copy_old) r⟩
      refine sortT_of hl (by rw [e.length]; exact hz) (args_sorted1 _) (fun _ => args_list_sort _) fun _ => ?_
      refine list_sort_vals (s := { s with heap := copyHeap s.heap vs }) (copyHeap_at s.heap vs) (SortsAt.data (s := { s with heap := sortingHeap (copyHeap s.heap vs) (s.heap.objs.size + 1) vs }) (each_map (R := fun v d => ∃ as, Reads (sortingHeap (copyHeap s.heap vs) (s.heap.objs.size + 1) vs) v d as) (fun b : V × PyData => b.2) er1) al so (bound_map bound)) (by rw [e.length]; exact hz) ⟨rfl, ?_⟩
      exact fin _ (by rw [sortVals_length false rfl]; exact e.length) (sortVals_data false e er1 al)
  rcases hs with hs | hs
  · obtain ⟨its, rv, pl, hz⟩ := I.list hs
    exact main its rv (by rw [List.length_map] at hz; exact hz) (.inl pl.isList)
  · obtain ⟨its, rv, it, hz⟩ := I.tuple hs
    exact main its rv (by rw [List.length_map] at hz; exact hz) (.inr it)
end Lv

/-! lambdas of one parameter as keys of sorted: their calls in the model itself -/
namespace Lv
open PySem PySem.Spec PyProof.Rows L2 PySem.W PySem.Calls
section
variable {P : Program} {w : World} {A : Around} {E : Value → Shared → Prop} {s : Shared} {env : Env} {Q : Value → Shared → Prop}
theorem wp_local {x : Str} {pos : Pos} {m : Str → Option Value} {v : Value} (hk : env.scope.kind = .function) (hl : env.kindOf x = some .local) (hn : s.heap.Ns env.locals m) (hm : m x = some v) (hd : (x == ("__debug__" : Str)) = false) (q : Q v s) : wpAny (model P w) A (eval (.Name x pos) env) Q E s :=
  wpAny_Name (wpAny_loadName_local hk hl hn hm q) hd
/-- e[:2], e a tuple of more than two items -/
theorem wp_cut2 {e : Expr} {j : Nat} {cp p2 pos : Pos} (he : wpAny (model P w) A (eval e env) (fun v s1 => ∃ (t : Addr) (items : Array Value), v = .ref t ∧ IsTup s1.heap t items ∧ 2 < items.size ∧ items.size ≤ sizeLine ∧
      ∀ (u : Addr) (h' : Heap) (tk : Nat), (∀ b o, s1.heap.get? b = some o → h'.get? b = some o) → IsTup h' u (items.toList.take 2).toArray → Q (.ref u) { s1 with heap := h', toks := tk }) E s) :
    wpAny (model P w) A (eval (.Subscript e (.Slice none (some (.Constant (.int 2) j cp)) none p2) pos) env) Q E s := by
  refine PyProof.Rows.Subscript_ (wpAny_mono he (fun v s1 h => ?_) fun _ _ x => x)
  obtain ⟨t, items, rfl, ht, h2, hz, q⟩ := h
  refine wpAny_Slice (evalPart_none_step (evalPart_some_step (wpAny_Constant_int (evalPart_none_step ?_))))
  have kp : ∀ b o, s1.heap.get? b = some o → (s1.heap.push { cls := .type "slice", data := .fields #[.none, .int 2 s1.toks, .none] }).get? b = some o := fun b o z => Heap.get?_push_of_some _ z
  have ht1 : IsTup (s1.heap.push { cls := .type "slice", data := .fields #[.none, .int 2 s1.toks, .none] }) t items := by
    obtain ⟨o, ho, r⟩ := ht
    exact ⟨o, kp _ _ ho, r⟩
  show wpAny (model P w) A (subscriptTail e (.Slice none (some (.Constant (.int 2) j cp)) none p2) (.ref t) (.ref s1.heap.objs.size)) Q E { s1 with heap := s1.heap.push { cls := .type "slice", data := .fields #[.none, .int 2 s1.toks, .none] }, toks := s1.toks + 1 }
  have e1 : HT.sIx items.size 0 none = 0 := rfl
  have e2 : HT.sIx items.size items.size (some 2) = 2 := by
    have : HT.sIx items.size items.size (some ((2 : Nat) : Int)) = min 2 items.size := HT.sIx_nat ..
    exact this.trans (Nat.min_eq_left (by omega))
  refine tail_any (ops := [.ref s1.heap.objs.size, .ref t]) ht1.typeIs PyProof.Rows.slot_tuple_getitem.lookup (HT.getItem_tuple_cut ht1 (Heap.IsSliceOf.new ..) (lo := none) (hi := some 2) ?_ ?_ (by rw [e1, e2]; omega) ?_ hz) (by with_unfolding_all rfl)
  · constructor
  · constructor
  · rw [e1, e2]
    refine q _ _ _ (fun b o z => Heap.get?_push_of_some _ (kp b o z)) ?_
    exact ⟨_, Heap.get?_push_size _ rfl, rfl, 0, rfl⟩
/-- x.f, x an instance -/
theorem wp_attr {K : PySem.W.Frag} {H : Hp} {e : Expr} {f : Str} {pos : Pos} {a C dx : Addr} {fs : List (Str × V)} {v : V} (hb : attributeBase e f env (eval e env) = eval e env) (c : Cls K C) (n : NoAttr K C f) (hf : fs.lookup f = some v)
    (he : wpAny (model P w) A (eval e env) (fun u s1 => u = .ref a ∧ K.In s1.heap ∧ HOk P w H s1.heap ∧ H a = some (.ins C dx fs) ∧ ∀ u', RelV v u' → ∀ tk, Q u' { s1 with toks := tk }) E s) : wpAny (model P w) A (eval (.Attribute e f pos) env) Q E s := by
  refine attr_of hb (wpAny_mono he (fun u s1 h => ?_) fun _ _ x => x)
  obtain ⟨rfl, kin, hok, ha, q⟩ := h
  obtain ⟨mA, O, r, _, _, _⟩ := ins_get hok ha
  obtain ⟨u, hu, ru⟩ := RelO.some_of (v := v) (o := mA f) (by rw [← hf]; exact r f)
  exact get_map kin O (c.get f) c.hd n hu (handed_of ru) (q u ru _)
/-- the lambda at f, called with one value -/
theorem lam1_call {x : Str} {body : Expr} {scope : Scope} {params : Arguments} {qn : Str} {pm ctv v : Value} {f c' : Addr} {k : PyData} (dp : A.depth < recursionLimit) (of : s.heap.get? f = some (kla_obj "<lambda>" qn params body scope [] pm c' ctv)) (cr : s.heap.CodeRec (.ref c') qn)
    (co : scope.isCoroutine = false) (ge : scope.isGenerator = false) (kd : scope.kind = .function) (nm : scope.names = [(x, .local)]) (nl : s.heap.NoLimit) (hbind : bindArgs (kla_fn "<lambda>" qn params body scope [] pm (.ref c') ctv) ⟨[v], []⟩ = pure [(x, v)])
    (hb : ∀ (h₁ : Heap) (tk : Nat), (∀ b o, s.heap.get? b = some o → h₁.get? b = some o) → h₁.Ns s.heap.objs.size (fun y => [(x, v)].lookup y) → wpAny (model P w) (A.deeper (envX qn scope s.heap.objs.size f (.ref c') [])) (eval body (envX qn scope s.heap.objs.size f (.ref c') [])) (KeyPure k s) (fun _ _ => False) { s with heap := h₁, toks := tk }) :
    wpAny (model P w) A (call (.ref f) [v]) (KeyPure k s) (fun _ _ => False) s := by
  refine wpAny_call (kla_callFunE dp of rfl co ge rfl cr ?_)
  rw [hbind]
  refine wpAny_pure (wpAny_newFunctionEnv (fun y hy => ?_) (fun y hy => ?_) (fun h₁ hns hsb => ⟨nl.fresh _ hsb, ?_⟩) kd)
  · rw [show (kla_fn "<lambda>" qn params body scope [] pm (.ref c') ctv).scope.names = [(x, NameKind.local)] from nm] at hy
    rw [List.mem_singleton.mp hy]
    exact fun z => nomatch z
  · rw [List.mem_singleton.mp hy]
    show scope.names.lookup x = some .local
    rw [nm]
    simp [List.lookup]
  · have kp : ∀ b o, s.heap.get? b = some o → h₁.get? b = some o := fun b o e => hsb.extBut b o (Nat.ne_of_lt (Heap.lt_size e)) (Heap.get?_push_of_some _ e)
    refine kla_codeExpr (wpAny_mono (hb h₁ _ kp hns) (fun u s2 h => h) fun _ _ z => z.elim)
end
end Lv

/-! sorted(xs, key=lambda x: ..) -/
namespace Lv
open PySem PySem.Spec PyProof.Rows L2 PySem.W PySem.Calls
/-- the lambda's body, its name x bound to a value with the key d, gives d -/
def KeyBody (X : Cx) (x : Str) (body : Expr) (KeyOf : Hp → V → PyData → Prop) : Prop := ∀ (pins : List (Addr × Obj)) (σ : L2.St) (H : Hp) (s0 s : Shared) (v : V) (u : Value) (d : PyData) (A : Around) (h : Heap) (tk : Nat) (env : Env) (m : Str → Option Value), L2.Inv X pins σ H s0 → KeyOf H v d → RelV v u →
  (∀ b o, s0.heap.get? b = some o → h.get? b = some o) → (∀ b o, s.heap.get? b = some o → h.get? b = some o) → env.scope.kind = .function → env.kindOf x = some .local → h.Ns env.locals m → m x = some u → wpAny (model X.prog X.w) A (eval body env) (KeyPure d s) (fun _ _ => False) { s with heap := h, toks := tk }
/-- .. sorted by the keys -/
def tSortK (K : PySem.W.Frag) (T : List (Addr × Str)) (KeyOf : Hp → V → PyData → Prop) (te : TE) : TE := fun σ H Q => te σ H fun v H1 => LamX.Tabs T H1 ∧ ∀ H2, LamX.ExtN H1 H2 → LamX.Tabs T H2 → ∃ (a : Addr) (ps : List (V × PyData)), v = .ref a ∧ (SqL K H2 a (ps.map (·.1)) ∨ SqT K H2 a (ps.map (·.1))) ∧
  (∀ p ∈ ps, KeyOf H2 p.1 p.2 ∧ p.2.depth ≤ 8) ∧ AllAlike (ps.map (·.2)) ∧ Sortable (ps.map (·.2)) ∧ ∀ p, H2 p = none → Q (.ref p) (upd H2 p (.lst ((sortP ps).map (·.1))))
theorem pe_sortKey {X : Cx} {T : List (Addr × Str)} {c P : Addr} {e : Expr} {te : TE} {params : Arguments} {body : Expr} {scope : Scope} {lpos kpos p pos : Pos} {x : Str} {KeyOf : Hp → V → PyData → Prop} {k : Nat} (he : PE X e te) (hg : Gl X "sorted") (hm : X.mg "sorted" = none) (TB : LamX.TabB X.base X.mg c P) (hcode : X.env.code = .ref c)
    (hmT : (P, X.env.qual ++ "<lambda>") ∈ T) (hu : ∀ p ∈ T, p.1 = P → p.2 = X.env.qual ++ "<lambda>") (hr : Room (k + 3) X.A) (hun : X.A.units + 16 < cLine) (hdef : defaultsOf params X.env = ([], [])) (nm : scope.names = [(x, .local)]) (co : scope.isCoroutine = false) (ge : scope.isGenerator = false) (kd : scope.kind = .function)
    (hbind : ∀ (q : Str) (pm cv ctv v : Value), bindArgs (kla_fn "<lambda>" q params body scope [] pm cv ctv) ⟨[v], []⟩ = pure [(x, v)]) (kb : KeyBody X x body KeyOf)
    (hs : starEach [e] X.env = (false, eval e X.env) :: starEach [] X.env := by rfl) (h2 : (backTo pos (starEach [e] X.env)).any (·.1) = false := by rfl) :
    PE X (.Call (.Name "sorted" p) [e] [⟨some "key", .Lambda params body scope lpos, kpos⟩] pos) (tSortK X.K T KeyOf te) := by
  refine ⟨fun pins s σ H Q I h => ?_⟩
  refine wpAny_Call_Name_kw (ld_blt I hg hm rfl ?_ (by decide) (by decide))
  refine PyProof.Rows.callWith_kw ?_ (by rw [hs]; rfl) h2 (by rfl) (by rfl)
  have hA := (pa_cons (hs := hs) he pa_nil).run pos pins s σ H (fun vs H1 => match vs with
    | [v] => LamX.Tabs T H1 ∧ ∀ H2, LamX.ExtN H1 H2 → LamX.Tabs T H2 → ∃ (a : Addr) (ps : List (V × PyData)), v = .ref a ∧ (SqL X.K H2 a (ps.map (·.1)) ∨ SqT X.K H2 a (ps.map (·.1))) ∧
      (∀ p ∈ ps, KeyOf H2 p.1 p.2 ∧ p.2.depth ≤ 8) ∧ AllAlike (ps.map (·.2)) ∧ Sortable (ps.map (·.2)) ∧ ∀ p, H2 p = none → Q (.ref p) (upd H2 p (.lst ((sortP ps).map (·.1))))
    | _ => False) I ?_
  · refine thn hA fun us s1 h => ?_
    obtain ⟨vs, H1, I1, rv, h⟩ := h
    obtain ⟨v, rfl⟩ : ∃ v, vs = [v] := by
      match vs, h with
      | [v], _ => exact ⟨v, rfl⟩
      | [], z => exact z.elim
      | _ :: _ :: _, z => exact z.elim
    obtain ⟨hT, todo⟩ := h
    obtain ⟨u, rfl, ru⟩ := rv.one
    show wpAny _ _ (evalAll ((do let v ← eval (.Lambda params body scope lpos) X.env; standAt pos; pure v) :: [])) _ _ s1
    refine wpAny_evalAll_cons (wpAny_bind (LamX.lam_make2 I1 TB hcode hmT hu hT hdef (fun y hy hf => by rw [nm, List.mem_singleton] at hy; rw [hy] at hf; cases hf) fun f c' pm ctv H2 s2 I2 eN T2 hf hfn hfr hco => wpAny_bind (wpAny_standAt (wpAny_pure (wpAny_evalAll_nil ?_)))))
    have hclo : cloFrom X.env.cells scope.names [] = [] := by rw [nm]; rfl
    rw [hclo] at hf
    show wpAny (model X.prog X.w) X.A (call (.builtin "sorted") [u] [(Str.ofString "key", .ref f)]) (EP X pins σ Q) X.xe s2
    obtain ⟨a, ps, rfl, hsq, hkey, al, so, q⟩ := todo H2 eN T2
    cases (show u = Value.ref a from ru)
    obtain ⟨⟨oc, cvs, t, hoc, hdc, hvc⟩, _, _⟩ := I2.hok c' _ hco
    have main : ∀ (vs : List Value), Vals (ps.map (·.1)) vs → ps.length ≤ sizeLine → (s2.heap.IsList a vs.toArray ∨ s2.heap.IsTuple a vs.toArray) → wpAny (model X.prog X.w) X.A (call (.builtin "sorted") [.ref a] [(Str.ofString "key", .ref f)]) (EP X pins σ Q) X.xe s2 := by
      intro vs rv hz hl
      have e := vals_each rv
      have bound : ∀ b ∈ ps, X.A.units + 2 + b.2.depth < cLine := fun b hb => by have := (hkey b hb).2; omega
      have turn : ∀ (v : Value) (x : V × PyData), RelV x.1 v → x ∈ ps → ∀ (h : Heap) (tk : Nat), (∀ b o, s2.heap.get? b = some o → h.get? b = some o) →
          wpAny (model X.prog X.w) X.A.in1.in1 (call (.ref f) [v]) (KeyPure x.2 { s2 with heap := h, toks := tk }) (fun _ _ => False) { s2 with heap := h, toks := tk } := by
        intro v x rx hx h tk kp
        have I3 : L2.Inv X pins σ H2 { s2 with heap := h, toks := tk } := I2.kept kp
        refine lam1_call (qn := X.env.qual ++ "<lambda>") (s := { s2 with heap := h, toks := tk }) ?_ (kp _ _ hf) ⟨c', oc, cvs, t, rfl, kp _ _ hoc, hdc, hvc⟩ co ge kd nm I3.nolimit (hbind _ _ _ _ _) fun h₁ tk1 kp1 hns => ?_
        · exact hr.depth
        · refine kb pins σ H2 s2 _ x.1 v x.2 _ h₁ tk1 _ (fun y => [(_, v)].lookup y) I2 (hkey x hx).1 rx (fun b o z => kp1 b o (kp b o z)) kp1 kd ?_ hns ?_
          · show scope.names.lookup _ = _
            rw [nm]
            simp [List.lookup]
          · simp [List.lookup]
      have fin : ∀ (out : List Value) (c : Nat) (h' : Heap) (tk : Nat), (∀ b o, s2.heap.get? b = some o → h'.get? b = some o) → h'.get? (s2.heap.objs.size + 1) = some (seqObj "list" (List.toArray out) c) → out.length = ps.length → EachIs (fun u (p : V × PyData) => RelV p.1 u) out (ps.mergeSort (dataLe false (·.2))) →
          EP X pins σ Q (.ref (s2.heap.objs.size + 1)) { s2 with heap := h', toks := tk } := by
        intro out c h' tk kp hD ho eo
        have vo : Vals ((sortP ps).map (·.1)) out := each_vals eo
        have free : H2 (s2.heap.objs.size + 1) = none := I2.hok.fresh (Nat.le_succ _)
        refine ⟨.ref (s2.heap.objs.size + 1), upd H2 (s2.heap.objs.size + 1) (.lst ((sortP ps).map (·.1))), I2.laid kp (Nat.le_succ _) ⟨?_, out, c, vo, hD⟩, rfl, q _ free⟩
        rw [vo.length, ho]
        exact hz
      rcases hl with hl | hl
      · exact sorted_key_data (b := false) (fun b : V × PyData => b.2) hl e al so hz bound (ksk_s1 _ _) (fun _ => ksk_l1 _ _) (fun _ => ksk_t1 _ _) turn fun out c h' tk kp _ hD ho eo => fin out c h' tk kp hD ho eo
      · refine sortT_of hl (by rw [e.length]; exact hz) (ksk_s1 _ _) (fun _ => ksk_l1 _ _) fun E1 => ?_
        rw [ksk_t1]
        have up : ∀ {g : Heap}, KeepsBut (s2.heap.objs.size + 1) (copyHeap s2.heap vs) g → ∀ b o, s2.heap.get? b = some o → g.get? b = some o := fun {g} kp b o q =>
          kp b o (Nat.ne_of_lt (Nat.lt_succ_of_lt (Heap.lt_size q))) (copyHeap_old q)
        refine keyH_tree (kz := ps.map (·.2)) (s := { s2 with heap := copyHeap s2.heap vs }) (copyHeap_at s2.heap vs) (by rw [List.length_map]; exact e.length.symm) (by rw [e.length]; exact hz) al so (bound_map (A := X.A.in1.in1) bound)
          (keyH_turns (k := fun b : V × PyData => b.2) (s := { s2 with heap := copyHeap s2.heap vs }) e fun v x hR hx h tk kp => turn v x hR hx h tk (up kp)) fun h' tk out c kp hD ko => ⟨rfl, ?_⟩
        exact fin out c h' tk (up kp) hD ((ko.length (by rw [List.length_map]; exact e.length.symm)).trans e.length) (keyedOut_each (fun b : V × PyData => b.2) ko e)
    rcases hsq with hs | hs
    · obtain ⟨its, rv, pl, hz⟩ := I2.list hs
      exact main its rv (by rw [List.length_map] at hz; exact hz) (.inl pl.isList)
    · obtain ⟨its, rv, it, hz⟩ := I2.tuple hs
      exact main its rv (by rw [List.length_map] at hz; exact hz) (.inr it)
  · exact h
end Lv

/-! further comprehensions: some of the elements, two fors; keys of sorted -/
namespace Lv
open PySem PySem.Spec PyProof.Rows L2
section
variable {J : It} {n : Nat} {G : Hp → Prop} {Y : Nat → Hp → V → Hp → Prop} {g g1 : TG} {tt tt1 : TT} {te : TE} {wi wi1 : TI} {vs vs1 : List Nat} {σ : L2.St} {H1 : Hp} {Q : VK}
/-- those f i that there are; all stays as it was -/
theorem lc_sel (w : Walk J n G Y) (f : Nat → Option V) (hn : n ≤ sizeLine) (hG : ∀ H, Same H1 H → G H)
    (hs : ∀ i x H H', i < n → Same H1 H → Y i H x H' → ∀ (R : VK) (N : Hp → Prop), (∀ v H4, f i = some v → Same H H4 → R v H4) → (∀ H4, f i = none → Same H H4 → N H4) → g x (wipe σ vs) H' fun σ2 H2 => wipe σ2 vs = wipe σ vs ∧ tt σ2 H2 fun b H3 => if b = true then te σ2 H3 R else N H3)
    (hd : ∀ H D, Same H1 H → H1 D = none → H D = some (.lst ((List.range n).filterMap f)) → Q (.ref D) H) : LcB J g tt te vs σ Q H1 := by
  intro D hD
  refine ⟨fun i m H => m = n - i ∧ i ≤ n ∧ Same H1 H ∧ H D = some (.lst ((List.range i).filterMap f)), ⟨n, rfl, Nat.zero_le _, same_new hD, upd_same⟩, fun i m H h => ?_⟩
  obtain ⟨rfl, hi, hS, hL⟩ := h
  have lenl : ∀ k, ((List.range k).filterMap f).length ≤ k := fun k => by
    have := List.length_filterMap_le f (List.range k)
    rw [List.length_range] at this
    exact this
  by_cases e : i = n
  · subst e
    exact .inl ⟨w.stops H (hG H hS), hd H D hS hD hL⟩
  · have lt : i < n := by omega
    refine .inr ⟨w.goes i H lt (hG H hS), fun H' => Same H1 H' ∧ H' D = some (.lst ((List.range (i + 1)).filterMap f)), fun H' p' => ⟨n - (i + 1), by omega, rfl, by omega, p'⟩, fun x H' y => ?_⟩
    refine hs i x H H' lt hS (w.yields i H x H' lt (hG H hS) y) _ _ (fun v H4 ev s4 => ⟨_, s4 _ _ hL, by have := lenl i; omega, same_mut (hS.trans s4) hD, ?_⟩) (fun H4 ev s4 => ⟨hS.trans s4, ?_⟩)
    · rw [upd_same, List.range_succ, List.filterMap_append]
      simp [ev]
    · rw [s4 _ _ hL, List.range_succ, List.filterMap_append]
      simp [ev]
/-- the inner for -/
def InB (D : Addr) (J1 : It) (g1 : TG) (tt1 : TT) (te : TE) (vs1 : List Nat) (σ2 : L2.St) (Nx : Hp → Prop) (H4 : Hp) : Prop := ∃ W1 : Nat → Nat → Hp → Prop, (∃ m, W1 0 m H4) ∧ ∀ j k H, W1 j k H →
  (J1.stop j H ∧ Nx H) ∨ (J1.go j H ∧ ∃ Nx1 : Hp → Prop, (∀ H', Nx1 H' → ∃ k', k' < k ∧ W1 (j + 1) k' H') ∧ ∀ x H', J1.yld j H x H' → g1 x (wipe σ2 vs1) H' fun σ3 H5 => wipe σ3 vs1 = wipe σ2 vs1 ∧ tt1 σ3 H5 fun b H6 =>
    if b = true then te σ3 H6 fun y H7 => ∃ acc, H7 D = some (.lst acc) ∧ acc.length < sizeLine ∧ Nx1 (upd H7 D (.lst (acc ++ [y]))) else Nx1 H6)
/-- the outer one -/
def LcB2 (J : It) (g : TG) (tt : TT) (wi1 : TI) (g1 : TG) (tt1 : TT) (te : TE) (vs vs1 : List Nat) (σ : L2.St) (Q : VK) (H1 : Hp) : Prop := ∀ D, H1 D = none → ∃ W : Nat → Nat → Hp → Prop, (∃ m, W 0 m (upd H1 D (.lst []))) ∧ ∀ i m H, W i m H →
  (J.stop i H ∧ Q (.ref D) H) ∨ (J.go i H ∧ ∃ Nx : Hp → Prop, (∀ H', Nx H' → ∃ m', m' < m ∧ W (i + 1) m' H') ∧ ∀ x H', J.yld i H x H' → g x (wipe σ vs) H' fun σ2 H2 => wipe σ2 vs = wipe σ vs ∧ tt σ2 H2 fun b H3 =>
    if b = true then wi1 σ2 H3 fun J1 H4 => InB D J1 g1 tt1 te vs1 σ2 Nx H4 else Nx H3)
theorem tLc2_eq {H : Hp} : tLc2 wi g tt wi1 g1 tt1 te vs vs1 σ H Q = wi σ H fun J H1 => LcB2 J g tt wi1 g1 tt1 te vs vs1 σ Q H1 := rfl
theorem in_it {J1 : It} {n1 : Nat} {G1 : Hp → Prop} {Y1 : Nat → Hp → V → Hp → Prop} {D : Addr} {σ2 : L2.St} {Nx : Hp → Prop} {H4 : Hp} (w : Walk J1 n1 G1 Y1) (Pw : Nat → Hp → Prop) (h0 : Pw 0 H4) (hG : ∀ j H, j ≤ n1 → Pw j H → G1 H)
    (hs : ∀ j x H H', j < n1 → Pw j H → Y1 j H x H' → g1 x (wipe σ2 vs1) H' fun σ3 H5 => wipe σ3 vs1 = wipe σ2 vs1 ∧ tt1 σ3 H5 fun b H6 => if b = true then te σ3 H6 fun y H7 => ∃ acc, H7 D = some (.lst acc) ∧ acc.length < sizeLine ∧ Pw (j + 1) (upd H7 D (.lst (acc ++ [y]))) else Pw (j + 1) H6)
    (hd : ∀ H, Pw n1 H → Nx H) : InB D J1 g1 tt1 te vs1 σ2 Nx H4 := by
  refine ⟨fun i m H => m = n1 - i ∧ i ≤ n1 ∧ Pw i H, ⟨n1, rfl, Nat.zero_le _, h0⟩, fun i m H h => ?_⟩
  obtain ⟨rfl, hi, p⟩ := h
  by_cases e : i = n1
  · subst e
    exact .inl ⟨w.stops H (hG _ H hi p), hd H p⟩
  · have lt : i < n1 := by omega
    exact .inr ⟨w.goes i H lt (hG i H hi p), Pw (i + 1), fun H' p' => ⟨n1 - (i + 1), by omega, rfl, by omega, p'⟩, fun x H' y => hs i x H H' lt p (w.yields i H x H' lt (hG i H hi p) y)⟩
theorem lc2_it (w : Walk J n G Y) (Pv : Addr → Nat → Hp → Prop) (h0 : ∀ D, H1 D = none → Pv D 0 (upd H1 D (.lst []))) (hG : ∀ D i H, i ≤ n → Pv D i H → G H)
    (hs : ∀ D i x H H', H1 D = none → i < n → Pv D i H → Y i H x H' → g x (wipe σ vs) H' fun σ2 H2 => wipe σ2 vs = wipe σ vs ∧ tt σ2 H2 fun b H3 => if b = true then wi1 σ2 H3 fun J1 H4 => InB D J1 g1 tt1 te vs1 σ2 (Pv D (i + 1)) H4 else Pv D (i + 1) H3)
    (hd : ∀ D H, H1 D = none → Pv D n H → Q (.ref D) H) : LcB2 J g tt wi1 g1 tt1 te vs vs1 σ Q H1 := by
  intro D hD
  refine ⟨fun i m H => m = n - i ∧ i ≤ n ∧ Pv D i H, ⟨n, rfl, Nat.zero_le _, h0 D hD⟩, fun i m H h => ?_⟩
  obtain ⟨rfl, hi, p⟩ := h
  by_cases e : i = n
  · subst e
    exact .inl ⟨w.stops H (hG D _ H hi p), hd D H hD p⟩
  · have lt : i < n := by omega
    exact .inr ⟨w.goes i H lt (hG D i H hi p), Pv D (i + 1), fun H' p' => ⟨n - (i + 1), by omega, rfl, by omega, p'⟩, fun x H' y => hs D i x H H' hD lt p (w.yields i H x H' lt (hG D i H hi p) y)⟩
end
theorem range_fm {α β : Type} (g : α → Option β) : ∀ l : List α, ((List.range l.length).filterMap fun i => (l[i]?).bind g) = l.filterMap g
  | [] => rfl
  | x :: l => by
    rw [List.length_cons, List.range_succ_eq_map, List.filterMap_cons, List.filterMap_cons]
    have ih := range_fm g l
    rw [List.filterMap_map]
    simp only [List.getElem?_cons_zero, Option.bind_some, Function.comp_def, List.getElem?_cons_succ]
    rw [ih]
theorem walk_zipT {K : PySem.W.Frag} {a b : Addr} {xs ys : List V} {n : Nat} (hn : n = min xs.length ys.length) : Walk (RZ.ItzT K a b) n (fun H => SqT K H a xs ∧ SqT K H b ys) (YPair (fun i => xs[i]?) (fun i => ys[i]?)) := by
  subst hn
  refine ⟨fun i _ hi q => ?_, fun _ q => ⟨xs, ys, q.1, q.2, by omega⟩, fun i H v H' _ q y => ?_⟩
  · have h1 : i < xs.length := by omega
    have h2 : i < ys.length := by omega
    exact ⟨xs, ys, xs[i], ys[i], q.1, q.2, by simp [h1], by simp [h2]⟩
  · obtain ⟨T, x, z, h1, h2, h3, h4, h5⟩ := y
    exact ⟨T, x, z, h1, h2, h3, h4 xs q.1, h5 ys q.2⟩
theorem seqN {A B : TS} {D : Ends} {σ : L2.St} {H : Hp} (h : ∀ N : L2.St → Hp → Prop, (∀ σ' H', B D σ' H' → N σ' H') → A { D with nx := N } σ H) : tSeq A B D σ H := h _ (fun _ _ h => h)
/-- tuples of texts, one behind another -/
def FrA (H : Hp) (xs : List V) (wss : List (List Str)) : Prop := xs.length = wss.length ∧ ∀ (i : Nat) ws, wss[i]? = some ws → ∃ b, xs[i]? = some (.ref b) ∧ H b = some (.tup (ws.map V.str))
theorem FrA.same {H H' : Hp} {xs : List V} {wss : List (List Str)} (h : FrA H xs wss) (s : Same H H') : FrA H' xs wss := ⟨h.1, fun i ws e => let ⟨b, e1, e2⟩ := h.2 i ws e; ⟨b, e1, s _ _ e2⟩⟩
theorem FrA.nil {H : Hp} : FrA H [] [] := ⟨rfl, fun i ws e => by cases e⟩
theorem FrA.cons {H : Hp} {b : Addr} {ws : List Str} {xs : List V} {wss : List (List Str)} (h : H b = some (.tup (ws.map V.str))) (t : FrA H xs wss) : FrA H (.ref b :: xs) (ws :: wss) := by
  refine ⟨congrArg Nat.succ t.1, fun i us e => ?_⟩
  cases i with
  | zero =>
    cases e
    exact ⟨b, rfl, h⟩
  | succ i => exact t.2 i us e
/-- [x for ws in l for x in f(ws)], l a list of tuples of texts; σ: the names ahead of the comprehension, i and j its own -/
theorem lc2_words {K : PySem.W.Frag} {i j : Nat} {ti : TE} {f : List Str → List Str} {l : Addr} {xs : List V} {wss : List (List Str)} {σ : L2.St} {H1 : Hp} {Q : VK} (hl : H1 l = some (.lst xs)) (fr : FrA H1 xs wss) (hz : (wss.flatMap f).length < sizeLine)
    (w1 : ∀ v, wipe ((wipe σ [i, j]).set i v) [i, j] = wipe σ [i, j]) (w2 : ∀ v u, wipe ((wipe ((wipe σ [i, j]).set i v) [j]).set j u) [j] = wipe ((wipe σ [i, j]).set i v) [j]) (w3 : ∀ v u, ((wipe ((wipe σ [i, j]).set i v) [j]).set j (some u))[j]? = some (some u))
    (hi : ∀ (H : Hp) (b : Addr) (ws : List Str) (R : VK), ws ∈ wss → H b = some (.tup (ws.map V.str)) → (∀ p H', Same H H' → H' p = some (.tup ((f ws).map V.str)) → R (.ref p) H') → ti ((wipe σ [i, j]).set i (some (.ref b))) H R)
    (q : ∀ D H', Same H1 H' → H' D = some (.lst ((wss.flatMap f).map V.str)) → Q (.ref D) H') : LcB2 (Itl K l) (gName i) tYes (iTup K ti) (gName j) tYes (tVar j) [i, j] [j] σ Q H1 := by
  have part : ∀ n, ((wss.take n).flatMap f).length ≤ (wss.flatMap f).length := fun n => by
    have := congrArg List.length (congrArg (List.flatMap f) (List.take_append_drop n wss))
    rw [List.flatMap_append, List.length_append] at this
    omega
  refine lc2_it walk_list (fun D n H => Same H1 H ∧ H D = some (.lst (((wss.take n).flatMap f).map V.str))) (fun D hD => ⟨same_new hD, upd_same⟩) (fun D n H _ h => sql_of (h.1 _ _ hl)) ?_ (fun D H hD h => q D H h.1 ?_)
  · rintro D n x H H' hD hn ⟨hS, hL⟩ ⟨rfl, hx⟩
    have hnw : n < wss.length := by rw [← fr.1]; exact hn
    have hw : wss[n]? = some wss[n] := List.getElem?_eq_getElem hnw
    have hm : wss[n] ∈ wss := List.getElem_mem _
    obtain ⟨b, e1, e2⟩ := fr.2 n _ hw
    rw [hx] at e1
    cases e1
    have tk : (wss.take (n + 1)).flatMap f = (wss.take n).flatMap f ++ f wss[n] := by
      rw [List.take_add_one, hw, List.flatMap_append]
      simp
    generalize wss[n] = ws at *
    refine ⟨w1 _, ?_⟩
    simp only [tYes, if_true]
    show iTup K ti ((wipe σ [i, j]).set i (some (V.ref b))) H' _
    refine hi H' b ws _ hm (hS _ _ e2) fun p H2 s2 hp => ⟨p, rfl, ⟨_, sqt_of hp⟩, ?_⟩
    have hpD : p ≠ D := fun e => by
      have := s2 _ _ hL
      rw [← e, hp] at this
      cases this
    refine in_it walk_tup (fun m H => Same H1 H ∧ H p = some (.tup ((f ws).map V.str)) ∧ H D = some (.lst (((wss.take n).flatMap f ++ (f ws).take m).map V.str))) ⟨hS.trans s2, hp, by rw [List.take_zero, List.append_nil]; exact s2 _ _ hL⟩ (fun m H _ h => sqt_of h.2.1) ?_ fun H h => ⟨h.1, ?_⟩
    · rintro m y H3 H4 hm4 ⟨h1, h2, h3⟩ ⟨rfl, hy⟩
      rw [List.getElem?_map] at hy
      have hlt : m < (f ws).length := by rw [List.length_map] at hm4; exact hm4
      rw [List.getElem?_eq_getElem hlt] at hy
      cases hy
      refine ⟨w2 _ _, ?_⟩
      simp only [tYes, if_true]
      show tVar j _ H4 _
      refine ⟨_, w3 _ _, _, h3, ?_, same_mut h1 hD, ?_, ?_⟩
      · rw [List.length_map, List.length_append, List.length_take]
        have := part (n + 1)
        rw [tk, List.length_append] at this
        omega
      · rw [upd_ne hpD]
        exact h2
      · rw [upd_same, List.take_add_one, List.getElem?_eq_getElem hlt]
        simp only [Option.toList_some, List.map_append, List.map_cons, List.map_nil, List.append_assoc]
    · rw [h.2.2, tk, List.length_map, List.take_length]
  · have := h.2
    rw [fr.1, List.take_length] at this
    exact this
theorem u16 {a : Nat} (h : a + 64 < cLine) : a + 16 < cLine := by omega
/-- list * bool -/
def rRepB (K : PySem.W.Frag) : V → V → Hp → VK → Prop := fun x y H Q => ∃ a xs k, x = V.ref a ∧ y = V.bl k ∧ SqL K H a xs ∧ ∀ p, H p = none → Q (.ref p) (upd H p (.lst (if k = true then xs else [])))
theorem op_repB {X : Cx} : OpR X (binaryOp .Mult) (rRepB X.K) := op_mul_lb
end Lv

/-! dicts whose keys are nested tuples, as tracked things: new, d[k] = v, d[k], walked by their keys -/
namespace Lv
open PySem PySem.Spec PyProof.Rows L2
/-- entries: the key, where its own tuple stands, the value -/
abbrev Ents := List (NestedKey × Addr × V)
abbrev RelE (p : NestedKey × Addr × V) (q : NestedKey × Addr × Value) : Prop := p.1 = q.1 ∧ p.2.1 = q.2.1 ∧ RelV p.2.2 q.2.2
def atE (L : Ents) (k : NestedKey) : Option (Addr × V) := (L.find? fun x => decide (x.1 = k)).map (·.2)
def putE (L : Ents) (k : NestedKey) (b : Addr) (v : V) : Ents := if (atE L k).isSome then L.map (fun x => if x.1 = k then (x.1, x.2.1, v) else x) else L ++ [(k, b, v)]
theorem atE_rel (k : NestedKey) : ∀ {L : Ents} {xs : List (NestedKey × Addr × Value)}, Paired RelE L xs → RelO ((atE L k).map (·.2)) ((atKey xs k).map (·.2)) ∧ (atE L k).isSome = (atKey xs k).isSome
  | _, _, .nil => ⟨trivial, rfl⟩
  | p :: L, q :: xs, .cons r t => by
    have ih := atE_rel k t
    by_cases e : p.1 = k
    · have e2 : q.1 = k := r.1 ▸ e
      have a1 : atE (p :: L) k = some p.2 := by unfold atE; rw [List.find?_cons_of_pos (by simpa using e)]; rfl
      have a2 : atKey (q :: xs) k = some q.2 := by unfold atKey; rw [List.find?_cons_of_pos (by simpa using e2)]; rfl
      rw [a1, a2]
      exact ⟨r.2.2, rfl⟩
    · have e2 : ¬ q.1 = k := fun z => e (r.1.trans z)
      have a1 : atE (p :: L) k = atE L k := by unfold atE; rw [List.find?_cons_of_neg (by simpa using e)]
      have a2 : atKey (q :: xs) k = atKey xs k := by unfold atKey; rw [List.find?_cons_of_neg (by simpa using e2)]
      rw [a1, a2]
      exact ih
theorem pair_map {α β : Type} {G : α → β → Prop} {f : α → α} {g : β → β} (h : ∀ a b, G a b → G (f a) (g b)) : ∀ {l : List α} {m : List β}, Paired G l m → Paired G (l.map f) (m.map g)
  | _, _, .nil => .nil
  | _, _, .cons r t => .cons (h _ _ r) (pair_map h t)
theorem pair_snoc {α β : Type} {G : α → β → Prop} {a : α} {b : β} (r : G a b) : ∀ {l : List α} {m : List β}, Paired G l m → Paired G (l ++ [a]) (m ++ [b])
  | _, _, .nil => .cons r .nil
  | _, _, .cons r' t => .cons r' (pair_snoc r t)
theorem putE_rel {L : Ents} {xs : List (NestedKey × Addr × Value)} (r : Paired RelE L xs) (k : NestedKey) (b : Addr) {v : V} {u : Value} (rv : RelV v u) : Paired RelE (putE L k b v) (storedH xs k b u) := by
  unfold putE storedH
  rw [(atE_rel k r).2]
  split
  · refine pair_map (fun x y h => ?_) r
    unfold putAt
    by_cases e : x.1 = k
    · rw [if_pos e, if_pos (h.1 ▸ e)]
      exact ⟨h.1, h.2.1, rv⟩
    · rw [if_neg e, if_neg fun z => e (h.1.trans z)]
      exact h
  · exact pair_snoc ⟨rfl, rfl, rv⟩ r
theorem putE_len (L : Ents) (k : NestedKey) (b : Addr) (v : V) : (putE L k b v).length ≤ L.length + 1 := by
  unfold putE
  split
  · rw [List.length_map]
    omega
  · simp
theorem atE_none {L : Ents} {k : NestedKey} (h : (atE L k).isSome = false) : k ∉ L.map (·.1) := by
  intro hm
  obtain ⟨x, hx, rfl⟩ := List.mem_map.mp hm
  unfold atE at h
  rw [Option.isSome_map, Bool.eq_false_iff] at h
  refine h ?_
  rw [List.find?_isSome]
  exact ⟨x, hx, by simp⟩
theorem putE_nd {L : Ents} {k : NestedKey} {b : Addr} {v : V} (h : (L.map (·.1)).Nodup) : ((putE L k b v).map (·.1)).Nodup := by
  unfold putE
  split
  · rw [List.map_map]
    have e : ((fun x : NestedKey × Addr × V => x.1) ∘ fun x => if x.1 = k then (x.1, x.2.1, v) else x) = (fun x => x.1) := by
      funext x
      simp only [Function.comp_apply]
      split <;> rfl
    rw [e]
    exact h
  · rename_i z
    rw [List.map_append]
    refine List.nodup_append.mpr ⟨h, List.nodup_cons.mpr ⟨(fun q => nomatch q), List.nodup_nil⟩, fun x hx y hy e => ?_⟩
    have := atE_none (by simpa using z) (L := L) (k := k)
    rw [List.mem_singleton.mp (show y ∈ [k] from hy)] at e
    exact this (e ▸ hx)
theorem putE_mem {L : Ents} {k : NestedKey} {b : Addr} {v : V} {p : NestedKey × Addr × V} (h : p ∈ putE L k b v) : p ∈ L ∨ (p.1 = k ∧ p.2.2 = v ∧ (p.2.1 = b ∨ ∃ u, (k, p.2.1, u) ∈ L)) := by
  unfold putE at h
  split at h
  · obtain ⟨x, hx, e⟩ := List.mem_map.mp h
    by_cases z : x.1 = k
    · rw [if_pos z] at e
      subst e
      refine .inr ⟨z, rfl, .inr ⟨x.2.2, ?_⟩⟩
      rw [← z]
      exact hx
    · rw [if_neg z] at e
      subst e
      exact .inl hx
  · rcases List.mem_append.mp h with h | h
    · exact .inl h
    · cases List.mem_singleton.mp h
      exact .inr ⟨rfl, rfl, .inl rfl⟩
theorem atE_mem {L : Ents} (nd : (L.map (·.1)).Nodup) {i : Nat} {k : NestedKey} {b : Addr} {v : V} (h : L[i]? = some (k, b, v)) : atE L k = some (b, v) := by
  induction L generalizing i with
  | nil => cases h
  | cons p L ih =>
    rw [List.map_cons] at nd
    obtain ⟨n1, n2⟩ := List.nodup_cons.mp nd
    cases i with
    | zero =>
      cases h
      unfold atE
      rw [List.find?_cons_of_pos (by simp)]
      rfl
    | succ i =>
      have h' : L[i]? = some (k, b, v) := h
      have ne : ¬ p.1 = k := fun e => n1 (by rw [e]; exact List.mem_map.mpr ⟨_, List.mem_of_getElem? h', rfl⟩)
      have := ih n2 h'
      unfold atE at this ⊢
      rw [List.find?_cons_of_neg (by simpa using ne)]
      exact this
/-- the dict at a, the keys' tuples aside -/
def Dic0 (P : Program) (w : World) (h : Heap) (a : Addr) (L : Ents) : Prop := L.length ≤ sizeLine ∧ (a == sysModules) = false ∧ ∃ xs : List (NestedKey × Addr × Value), Paired RelE L xs ∧
  ∃ o es ep, h.get? a = some o ∧ o.ExactDict ∧ o.data = .dict es ep ∧ es.toList = xs.map (entryOfKey (nestedKind P w)) ∧ (xs.map (·.1)).Nodup
def DicNO (P : Program) (w : World) (a : Addr) (L : Ents) : HO := .ext fun h => Dic0 P w h a L
theorem dicNO_ok {P : Program} {w : World} {H : Hp} {h : Heap} {a : Addr} {L : Ents} (R : Dic0 P w h a L) : ObjOk P w H h a (DicNO P w a L) := by
  obtain ⟨z, sy, xs, r, o, es, ep, ho, q⟩ := id R
  refine ⟨R, ⟨o, ho⟩, fun h1 h2 p k => ?_⟩
  obtain ⟨z', sy', xs', r', o', es', ep', ho', q'⟩ := (show Dic0 P w h1 a L from p)
  exact ⟨z', sy', xs', r', o', es', ep', k o' ho', q'⟩
theorem dic_rd {P : Program} {w : World} {H : Hp} {h : Heap} {a : Addr} {L : Ents} (ok : HOk P w H h) (e : Rd H a (DicNO P w a L)) : Dic0 P w h a L := (rd_of ok e).1
theorem Dic0.full {P : Program} {w : World} {h : Heap} {a : Addr} {L : Ents} (R : Dic0 P w h a L) (k : ∀ p ∈ L, (nestedKind P w).is h p.1 p.2.1) : ∃ xs, Paired RelE L xs ∧ h.DictOfH (nestedKind P w) a xs := by
  obtain ⟨z, sy, xs, r, o, es, ep, ho, hx, hd, he, hn⟩ := R
  refine ⟨xs, r, o, es, ep, ho, hx, hd, he, fun x hx => ?_, hn⟩
  have go : ∀ {L : Ents} {xs : List (NestedKey × Addr × Value)}, Paired RelE L xs → (∀ p ∈ L, (nestedKind P w).is h p.1 p.2.1) → ∀ x ∈ xs, (nestedKind P w).is h x.1 x.2.1 := by
    intro L xs r
    induction r with
    | nil => intro _ x hx; cases hx
    | cons r t ih =>
      intro k x hx
      rcases List.mem_cons.mp hx with rfl | hx
      · have := k _ (.head _)
        rw [r.1, r.2.1] at this
        exact this
      · exact ih (fun p hp => k p (.tail _ hp)) x hx
  exact go r k x hx
/-- {}, to be such a dict -/
def tDNewN (P : Program) (w : World) : TE := fun _ H Q => ∀ p, H p = none → Q (.ref p) (upd H p (DicNO P w p []))
theorem pe_dnewN {X : Cx} {pos : Pos} : PE X (.Dict [] [] pos) (tDNewN X.prog X.w) := by
  constructor
  intro pins s σ H Q I h
  have big := Ne.symm (Nat.ne_of_lt I.big)
  have R : Dic0 X.prog X.w (s.heap.push { cls := .type "dict", data := .dict #[] }) s.heap.objs.size [] := by
    refine ⟨Nat.zero_le _, beq_eq_false_iff_ne.mpr big, [], .nil, _, #[], 0, Heap.get?_push_size _ rfl, ⟨rfl, rfl, rfl⟩, rfl, rfl, List.nodup_nil⟩
  exact wpAny_Dict_empty ⟨.ref s.heap.objs.size, _, I.laid (a := s.heap.objs.size) (o := DicNO X.prog X.w s.heap.objs.size []) (t' := s.toks) (fun _ _ e => Heap.get?_push_of_some _ e) (Nat.le_refl _) (dicNO_ok R), rfl, h _ (I.hok.fresh (Nat.le_refl _))⟩
/-- d[y] -/
def tDGetN (P : Program) (w : World) (K : PySem.W.Frag) (td ty : TE) : TE := fun σ H Q => td σ H fun x H1 => ty σ H1 fun y H2 => ∃ (a : Addr) (L : Ents) (k : NestedKey) (b c : Addr) (v : V), x = .ref a ∧ y = .ref b ∧ Rd H2 a (DicNO P w a L) ∧ (∀ p ∈ L, KeyAt K H2 p.1 p.2.1) ∧ KeyAt K H2 k b ∧ atE L k = some (c, v) ∧ Q v H2
/-- d[y] = v -/
def sDPutN (P : Program) (w : World) (K : PySem.W.Frag) (td ty tv : TE) : TS := fun D σ H => tv σ H fun v H1 => td σ H1 fun x H2 => ty σ H2 fun y H3 => ∃ (a : Addr) (L : Ents) (k : NestedKey) (b : Addr), x = .ref a ∧ y = .ref b ∧ H3 a = some (DicNO P w a L) ∧ (∀ p ∈ L, KeyAt K H3 p.1 p.2.1) ∧ KeyAt K H3 k b ∧ L.length < sizeLine ∧
  D.nx σ (upd H3 a (DicNO P w a (putE L k b v)))
section
variable {X : Cx} {pos pos' : Pos} {ob ix val : Expr} {td ty tv : TE}
theorem keyIs {pins : List (Addr × Obj)} {σ : L2.St} {H : Hp} {s : Shared} (I : L2.Inv X pins σ H s) {k : NestedKey} {b : Addr} (h : KeyAt X.K H k b) : (nestedKind X.prog X.w).is s.heap k b := ⟨nk_is I h.1 rfl, h.2⟩
theorem pe_dgetN (hu : X.A.units + 16 < cLine) (h1 : PE X ob td) (h2 : PE X ix ty) (hs : NoSl ix) : PE X (.Subscript ob ix pos) (tDGetN X.prog X.w X.K td ty) := by
  constructor
  intro pins s σ H Q I h
  refine subD_of PySem.F.slot_dict_getitem.lookup hs (thn (h1.run pins s σ H _ I h) fun u s1 z1 => ?_)
  obtain ⟨x, H1, I1, rx, q1⟩ := z1
  refine thn (h2.run pins s1 σ H1 _ I1 q1) fun iv s2 z2 => ?_
  obtain ⟨y, H2, I2, ry, a, L, k, b, c, v, rfl, rfl, hd, hk, kb, e, q2⟩ := z2
  cases rx
  cases ry
  obtain ⟨xs, r, dd⟩ := (dic_rd I2.hok hd).full fun p hp => keyIs I2 (hk p hp)
  have ra := (atE_rel k r).1
  rw [e] at ra
  obtain ⟨w', hw, rw'⟩ := RelO.some_of (v := v) ra
  obtain ⟨p, hp, hp2⟩ := Option.map_eq_some_iff.mp hw
  refine ⟨dd.typeIs, wpAny_getItem_heap (show X.A.in1.units + 8 < cLine by rw [Around.in1_units]; omega) (keyIs I2 kb) dd hp ?_⟩
  rw [hp2]
  exact ⟨v, H2, I2.tok _, rw', q2⟩
theorem ps_dputN (hu : X.A.units + 16 < cLine) (h1 : PE X ob td) (h2 : PE X ix ty) (h3 : PE X val tv) (hs : swapsWith val (some (.Subscript ob ix pos')) pos.line X.env = pure false) :
    PS X (.Assign [.Subscript ob ix pos'] val pos) (sDPutN X.prog X.w X.K td ty tv) := by
  constructor
  intro pins s σ H D I h
  refine wpAny_Assign_Subscript (thn (h3.run pins s σ H _ I h) fun r s1 z1 => ?_) hs
  obtain ⟨v, H1, I1, rv, q1⟩ := z1
  refine thn (h1.run pins s1 σ H1 _ I1 q1) fun u s2 z2 => ?_
  obtain ⟨x, H2, I2, rx, q2⟩ := z2
  refine thn (h2.run pins s2 σ H2 _ I2 q2) fun iv s3 z3 => ?_
  obtain ⟨y, H3, I3, ry, a, L, k, b, rfl, rfl, hd, hk, kb, hl, q3⟩ := z3
  cases rx
  cases ry
  have R0 := dic_rd I3.hok (.inl hd)
  obtain ⟨xs, rr, dd⟩ := R0.full fun p hp => keyIs I3 (hk p hp)
  have lx : L.length = xs.length := Paired.length rr
  refine wpAny_setItem_heap (hsz := by omega) (show X.A.in1.units + 8 < cLine by rw [Around.in1_units]; omega) (keyIs I3 kb) dd fun h' dd' sb => ?_
  obtain ⟨o', es', ep', ho', hx', hd', he', _, hn'⟩ := dd'
  have R1 : Dic0 X.prog X.w h' a (putE L k b v) := ⟨by have := putE_len L k b v; omega, R0.2.1, _, putE_rel rr k b rv, o', es', ep', ho', hx', hd', he', hn'⟩
  exact ⟨σ, _, I3.write (x := a) (e := a) (by rw [hd]; trivial) (.inl rfl) (fun c q hc z => (sb.2 c hc).trans z) ⟨o', ho'⟩ (dicNO_ok R1), q3⟩
end
section
variable {X : Cx} {pins : List (Addr × Obj)} {σ : L2.St} {H : Hp} {s : Shared} {d : Addr} {o : Obj} {L : Ents}
theorem frzN (I : L2.Inv X pins σ H s) (h : H d = some (.frz o (DicNO X.prog X.w d L))) :
    (d == sysModules) = false ∧ s.heap.get? d = some o ∧ o.ExactDict ∧ ∃ (es : Array DictEntry) (ep : Nat), o.data = .dict es ep ∧ es.size = L.length ∧ ∀ (i : Nat) (k : NestedKey) (b : Addr) (v : V), L[i]? = some (k, b, v) → ∃ en : DictEntry, es[i]? = some en ∧ en.key = .ref b := by
  obtain ⟨g, R, _⟩ := I.hok d _ h
  obtain ⟨z, sy, xs, r, o', es, ep, ho, hx, hd, he, _⟩ := R
  cases g.symm.trans ho
  refine ⟨sy, g, hx, es, ep, hd, (size_of_entries he).trans (Paired.length r).symm, fun i k b v e => ?_⟩
  obtain ⟨q, hq, e1, e2, _⟩ := paired_get r e
  have := entry_at he i
  rw [hq] at this
  exact ⟨_, this, congrArg Value.ref e2.symm⟩
end
/-- the keys' tuples of the locked dict -/
def ItN (P : Program) (w : World) (d : Addr) (o : Obj) (L : Ents) : It where
  go i H := H d = some (.frz o (DicNO P w d L)) ∧ i < L.length
  yld i H x H' := H' = H ∧ ∃ k b v, L[i]? = some (k, b, v) ∧ x = .ref b
  stop i H := H d = some (.frz o (DicNO P w d L)) ∧ L.length ≤ i
theorem turnN {P : Program} {w : World} {K : PySem.W.Frag} {tg : Expr} {d : Addr} {o : Obj} {es : Array DictEntry} {ep : Nat} {L : Ents} (it : Addr) (hod : o.data = .dict es ep) : Turn P w K tg (ItN P w d o L) [it] it (fun i h => h.IsKeyIter it d i L.length ep) where
  mem := List.mem_singleton.mpr rfl
  obj i h st b hb := by
    cases List.mem_singleton.mp hb
    obtain ⟨oi, e, _, dd⟩ := st
    refine ⟨oi, e, fun v z => ?_⟩
    rw [dd] at z
    cases z
  keep i h h' st k := st.at fun oi e => k it (List.mem_singleton.mpr rfl) oi e
  item := by
    rintro X rfl rfl rfl hc i pins s σ H E I hf st ⟨hd, hi⟩
    obtain ⟨g0, g1, g2, g3, g4, g5⟩ := hf it (List.mem_singleton.mpr rfl)
    obtain ⟨_, hgd, _, es', ep', hdt, hsz, ent⟩ := frzN I hd
    cases hod.symm.trans hdt
    obtain ⟨⟨k, b, v⟩, eL⟩ : ∃ p, L[i]? = some p := ⟨_, List.getElem?_eq_getElem hi⟩
    obtain ⟨en, hen, hkey⟩ := ent i k b v eL
    refine next_key_item st hgd hdt hsz hen fun h' st' sb => ?_
    have I1 : L2.Inv X pins σ H { s with heap := h' } := I.turned (t' := s.toks) (fun c oc hb e => (sb.2 c hb).trans e) g0 g1 g3 g4 g5
    obtain ⟨oi, e, c, dd⟩ := id st'
    refine ⟨en.key, rfl, go_of (s := { s with heap := h' }) e c dd (by decide) ⟨.ref b, H, I1, hkey, ⟨rfl, k, b, v, eL, rfl⟩, st', fun c hb => (hf c hb).1⟩⟩
  done := by
    rintro X rfl rfl rfl hc i pins s σ H E I hf st ⟨hd, hi⟩
    obtain ⟨g0, g1, g2, g3, g4, g5⟩ := hf it (List.mem_singleton.mpr rfl)
    obtain ⟨_, hgd, _, es', ep', hdt, hsz, ent⟩ := frzN I hd
    cases hod.symm.trans hdt
    refine next_key_end (I.ok.hd hc) st hgd hdt hsz hi fun h' eb => ⟨rfl, ?_⟩
    exact I.turned (t' := s.toks) (fun c oc hb e => eb c oc hb e) g0 g1 g3 g4 g5
  self A i s Q E st h := by
    refine wpAny_pyIter_slot st.typeIs F.slot_dict_keyiterator_iter (wpAny_call_entry F.slot_dict_keyiterator_iter st.typeIs F.entry_dict_keyiterator_iter ?_ (F.args_dict_keyiterator_iter_1 _))
    exact wpAny_pure ⟨_, rfl, "dict_keyiterator", _, st.typeIs, F.slot_dict_keyiterator_next.lookup, h⟩
/-- for k in d, d locked -/
def iKeysN (P : Program) (w : World) (td : TE) : TI := fun σ H R => td σ H fun x H1 => ∃ (d : Addr) (o : Obj) (L : Ents), x = .ref d ∧ H1 d = some (.frz o (DicNO P w d L)) ∧ R (ItN P w d o L) H1
theorem pi_keysN {X : Cx} {tg e : Expr} {td : TE} (he : PE X e td) : PI X tg e (iKeysN X.prog X.w td) := by
  constructor
  intro pins s σ H R I h
  refine thn (he.run pins s σ H _ I h) fun u s1 z1 => ?_
  obtain ⟨x, H1, I1, rx, d, o, L, rfl, hd, q⟩ := z1
  cases rx
  obtain ⟨hs, hgd, hx, es, ep, hdt, hsz, ent⟩ := frzN I1 hd
  refine iter_keys hs hgd hx hdt (pi_one (tk := s1.toks) I1 _ (turnN _ hdt) ⟨_, Heap.get?_push_size _ rfl, rfl, ?_⟩ q)
  rw [hsz] <;> rfl
theorem walkN {P : Program} {w : World} {d : Addr} {o : Obj} {L : Ents} : Walk (ItN P w d o L) L.length (fun H => H d = some (.frz o (DicNO P w d L))) (fun i H x H' => H' = H ∧ ∃ k b v, L[i]? = some (k, b, v) ∧ x = .ref b) where
  goes i H hi h := ⟨h, hi⟩
  stops H h := ⟨h, Nat.le_refl _⟩
  yields i H x H' hi h y := y
end Lv

/-! sets of texts that can be walked: add, set(list), sorted -/
namespace Lv
open PySem PySem.Spec PyProof.Rows L2 PySem.W PySem.Calls
def zOf : Value → Str
  | .str z _ => z
  | _ => Str.empty
def GoodZ (P : Program) (w : World) (e : Int × Value) : Prop := ∃ z tk, e.2 = Value.str z tk ∧ e.1 = (strKind P w).hash z
abbrev keyZ (e : Int × Value) : Str := zOf e.2
/-- the set of texts at a: ms its members, in no order -/
def SetZ (P : Program) (w : World) (h : Heap) (a : Addr) (ms : List Str) : Prop := ∃ o es ep t, h.get? a = some o ∧ o.ExactSet ∧ o.data = .set es ep t ∧ (∀ e ∈ es.toList, GoodZ P w e) ∧ (es.toList.map keyZ).Perm ms ∧ ms.Nodup ∧
  es.size < scanBound ∧ t.fits es.size = true ∧ Ris t.place.toList ∧ (w.params.followText "set-order" = true ∨ t.led = true)
section
variable {P : Program} {w : World} {h h' : Heap} {a : Addr} {ms : List Str}
theorem SetZ.at (R : SetZ P w h a ms) (k : ∀ o, h.get? a = some o → h'.get? a = some o) : SetZ P w h' a ms := by
  obtain ⟨o, es, ep, t, ho, r⟩ := R
  exact ⟨o, es, ep, t, k o ho, r⟩
theorem SetZ.len (R : SetZ P w h a ms) : ms.length < scanBound := by
  obtain ⟨o, es, ep, t, ho, h1, h2, h3, h4, h5, h6, _⟩ := R
  rw [← h4.length_eq, List.length_map, Array.length_toList]
  exact h6
end
section
variable {P : Program} {w : World} {A : Around} {E : Value → Shared → Prop} {s : Shared} {a : Addr} {ms : List Str}
/-- in the order of the signs -/
def leZ (x y : Str) : Bool := decide (x.cps.toList ≤ y.cps.toList)
def sortZ (ms : List Str) : List Str := ms.mergeSort leZ
theorem leZ_trans (x y z : Str) (h1 : leZ x y = true) (h2 : leZ y z = true) : leZ x z = true := by
  unfold leZ at *
  rw [decide_eq_true_eq] at *
  exact List.le_trans h1 h2
theorem leZ_total (x y : Str) : (leZ x y || leZ y x) = true := by
  unfold leZ
  rw [Bool.or_eq_true, decide_eq_true_eq, decide_eq_true_eq]
  exact List.le_total _ _
theorem leZ_anti {x y : Str} (h1 : leZ x y = true) (h2 : leZ y x = true) : x = y := by
  unfold leZ at *
  rw [decide_eq_true_eq] at *
  have e := List.le_antisymm h1 h2
  obtain ⟨⟨u⟩⟩ := x
  obtain ⟨⟨v⟩⟩ := y
  exact congrArg (fun l : List Nat => (⟨⟨l⟩⟩ : Str)) e
theorem sortZ_perm (ms : List Str) : (sortZ ms).Perm ms := List.mergeSort_perm _ _
theorem sortZ_le (ms : List Str) : (sortZ ms).Pairwise fun x y => leZ x y = true := List.pairwise_mergeSort leZ_trans leZ_total ms
end
end Lv

set_option maxHeartbeats 3200000
/-! set(list of texts), as tracked things -/
namespace Lv
open PySem PySem.Spec PyProof.Rows L2 PySem.W PySem.Calls
/-- the first i of the texts, each once -/
def onceZ (zs : List Str) : List Str := zs.foldl (fun ms z => if z ∈ ms then ms else z :: ms) []
section
variable {P : Program} {w : World} {A : Around} {E : Value → Shared → Prop} {s : Shared}
end
def SetZO (P : Program) (w : World) (a : Addr) (ms : List Str) : HO := .ext fun h => SetZ P w h a ms
/-- set.add of a text -/
def AddZ (P : Program) (w : World) : V → Hp → Addr → (Hp → Prop) → Prop := fun y H D N => ∃ (z : Str) (ms : List Str), y = .str z ∧ H D = some (SetZO P w D ms) ∧ ms.length + 1 < scanBound ∧ N (upd H D (SetZO P w D (if z ∈ ms then ms else z :: ms)))
section
variable {X : Cx}
/-- set(list of texts) -/
def rSetZ (K : PySem.W.Frag) (P : Program) (w : World) : List V → Hp → VK → Prop := fun xs H Q => ∃ (l : Addr) (zs : List Str), xs = [.ref l] ∧ SqL K H l (zs.map V.str) ∧ zs.length ≤ 1000 ∧ ∀ p, H p = none → Q (.ref p) (upd H p (SetZO P w p (onceZ zs)))
/-- sorted(set of texts) -/
def rSortZ (P : Program) (w : World) : List V → Hp → VK → Prop := fun xs H Q => ∃ (a : Addr) (ms : List Str), xs = [.ref a] ∧ H a = some (SetZO P w a ms) ∧ ∀ p, H p = none → Q (.ref p) (upd H p (.lst ((sortZ ms).map V.str)))
end
end Lv

/-! odd values among texts; a raising def with a lambda -/
namespace Lv
open PySem PySem.Spec PyProof.Rows L2 PySem.SeqAt
section
variable {A : Around} {s : Shared}
end
def inW (x : V) (ws : List Str) : Bool := match x with
  | .str z => decide (z ∈ ws)
  | _ => false
/-- x in t, t a tuple of texts, x of any kind -/
def rInW (K : PySem.W.Frag) : V → V → Hp → VK → Prop := fun x y H Q => ∃ (p : Addr) (ws : List Str) (t : String), y = .ref p ∧ SqT K H p (ws.map V.str) ∧ Kn H x t ∧ Q (.bl (inW x ws)) H
section
variable {P : Program} {w : World} {K : PySem.W.Frag} {mg : Str → Option Value} {base : Heap}
/-- okX, the code object's address told -/
theorem okXL {x qual : Str} {st : Stmt} {f c : Addr} {fd : FuncData} {N ps : List Str} {k : Nat} {sp : Sp} (F : Fun K x qual st f fd) (hc : fd.code = .ref c) (S : FnScope N ps (defScope st)) (len : ∀ vs H Q E, sp vs H Q E → vs.length = ps.length)
    (hbody : ∀ (A : Around) (outer : List Env) (s : Shared) (H : Hp) (vs : List V) (Q : VK) (E : XK), Room k (A.deeper (envOfC qual (defScope st) s.heap.objs.size f (.ref c))) → sp vs H Q E →
      ∃ t, PSs (cxOf (L2.CX P w) P w K mg base N qual (defScope st) f (.ref c) A outer s H E) (defBody st) t ∧ t { nx := fun _ H' => Q .non H', rt := Q } (L2.start N vs) H) : FnOk P w K mg base (L2.CX P w) (k + 1) f fd ps sp := by
  obtain ⟨oc, od, kV, doc, pm, an, cdv, ct, osl, rfl, lk, hcd⟩ := F.ex
  cases (show cdv = .ref c from hc)
  exact fn_of lk hcd S len fun A outer s H vs Q E hr hsp => hbody A outer s H vs Q E hr hsp
end
end Lv

/-! methods that may raise wherever they are called; lambdas whose bodies may show what they raise -/
namespace Lv
open PySem PySem.Spec PyProof.Rows L2
section
variable {X : Cx} {CX : CXT} {k : Nat} {f C : Addr} {fd : FuncData} {ps : List Str} {sp : Sp} {dvs : List V} {ds : List Value} {E : XK} {m : Str} {apos pos : Pos} {o e : Expr} {es : List Expr} {t : TA} {ta : TE}
end
section
variable {X : Cx} {pins : List (Addr × Obj)} {σ : L2.St} {H HZ : Hp} {s s1 : Shared}
end
end Lv

/-! keys of sorted: parts of tuples and of instances; what sorted gives -/
namespace Lv
open PySem PySem.Spec PyProof.Rows L2 PySem.W PySem.Calls
mutual
/-- the data of a nested key -/
def dOf : NestedKey → PyData
  | .num i => .int i
  | .text z => .str z
  | .none => .none
  | .tup ks => .tuple (dsOf ks)
def dsOf : List NestedKey → List PyData
  | [] => []
  | k :: ks => dOf k :: dsOf ks
end
section
variable {X : Cx} {pins : List (Addr × Obj)} {σ : L2.St} {H : Hp} {s : Shared}
mutual
theorem nk_reads (I : L2.Inv X pins σ H s) : ∀ {k : NestedKey} {v : V} {u : Value}, NkV X.K H k v → RelV v u → Reads s.heap u (dOf k) []
  | _, _, _, .int i, r => by
    obtain ⟨t, rfl⟩ := r
    exact .int _ _
  | _, _, _, .str z, r => by
    obtain ⟨t, rfl⟩ := r
    exact .str _ _
  | _, _, _, .tup h a, r => by
    cases r
    obtain ⟨its, rv, ⟨o, ho, hc, n, hd⟩, _⟩ := I.tuple h
    have q := nks_reads I a rv
    exact .tuple ho hc hd (by simpa [dOf] using q)
theorem nks_reads (I : L2.Inv X pins σ H s) : ∀ {ks : List NestedKey} {vs : List V} {us : List Value}, NkAll X.K H ks vs → Vals vs us → ReadsAll s.heap us (dsOf ks) []
  | _, _, _, .nil, r => by
    cases r
    exact .nil
  | _, _, _, .cons h a, r => by
    cases r with
    | cons r1 r2 => exact .cons (nk_reads I h r1) (nks_reads I a r2)
end
end
mutual
theorem dOf_depth : ∀ k : NestedKey, (dOf k).depth = k.depth
  | .num i => by rw [dOf, PyData.depth, NestedKey.depth]
  | .text z => by rw [dOf, PyData.depth, NestedKey.depth]
  | .none => by rw [dOf, PyData.depth, NestedKey.depth]
  | .tup ks => by rw [dOf, PyData.depth, NestedKey.depth, dsOf_depth ks]
theorem dsOf_depth : ∀ ks : List NestedKey, PyData.depthAll (dsOf ks) = NestedKey.depthAll ks
  | [] => by rw [dsOf, PyData.depthAll, NestedKey.depthAll]
  | k :: ks => by rw [dsOf, PyData.depthAll, NestedKey.depthAll, dOf_depth k, dsOf_depth ks]
end
mutual
theorem nk_dp {K : PySem.W.Frag} {H : Hp} : ∀ {k : NestedKey} {v : V}, NkV K H k v → Dp K H v (dOf k)
  | _, _, .int i => .int i
  | _, _, .str z => .str z
  | _, _, .tup h a => by
    rw [dOf]
    exact .tup h (nks_dp a)
theorem nks_dp {K : PySem.W.Frag} {H : Hp} : ∀ {ks : List NestedKey} {vs : List V}, NkAll K H ks vs → DpAll K H vs (dsOf ks)
  | _, _, .nil => .nil
  | _, _, .cons h a => .cons (nk_dp h) (nks_dp a)
end
/-- the pairs' keys and values: sorted -/
theorem sort_map {α : Type} (key : α → PyData) (val : α → V) (L : List α) : sortP (L.map fun x => (val x, key x)) = (L.mergeSort (dataLe false key)).map fun x => (val x, key x) := by
  unfold sortP
  refine (List.map_mergeSort fun a _ b _ => ?_).symm
  rw [dataLe_eq, dataLe_eq]
theorem ex_pairs {α : Type} {R : Addr → α → Prop} : ∀ {xs : List V} {cs : List α}, xs.length = cs.length → (∀ (i : Nat) c, cs[i]? = some c → ∃ b, xs[i]? = some (V.ref b) ∧ R b c) → ∃ L : List (Addr × α), xs = L.map (fun p => V.ref p.1) ∧ cs = L.map (·.2) ∧ ∀ p ∈ L, R p.1 p.2
  | [], [], _, _ => ⟨[], rfl, rfl, fun p h => nomatch h⟩
  | [], _ :: _, l, _ => nomatch l
  | _ :: _, [], l, _ => nomatch l
  | x :: xs, c :: cs, l, h => by
    obtain ⟨b, e, r⟩ := h 0 c rfl
    cases e
    obtain ⟨L, e1, e2, e3⟩ := ex_pairs (Nat.succ.inj l) fun i c e => h (i + 1) c e
    refine ⟨(b, c) :: L, by rw [e1]; rfl, by rw [e2]; rfl, fun p hp => ?_⟩
    rcases List.mem_cons.mp hp with rfl | hp
    · exact r
    · exact e3 p hp
theorem of_pairs {α : Type} {R : Addr → α → Prop} {L : List (Addr × α)} (h : ∀ p ∈ L, R p.1 p.2) : (L.map fun p => V.ref p.1).length = (L.map (·.2)).length ∧ ∀ (i : Nat) c, (L.map (·.2))[i]? = some c → ∃ b, (L.map fun p => V.ref p.1)[i]? = some (V.ref b) ∧ R b c := by
  refine ⟨by simp, fun i c e => ?_⟩
  rw [List.getElem?_map] at e
  cases ep : L[i]? with
  | none =>
    rw [ep] at e
    cases e
  | some p =>
    rw [ep] at e
    cases e
    exact ⟨p.1, by rw [List.getElem?_map, ep]; rfl, h p (List.mem_of_getElem? ep)⟩
theorem sort_snd {α : Type} (key : α → PyData) (L : List (Addr × α)) : (L.mergeSort (dataLe false fun p => key p.2)).map (·.2) = (L.map (·.2)).mergeSort (dataLe false key) := by
  refine List.map_mergeSort fun a _ b _ => ?_
  rw [dataLe_eq, dataLe_eq]
section
variable {P : Program} {w : World} {A : Around} {E : Value → Shared → Prop} {env : Env}
/-- one.f[:2], one an instance -/
def KeyA (K : PySem.W.Frag) (C : Addr) (f : Str) (H : Hp) (v : V) (d : PyData) : Prop := ∃ (a dx t : Addr) (fs : List (Str × V)) (xs : List V) (ks : List NestedKey), v = .ref a ∧ H a = some (.ins C dx fs) ∧ fs.lookup f = some (.ref t) ∧ H t = some (.tup xs) ∧ 2 < xs.length ∧ NkAll K H ks (xs.take 2) ∧ d = .tuple (dsOf ks)
theorem kb_attr2 {X : Cx} {C : Addr} {x f : Str} {j : Nat} {p1 p2 p3 p4 cp : Pos} (c : Cls X.K C) (n : NoAttr X.K C f) (hb : ∀ env, attributeBase (.Name x p1) f env (eval (.Name x p1) env) = eval (.Name x p1) env) (hd : (x == ("__debug__" : Str)) = false) :
    KeyBody X x (.Subscript (.Attribute (.Name x p1) f p2) (.Slice none (some (.Constant (.int 2) j cp)) none p3) p4) (KeyA X.K C f) := by
  rintro pins σ H s0 s v u d A h tk env m I ⟨a, dx, t, fs, xs, ks, rfl, ha, hf, ht, h2, hk, rfl⟩ rv k0 k1 hkd hl hn hm
  cases rv
  have Ih : L2.Inv X pins σ H { s0 with heap := h } := I.kept (t' := s0.toks) k0
  refine wp_cut2 (wp_attr (hb env) c n hf (wp_local hkd hl hn hm hd ⟨rfl, Ih.kIn, Ih.hok, ha, fun u' ru tk' => ?_⟩))
  cases ru
  obtain ⟨its, rvs, tp, hz⟩ := Ih.tuple (sqt_of ht)
  have sz : its.toArray.size = xs.length := by rw [List.size_toArray]; exact rvs.length.symm
  refine ⟨t, its.toArray, rfl, tp, by omega, by omega, fun u h' tk2 kp hu => ⟨h', tk2, rfl, fun b o e => kp b o (k1 b o e), ?_⟩⟩
  obtain ⟨o, ho, hc, n2, hdt⟩ := hu
  have I2 : L2.Inv X pins σ H { s0 with heap := h' } := I.kept (t' := s0.toks) fun b o e => kp b o (k0 b o e)
  refine .tuple ho hc hdt ?_
  have vt : Vals (xs.take 2) (its.take 2) := by
    match xs, its, rvs with
    | _, _, .cons r1 (.cons r2 _) => exact .cons r1 (.cons r2 .nil)
    | _, _, .nil => exact .nil
    | _, _, .cons r1 .nil => exact .cons r1 .nil
  exact nks_reads (s := { s0 with heap := h' }) I2 hk vt
/-- one[:2], one a tuple -/
def KeyT (K : PySem.W.Frag) (H : Hp) (v : V) (d : PyData) : Prop := ∃ (t : Addr) (xs : List V) (ks : List NestedKey), v = .ref t ∧ H t = some (.tup xs) ∧ 2 < xs.length ∧ NkAll K H ks (xs.take 2) ∧ d = .tuple (dsOf ks)
/-- one[1], one a tuple -/
def KeyI (K : PySem.W.Frag) (H : Hp) (v : V) (d : PyData) : Prop := ∃ (t : Addr) (xs : List V) (y : V) (k : NestedKey), v = .ref t ∧ H t = some (.tup xs) ∧ xs[1]? = some y ∧ NkV K H k y ∧ d = dOf k
end
end Lv

/-! odd values not in lists of texts -/
namespace Lv
open PySem PySem.Spec PyProof.Rows L2 PySem.SeqAt
/-- x not in l, l a list of texts, x of any kind -/
def rNotInW (K : PySem.W.Frag) : V → V → Hp → VK → Prop := fun x y H Q => ∃ (p : Addr) (ws : List Str) (t : String), y = .ref p ∧ SqL K H p (ws.map V.str) ∧ Kn H x t ∧ Q (.bl (!inW x ws)) H
end Lv

/-! tuple * number, the tuple may be empty -/
namespace Lv
open PySem PySem.Spec PyProof.Rows L2
/-- xs * k, xs empty or not -/
def rRepE (K : PySem.W.Frag) : R2 := fun x y H Q => rRepT K x y H Q ∨ ∃ l k, x = .ref l ∧ y = .int k ∧ SqT K H l [] ∧ 2 ≤ k ∧ k ≤ 1000 ∧ Q (.ref l) H
end Lv

/-! laws whose classes' methods make lambdas: their tables are told of by the head's own word -/
namespace Lv
open PySem PySem.Spec PyProof.Rows L2 LamX
theorem walkGY {l : PySem.W.OpenLaw} {n k : Nat} {q : Program} {loose : List Str}
    {XP : (Str → Option Value) → Heap → Prop} {YP : World → Heap → Prop} {d : DefRec}
    {K : Params → PySem.W.Frag} {sp : PySem.W.Frag → List (Addr × Addr) → Sp} {x : Str}
    (hn : l.most = some n) (hn2 : n ≤ sizeLine) (hdf : d.params.defaults = []) (hr : Room k callerA)
    (hY : ∀ (w : World) (h : Heap), YP w h → (K w.params).In h)
    (F : ∀ (w : World) (mg : Str → Option Value) (fa : Addr) (h : Heap), (K w.params).In h → YP w h →
      h.Ns mainGlobals mg → mg d.name = some (.ref fa) → (∀ y, ((recsOf q).any fun e => e.name == y) = true → TabOf mg h y) →
      ∃ (fd : FuncData) (cs : List (Addr × Addr)), (∀ p ∈ cs, h.get? p.2 = some { cls := .none, data := .fields #[] }) ∧
        (∀ p ∈ cs, (K w.params).lookup p.2 = none) ∧ (∀ p ∈ cs, PySem.W.CodeHd h p.1 p.2) ∧
        (∀ (s : Shared) (u : Value), BindsTo s fd ⟨[u], []⟩ [(x, u)]) ∧
        ∀ base : Heap, (K w.params).In base → base.Ns mainGlobals mg → (∀ p ∈ cs, TabB base mg p.1 p.2) →
          FnG l.prog w (K w.params) mg base CX0 k fa fd [x] (sp (K w.params) cs))
    (hsp : ∀ (K : PySem.W.Frag) (cs : List (Addr × Addr)) (H : Hp) (a : Addr) (ns : List Int), ns.length ≤ n →
      (∀ p ∈ cs, H p.2 = some (.tbl #[])) → SqL K H a (ns.map V.int) → sp K cs [.ref a] H (fun v _ => v = .bl true) E0) :
    PySem.W.WalkO q loose XP YP l.row.toRowW d [] (fun f vs => PySem.call f vs) := by
  refine Att.attach_call hn hdf ?_
  intro w s₀ s₁ mg mb fa o pm cd doc a vs ns G Y ho hd hcd hmg hobj hints hlen hg
  have tab : ∀ y, ((recsOf q).any fun e => e.name == y) = true → TabOf mg s₁.heap y := by
    intro y hy
    obtain ⟨dL, hm, hn1⟩ := List.any_eq_true.mp hy
    obtain ⟨f, o', fd', c, P, h1, h2, h3, h4, h5, h6⟩ := G.T.tab dL hm
    rw [beq_iff_eq.mp hn1] at h1
    exact ⟨f, o', fd', c, P, h1, h2, h3, h4, PySem.W.CodeHd.of h5 h6, h6.2⟩
  obtain ⟨fd, cs, t1, t2, t3, hb, hF⟩ := F w mg fa _ (hY w _ Y) Y G.T.g hmg tab
  exact lawGT (hY w _ Y) G.T.g G.T.b G.T.builtins G.T.nolimit hg t1 t2 t3 G.T.bmain hobj hints (Nat.le_trans hlen hn2) hr hF hb
    (fun H hH hS => hsp _ cs H a ns hlen hH hS)
end Lv

/-! enumerate(tuple) -/
namespace Lv
open PySem PySem.Spec PyProof.Rows L2
/-- the two objects that enumerate of the tuple at t makes -/
abbrev enH (h : Heap) (t : Addr) : Heap := h.push { cls := .type "tuple_iterator", data := .fields #[.ref t, .int 0 0] }
abbrev enO (k : Addr) : Obj := { cls := .type "enumerate", data := .fields #[.none, .bool false, .ref k, rawInt 0, .none, .none] }
open PySem.Sem (wp) in
open PySem.AutoSeq1 (wpAny_loadPart') in
theorem enum_newT (t : Addr) (vs : Array Value) (k : Nat) (dd : Option Addr) (so : Array (Option Value)) :
    Meets (Builtin.«enumerate.__new__» ⟨[.type "enumerate", .ref t], []⟩) fun _ R st => st.heap.get? t = some { cls := .type "tuple", dict := dd, data := .seq vs k, slots := so } ∧
      R (.ok (.ret (.ref (enH st.heap t).objs.size))) { st with heap := (enH st.heap t).push (enO st.heap.objs.size) } :=
  .of_wp fun p w B R st hh => by
    obtain ⟨hp, gs, ds, tk, os⟩ := st
    obtain ⟨ht, hR⟩ := hh
    have sb := sub_enumerate
    have isT : Heap.IsTuple (Shared.heap ⟨hp, gs, ds, tk, os⟩) t vs := ⟨_, ht, rfl, k, rfl⟩
    wp_walk using wpAny_loadPart' ht
    refine wpAny_stack_any fun sk => wpAny_pure ?_
    split
    · rename_i cc _ _ _ _ _
      cases (cc == Value.type "enumerate") <;> (wp_walk using wpAny_loadPart' ht, wpAny_pyIter_tuple isT; exact ⟨_, rfl, hR⟩)
    · wp_walk using wpAny_loadPart' ht, wpAny_pyIter_tuple isT
      exact ⟨_, rfl, hR⟩
section
variable {prog : Program} {w : World} {A : Around} {E : Value → Shared → Prop} {s : Shared}
theorem call_enumT {t : Addr} {vs : Array Value} {Q : Value → Shared → Prop} (hT : s.heap.IsTuple t vs)
    (q : ∀ h2, IsEnum h2 (s.heap.objs.size + 1) s.heap.objs.size 0 .none → h2.IsTupleIter s.heap.objs.size t 0 → (∀ b o, s.heap.get? b = some o → h2.get? b = some o) → Q (.ref (s.heap.objs.size + 1)) { s with heap := h2 }) :
    wpAny (model prog w) A (call (.type "enumerate") [.ref t]) Q E s := by
  obtain ⟨⟨cc, dd, dt, so⟩, ht, hc, k, hd⟩ := hT
  obtain rfl : cc = .type "tuple" := hc
  obtain rfl : dt = .seq vs k := hd
  have e1 : (enH s.heap t).objs.size = s.heap.objs.size + 1 := Heap.size_push ..
  have e2 : IsEnum ((enH s.heap t).push (enO s.heap.objs.size)) (s.heap.objs.size + 1) s.heap.objs.size 0 .none := by
    have z := Heap.get?_push_size (enH s.heap t) (o := enO s.heap.objs.size) rfl
    rw [e1] at z
    exact z
  refine callType_new F.called_enumerate (by decide) (F.typeCall_enumerate_1 _) (F.newCall_enumerate_1 _) (fun ob => F.args_object_init_2 ob _) F.entry_enumerate_new (enum_newT t vs k dd so) ⟨ht, ?_⟩
  show _ ∧ _
  rw [e1]
  exact ⟨⟨_, e2, rfl⟩, q _ e2 ⟨_, Heap.get?_push_of_some _ (Heap.get?_push_size _ rfl), rfl, rfl⟩ fun b o z => Heap.get?_push_of_some _ (Heap.get?_push_of_some _ z)⟩
end
/-- the tuple at t, each item in a new pair behind its place -/
def IteT (K : PySem.W.Frag) (t : Addr) : It where
  go i H := ∃ (xs : List V) (x : V), SqT K H t xs ∧ xs[i]? = some x
  yld i H v H' := ∃ N x, v = .ref N ∧ H N = none ∧ H' = upd H N (.tup [.int (i : Nat), x]) ∧ ∀ xs, SqT K H t xs → xs[i]? = some x
  stop i H := ∃ xs : List V, SqT K H t xs ∧ xs.length ≤ i
theorem turn_enumT {P : Program} {w : World} {K : PySem.W.Frag} {elts : List Expr} {kk : Nat} {tpos : Pos} {t e j : Addr} (n1 : e ≠ j) (n2 : t ≠ j) (n3 : e ≠ t) :
    Turn P w K (.Tuple elts kk tpos) (IteT K t) [e, j] e (fun i h => (∃ old, IsEnum h e j ((i : Nat) : Int) old) ∧ h.IsTupleIter j t i) where
  mem := by simp
  obj := fun i h st b hb => by
    obtain ⟨⟨old, he⟩, o, ho, hc, hd⟩ := st
    rcases (show b = e ∨ b = j by simpa using hb) with z | z <;> subst z
    · exact ⟨_, he, fun v q => nomatch q⟩
    · exact ⟨o, ho, fun v q => by rw [hd] at q; cases q⟩
  keep := fun i h h' st k => let ⟨⟨old, he⟩, hi⟩ := st; ⟨⟨old, k e (by simp) _ he⟩, hi.at fun o q => k j (by simp) o q⟩
  item := by
    intro X hP hw hK hc i pins s σ H E I hf st hg
    subst hP hw hK
    obtain ⟨⟨old, he⟩, hi⟩ := st
    obtain ⟨xs, x, hq, hx⟩ := hg
    obtain ⟨its, rv, p, hz⟩ := I.tuple hq
    obtain ⟨u, hu, ru⟩ := rv.get hx
    have le : e < s.heap.objs.size := Heap.lt_size he
    have lj : j < s.heap.objs.size := by
      obtain ⟨_, q, _⟩ := hi
      exact Heap.lt_size q
    have pT : s.heap.IsTuple t its.toArray := p
    have li : i < its.toArray.size := by
      have := (List.getElem?_eq_some_iff.mp hu).1
      rw [List.size_toArray]
      exact this
    have hA1 : X.A.in1.handled = none := I.ok.hd hc
    refine wpAny_pyNext_enum_itemD (Draws.tuple hA1 j t n2 its.toArray) he ⟨hi, pT⟩ li n1 (by simp [n1, n3]) fun y h1 tk hy ho st1 hN hs1 hk => ?_
    have ey : y = u := by
      have h2 : its.toArray[i]? = some y := hy
      rw [List.getElem?_toArray, hu] at h2
      exact (Option.some.inj h2).symm
    subst ey
    obtain ⟨hi1, _⟩ := st1
    refine ⟨_, rfl, wpAny_letOwnedTupleGo_enum (s := { s with heap := h1, toks := tk + 1 }) ho fun h2 he2 sb => ?_⟩
    have hN2 : h2.get? s.heap.objs.size = some { cls := .type "tuple", data := .seq #[.int i tk, y] } := (sb.2 _ (Nat.ne_of_gt le)).trans hN
    have I1 : Inv X pins σ (upd H s.heap.objs.size (.tup [.int (i : Nat), x])) { s with heap := h2, toks := tk + 1 } :=
      I.turnedNew (t' := tk + 1) (ch := [e, j]) (fun b o hb q => (sb.2 b fun z => hb (by simp [z])).trans (hk b o (fun z => hb (by simp [z])) (fun z => hb (by simp [z])) q)) hf (Nat.le_refl _)
        ⟨by show 2 ≤ sizeLine; decide, [.int i tk, y], .cons ⟨_, rfl⟩ (.cons ru .nil), _, hN2, rfl, _, rfl⟩
    refine ⟨.ref s.heap.objs.size, _, I1, rfl, ⟨_, x, rfl, I.hok.fresh (Nat.le_refl _), rfl, fun ys hy => by rw [I.tuple_inj hy hq]; exact hx⟩, ⟨⟨y, ?_⟩, hi1.at fun o q => (sb.2 j (Ne.symm n1)).trans q⟩, fun b hb => ?_⟩
    · have e1 : ((i + 1 : Nat) : Int) = (i : Int) + 1 := by omega
      rw [e1]
      exact he2
    · have lb : b < s.heap.objs.size := by
        rcases (show b = e ∨ b = j by simpa using hb) with z | z <;> (subst z; assumption)
      rw [upd_ne (Nat.ne_of_lt lb)]
      exact (hf b hb).1
  done := by
    intro X hP hw hK hc i pins s σ H E I hf st hg
    subst hP hw hK
    obtain ⟨⟨old, he⟩, hi⟩ := st
    obtain ⟨xs, hq, hx⟩ := hg
    obtain ⟨its, rv, p, hz⟩ := I.tuple hq
    have pT : s.heap.IsTuple t its.toArray := p
    have ll := rv.length
    have none_ : its.toArray[i]? = none := by
      rw [List.getElem?_toArray]
      exact List.getElem?_eq_none (by omega)
    have hA1 : X.A.in1.handled = none := I.ok.hd hc
    have D : Draws X.prog X.w X.A.in1 j [j, t] i (fun _ _ => True) fun k h => k = i ∧ h.IsTupleIter j t i ∧ h.IsTuple t its.toArray :=
      { live := fun k h st => let ⟨o, ho, _⟩ := st.2.1; ⟨o, ho⟩
        frame := fun k h h' st kp => ⟨st.1, st.2.1.at fun o z => kp j (by simp) o z, st.2.2.at fun o z => kp t (by simp) o z⟩
        item := fun k s Q E lt st _ => absurd st.1 (Nat.ne_of_lt lt)
        done := fun s Q E st hE => wpAny_nextOf_tuple_end hA1 st.2.1 st.2.2 none_ hE }
    obtain ⟨f0, f1, f2, f3, f4, f5⟩ := hf j (by simp)
    exact wpAny_pyNext_enum_endD D he ⟨rfl, hi, pT⟩ fun h' eb => ⟨rfl, I.turned (t' := s.toks) (fun b o hb q => eb b o hb q) f0 f1 f3 f4 f5⟩
  self := fun A i s Q E st h => let ⟨⟨_, he⟩, _⟩ := st; wpAny_pyIter_enum he h
/-- enumerate of a list or a tuple -/
def iEnumA (K : PySem.W.Frag) (ta : TA) : TI := fun σ H R => ta σ H fun vs H1 => ∃ a xs, vs = [.ref a] ∧ ((SqL K H1 a xs ∧ R (Ite K a) H1) ∨ (SqT K H1 a xs ∧ R (IteT K a) H1))
theorem pi_enumA {X : Cx} {e : Expr} {ta : TA} {p pos tpos : Pos} {elts : List Expr} {kk : Nat} (hg : Gl X "enumerate") (hm : X.mg "enumerate" = none) (ha : PA X [e] ta) (hs : starEach [e] X.env = [(false, eval e X.env)] := by rfl) :
    PI X (.Tuple elts kk tpos) (.Call (.Name "enumerate" p) [e] [] pos) (iEnumA X.K ta) := by
  refine ⟨fun pins s σ H R I h => ?_⟩
  refine Call_ (ld_blt I hg hm boot_enumerate (PyProof.Rows.callWith_type1 (thn (ha.run pos pins s σ H _ I h) fun us s1 h1 => ?_) hs rfl))
  obtain ⟨vs, H1, I1, r1, a, xs, rfl, q⟩ := h1
  obtain ⟨u, rfl, ru⟩ := r1.one
  cases ru
  have fr : ∀ b, b = s1.heap.objs.size + 1 ∨ b = s1.heap.objs.size → FpOk X pins H1 b := fun b z => by
    have le : s1.heap.objs.size ≤ b := by rcases z with z | z <;> omega
    exact I1.fpOk le (I1.hok.fresh le)
  rcases q with ⟨hq, q⟩ | ⟨hq, q⟩
  · obtain ⟨its, rv, pl, hz⟩ := I1.list hq
    refine call_enumerate_list pl.isList fun h' he hi hz2 hk => wpAny_pyIter_enum he ?_
    exact ⟨_, [s1.heap.objs.size + 1, s1.heap.objs.size], _, _, H1, rfl, I1.kept (t' := s1.toks) hk, turn_enum a _ _, ⟨⟨.none, he⟩, hi, Nat.succ_ne_self _⟩, fun b hb => fr b (by simpa using hb), q⟩
  · obtain ⟨its, rv, pt, hz⟩ := I1.tuple hq
    have pT : s1.heap.IsTuple a its.toArray := pt
    have la : a < s1.heap.objs.size := by
      obtain ⟨o, ho, _⟩ := id pT
      exact Heap.lt_size ho
    refine call_enumT pT fun h' he hi hk => wpAny_pyIter_enum he ?_
    exact ⟨_, [s1.heap.objs.size + 1, s1.heap.objs.size], _, _, H1, rfl, I1.kept (t' := s1.toks) hk, turn_enumT (Nat.succ_ne_self _) (Nat.ne_of_lt la) (Nat.ne_of_gt (Nat.lt_succ_of_lt la)), ⟨⟨.none, he⟩, hi⟩, fun b hb => fr b (by simpa using hb), q⟩
theorem walk_enumT {K : PySem.W.Frag} {t : Addr} {xs : List V} : Walk (IteT K t) xs.length (fun H => SqT K H t xs) (YPair (fun i => some (.int (i : Nat))) (fun i => xs[i]?)) := by
  refine ⟨fun i _ hi q => ⟨xs, xs[i], q, List.getElem?_eq_getElem hi⟩, fun _ q => ⟨xs, q, Nat.le_refl _⟩, fun i H v H' _ q y => ?_⟩
  obtain ⟨N, x, h1, h2, h3, h4⟩ := y
  exact ⟨N, .int (i : Nat), x, h1, h2, h3, rfl, h4 xs q⟩
end Lv

/-! a def with defaults, all its values handed in -/
namespace Lv
open PySem PySem.Spec PyProof.Rows L2
end Lv

/-! repr of nested tuples with empty dicts in them -/
namespace Lv
open PySem PySem.Spec PyProof.Rows L2
/-- data without lists; empty dicts may be in it -/
inductive Nl (K : PySem.W.Frag) (H : Hp) : V → PyData → Prop
  | non : Nl K H .non .none
  | bl (b : Bool) : Nl K H (.bl b) (.bool b)
  | int (i : Int) : Nl K H (.int i) (.int i)
  | str (z : Str) : Nl K H (.str z) (.str z)
  | emp {a : Addr} (h : H a = some (.dK [])) : Nl K H (.ref a) (.dict [])
  | tup {a : Addr} {xs : List V} {ds : List PyData} (h : SqT K H a xs) (l : xs.length = ds.length) (k : ∀ (i : Nat) x d, xs[i]? = some x → ds[i]? = some d → Nl K H x d) : Nl K H (.ref a) (.tuple ds)
/-- a value and its data: lists and dicts not in one -/
def Vz (K : PySem.W.Frag) (H : Hp) (v : V) (d : PyData) : Prop := (Dp K H v d ∧ d.hasDict = false) ∨ Nl K H v d
/-- data that is shown in at most n signs -/
structure Sz (d : PyData) (k n : Nat) : Prop where
  dep : d.depth ≤ k
  shw : d.showable = true
  len : d.shown.length ≤ n
theorem Sz.mono {d : PyData} {k n k' n' : Nat} (g : Sz d k n) (h1 : k ≤ k') (h2 : n ≤ n') : Sz d k' n' := ⟨Nat.le_trans g.dep h1, g.shw, Nat.le_trans g.len h2⟩
theorem Gd.sz {d : PyData} {k n : Nat} (g : Gd d k n) : Sz d k n := ⟨g.dep, g.shw, g.len⟩
theorem sz_all {k n : Nat} : ∀ {ds : List PyData}, (∀ d ∈ ds, Sz d k n) → PyData.depthAll ds ≤ k ∧ PyData.showableAll ds = true ∧ ((PyData.shownAll ds).map (·.length)).sum + 2 * (PyData.shownAll ds).length ≤ ds.length * (n + 2)
  | [], _ => ⟨by simp [PyData.depthAll], by simp [PyData.showableAll], by simp [PyData.shownAll]⟩
  | d :: ds, h => by
    have g := h d (.head _)
    obtain ⟨r1, r2, r3⟩ := sz_all (ds := ds) fun x hx => h x (.tail _ hx)
    have h2 := g.len
    refine ⟨?_, ?_, ?_⟩
    · rw [PyData.depthAll]
      exact Nat.max_le.mpr ⟨g.dep, r1⟩
    · rw [PyData.showableAll, g.shw, r2]
      rfl
    · have e : (ds.length + 1) * (n + 2) = ds.length * (n + 2) + (n + 2) := Nat.succ_mul ..
      rw [PyData.shownAll, List.map_cons, List.sum_cons, List.length_cons, List.length_cons, e]
      omega
theorem Sz.tuple {ds : List PyData} {k n : Nat} (h : ∀ d ∈ ds, Sz d k n) : Sz (.tuple ds) (k + 1) (ds.length * (n + 2) + 3) := by
  obtain ⟨g1, g2, g3⟩ := sz_all h
  refine ⟨?_, ?_, ?_⟩
  · rw [PyData.depth]
    omega
  · rw [PyData.showable]
    exact g2
  · have := tupleText_len_le (PyData.shownAll ds)
    rw [PyData.shown]
    omega
theorem Sz.emp : Sz (.dict []) 1 2 := ⟨by decide +kernel, by decide +kernel, by decide +kernel⟩
theorem Sz.sm {d : PyData} {k n : Nat} (g : Sz d k n) (h1 : k ≤ 60) (h2 : n ≤ 80000) (h3 : ∀ z, d = .str z → z.length ≤ 80000) : Sm d := ⟨g.shw, by have := g.dep; omega, by have := g.len; omega, fun z e => by have := h3 z e; omega⟩
theorem all_ix {K : PySem.W.Frag} {h : Heap} {P : List Addr → Prop} (p0 : P []) (pa : ∀ x y, P x → P y → P (x ++ y)) : ∀ {us : List Value} {ds : List PyData}, us.length = ds.length → (∀ (i : Nat) u d, us[i]? = some u → ds[i]? = some d → ∃ as, Reads h u d as ∧ P as) → ∃ as, ReadsAll h us ds as ∧ P as
  | [], [], _, _ => ⟨[], .nil, p0⟩
  | [], _ :: _, l, _ => nomatch l
  | _ :: _, [], l, _ => nomatch l
  | u :: us, d :: ds, l, k => by
    obtain ⟨as, h1, h2⟩ := k 0 u d rfl rfl
    obtain ⟨bs, h3, h4⟩ := all_ix (K := K) p0 pa (us := us) (ds := ds) (Nat.succ.inj l) fun i u d e1 e2 => k (i + 1) u d e1 e2
    exact ⟨as ++ bs, .cons h1 h3, pa _ _ h2 h4⟩
section
variable {X : Cx} {pins : List (Addr × Obj)} {σ : L2.St} {H : Hp} {s : Shared}
theorem Nl.reads {v : V} {d : PyData} (h : Nl X.K H v d) (I : L2.Inv X pins σ H s) : ∀ {u : Value}, RelV v u → ∃ as, Reads s.heap u d as ∧ sysModules ∉ as := by
  induction h with
  | non =>
    intro u r
    obtain rfl : u = .none := r
    exact ⟨_, .none, by simp⟩
  | bl b =>
    intro u r
    obtain rfl : u = .bool b := r
    exact ⟨_, .bool b, by simp⟩
  | int i =>
    intro u r
    obtain ⟨t, rfl⟩ := r
    exact ⟨_, .int i t, by simp⟩
  | str z =>
    intro u r
    obtain ⟨t, rfl⟩ := r
    exact ⟨_, .str z t, by simp⟩
  | @emp a ha =>
    intro u r
    cases r
    obtain ⟨_, ns, vs, kv, hd⟩ := (show ObjOk X.prog X.w H s.heap a (.dK []) from I.hok a _ ha)
    cases kv
    refine ⟨_, PyProof.V.reads_dictOf (enc := encK) encK_ok hd .nil, fun m => ?_⟩
    rw [List.mem_singleton.mp m] at ns
    simp at ns
  | @tup a xs ds ht l k ih =>
    intro u r
    cases r
    obtain ⟨its, rv, ⟨o, ho, hc, n, hdt⟩, _⟩ := I.tuple ht
    obtain ⟨as, h1, h2⟩ := all_ix (K := X.K) (h := s.heap) (P := fun as => sysModules ∉ as) (by simp) (fun x y h1 h2 h3 => (List.mem_append.mp h3).elim h1 h2) (us := its) (ds := ds) (by rw [← rv.length, l]) fun i u d e1 e2 => by
      have hi : i < xs.length := by rw [rv.length]; exact (List.getElem?_eq_some_iff.mp e1).1
      obtain ⟨u', hu, ru⟩ := rv.get (List.getElem?_eq_getElem hi)
      rw [e1] at hu
      cases hu
      exact ih i _ d (List.getElem?_eq_getElem hi) e2 ru
    exact ⟨as, .tuple ho hc hdt h1, h2⟩
theorem Vz.reads {v : V} {d : PyData} {u : Value} (I : L2.Inv X pins σ H s) (h : Vz X.K H v d) (r : RelV v u) : ∃ as, Reads s.heap u d as ∧ (d.hasDict = true → sysModules ∉ as) := by
  rcases h with ⟨hd, hn⟩ | h
  · obtain ⟨as, rd⟩ := Dp.reads I d v u hd r
    exact ⟨as, rd, PyData.noDict_hsm hn⟩
  · obtain ⟨as, rd, ns⟩ := h.reads I r
    exact ⟨as, rd, fun _ => ns⟩
/-- repr of a value by its data -/
def rRpZ (K : PySem.W.Frag) : List V → Hp → VK → Prop := fun xs H Q => ∃ (v : V) (d : PyData), xs = [v] ∧ Vz K H v d ∧ Sm d ∧ Q (.str d.shown) H
theorem call_rpZ (hgd : X.A.guards = some []) (hu : X.A.units + 64 < cLine) : CallR X (.builtin "repr") (rRpZ X.K) := by
  intro pins s σ H xs us Q I r h
  obtain ⟨v, d, rfl, hv, sm, q⟩ := h
  obtain ⟨u, rfl, rx⟩ := vals1 r
  obtain ⟨as, rd, ns⟩ := hv.reads I rx
  have dn : ∀ (h' : Heap) (t tk : Tok), (∀ b o, s.heap.get? b = some o → h'.get? b = some o) → ∃ v' H', L2.Inv X pins σ H' { s with heap := h', toks := tk } ∧ RelV v' (.str d.shown t) ∧ Q v' H' := fun h' t tk k => ⟨.str d.shown, H, I.kept k, ⟨t, rfl⟩, q⟩
  have ln : d.shown.length ≤ sizeLine := sz100 (by have := sm.ln; omega)
  have dp := sm.dp
  have onR : ∀ a, u = .ref a → wpAny (model X.prog X.w) X.A (call (.builtin "repr") [u]) (fun u s' => ∃ v H', L2.Inv X pins σ H' s' ∧ RelV v u ∧ Q v H') X.xe s := fun a e => by
    subst e
    exact repr_of_reads' rd sm.sh ns hgd (by omega) (fun _ _ e => e) (fun h' t tk k => dn h' t tk k) ln
  cases rd with
  | none => exact PySem.P.repr_of_none (dn s.heap _ _ fun _ _ e => e)
  | bool b => exact PySem.P.repr_of_bool (dn s.heap _ _ fun _ _ e => e)
  | int i t => exact PySem.P.repr_of_int (of_decide_eq_true sm.sh) (dn s.heap _ _ fun _ _ e => e)
  | str x t => exact PySem.P.repr_of_str (dn s.heap _ _ fun _ _ e => e) ln
  | list => exact onR _ rfl
  | tuple => exact onR _ rfl
  | dict => exact onR _ rfl
end
end Lv

/-! tuple * number, many times -/
namespace Lv
open PySem PySem.Spec PyProof.Rows L2
/-- a short tuple, up to 10000 times -/
def rRepL (K : PySem.W.Frag) : R2 := fun x y H Q => ∃ l n xs, x = .ref l ∧ y = .int (n : Nat) ∧ SqT K H l xs ∧ xs ≠ [] ∧ 2 ≤ n ∧ n ≤ 10000 ∧ xs.length ≤ 10 ∧ ∀ p, H p = none → Q (.ref p) (upd H p (.tup (List.replicate n xs).flatten))
theorem op_repL {X : Cx} : OpR X (binaryOp .Mult) (rRepL X.K) := by
  intro pins s σ H x y v u Q I rx ry h
  obtain ⟨l, n, xs, rfl, rfl, hT, ne, lo, hi, lx, q⟩ := h
  cases rx
  obtain ⟨t, rfl⟩ := ry
  obtain ⟨its, r, ⟨⟨cls, dd, data, sl⟩, ho, hc, m, hd⟩, hs⟩ := I.tuple hT
  simp only at hc hd
  subst hc hd
  have li : its.length = xs.length := r.length.symm
  have pos : 0 < xs.length := List.length_pos_iff.mpr ne
  have em : its.toArray.isEmpty = false := by
    cases its with
    | nil => (rw [List.length_nil] at li; omega)
    | cons a b => rfl
  have top : xs.length * n ≤ 10 * 10000 := Nat.mul_le_mul lx hi
  have topI : ((its.toArray.size : Nat) : Int) * (n : Int) ≤ 100000 := by
    rw [List.size_toArray, li, ← Int.natCast_mul]
    omega
  have fl : (List.replicate n its).flatten.length ≤ sizeLine := by
    rw [PyProof.Rows.lm_len_rep_flat, li, sizeLine_eq, Nat.mul_comm]
    omega
  have tm : Builtin.Tuple.tupleTooMany (((its.toArray.size : Nat) : Int) * (n : Int)) = false := by
    unfold Builtin.Tuple.tupleTooMany
    rw [sizeLine_eq]
    exact decide_eq_false (by omega)
  have w1 : (decide ((n : Int) < -(2 ^ 63)) || decide ((n : Int) ≥ 2 ^ 63)) = false := by rw [decide_eq_false (by omega), decide_eq_false (by omega)]; rfl
  have w2 : (its.toArray.isEmpty || (n : Int) == 1) = false := by rw [em, Bool.false_or]; exact beq_eq_false_iff_ne.mpr (by omega)
  have w3 : (decide ((n : Int) ≤ 0) || its.toArray.isEmpty) = false := by rw [em, Bool.or_false]; exact decide_eq_false (by omega)
  have mul := tuple_mulW l its.toArray m dd sl (n : Int) t w1 w2 w3 (by omega) tm (by rw [size_rep, List.size_toArray, Int.toNat_natCast]; exact fl)
  refine wpAny_binaryOp_repeat_ref (T := "tuple") (U := "int") (by decide) ⟨_, ho, rfl⟩ (fun s' => typeIs_int s' _ t) noFill_tuple_mul F.fills_int_mul F.slot_int_rmul repeat_tuple F.slot_int_index.lookup
    (call_meets F.slot_int_rmul (typeIs_int s _ t) F.entry_int_rmul (F.args_int_rmul_2 _ _) (int_rmul_tuple _ t l its.toArray m dd sl)
      ⟨ho, rfl, ⟨_, ho, rfl⟩, call_meets F.slot_tuple_mul ⟨_, ho, rfl⟩ F.entry_tuple_mul (F.args_tuple_mul_2 _ _) mul ⟨ho, ?_⟩⟩)
  rw [size_rep, Int.toNat_natCast]
  refine ⟨.ref s.heap.objs.size, _, I.laid (t' := s.toks) (o := .tup (List.replicate n xs).flatten) (fun b ob q => Heap.get?_push_of_some _ q) (Nat.le_refl _) ?_, rfl, q _ (I.hok.fresh (Nat.le_refl _))⟩
  exact ⟨by rw [PyProof.Rows.lm_len_rep_flat, sizeLine_eq, Nat.mul_comm]; omega, _, r.rep n, IsTup.new _ _⟩
end Lv

namespace K84
open PySem PySem.Spec PyProof.Rows L2 Lv
def P : Program := PySem.Challenge.pw_laterivals_k84_errors_of_texts
def topS (i : Nat) : Stmt := PySem.Challenge.pw_laterivals_k84_errors_of_texts.main.body.getD i (.Pass ⟨0, 0, 0, 0⟩)
def clsS (i j : Nat) : Stmt := match topS i with
  | .ClassDef _ _ _ b _ _ _ _ _ _ _ => b.getD j (.Pass ⟨0, 0, 0, 0⟩)
  | s => s
abbrev s_is_integer : Stmt := topS 14
abbrev s_is_integer_within : Stmt := topS 15
abbrev s_is_name : Stmt := topS 16
abbrev s_is_names : Stmt := topS 17
abbrev s_is_type : Stmt := topS 18
abbrev s_is_ascending : Stmt := topS 19
abbrev s_write_type : Stmt := topS 20
abbrev s_is_conversion : Stmt := topS 30
abbrev s_is_pattern : Stmt := topS 31
abbrev s_is_result : Stmt := topS 32
abbrev s_text_of_side : Stmt := topS 33
abbrev s_line_of_candidate : Stmt := topS 35
abbrev s_side_of : Stmt := topS 36
abbrev s_pattern_of : Stmt := topS 37
abbrev s_result_of_text : Stmt := topS 38
abbrev s_candidate_of : Stmt := topS 39
abbrev s_are_patterns : Stmt := topS 41
abbrev s_names_in_candidate : Stmt := topS 43
abbrev s_names_in_conversion : Stmt := topS 44
abbrev s_names_in : Stmt := topS 45
abbrev s_are_items : Stmt := topS 46
abbrev s_is_library_of : Stmt := topS 47
abbrev s_require_library : Stmt := topS 48
abbrev s_is_line : Stmt := topS 57
abbrev s_is_program : Stmt := topS 58
abbrev s_require_program : Stmt := topS 59
abbrev s_write_library : Stmt := topS 66
abbrev s_write_call : Stmt := topS 67
abbrev s_write_program : Stmt := topS 68
abbrev s_law_reel_of : Stmt := topS 70
abbrev s_law_spin : Stmt := topS 71
abbrev s_law_pick : Stmt := topS 72
abbrev s_law_mixed : Stmt := topS 73
abbrev s_law_words : Stmt := topS 74
abbrev s_law_front : Stmt := topS 75
abbrev s_law_type : Stmt := topS 76
abbrev s_law_rule : Stmt := topS 77
abbrev s_law_offer : Stmt := topS 78
abbrev s_law_filled : Stmt := topS 79
abbrev s_law_elder : Stmt := topS 80
abbrev s_law_library : Stmt := topS 81
abbrev s_law_word_of : Stmt := topS 82
abbrev s_law_bad_names : Stmt := topS 83
abbrev s_law_bad_lines : Stmt := topS 84
abbrev s_law_right : Stmt := topS 85
abbrev s_law : Stmt := topS 86
abbrev s_Candidate___init__ : Stmt := clsS 42 0
abbrev s_Candidate_from_line : Stmt := clsS 42 1
abbrev s_Library___init__ : Stmt := clsS 53 0
theorem sc_is_integer : FnScope ["value"] ["value"] (defScope s_is_integer) :=
  ⟨rfl, rfl, rfl, by decide +kernel, rfl, by decide +kernel, by decide +kernel⟩
theorem sc_is_integer_within : FnScope ["value", "least", "most"] ["value", "least", "most"] (defScope s_is_integer_within) :=
  ⟨rfl, rfl, rfl, by decide +kernel, rfl, by decide +kernel, by decide +kernel⟩
theorem sc_is_name : FnScope ["value", "sign"] ["value"] (defScope s_is_name) :=
  ⟨rfl, rfl, rfl, by decide +kernel, rfl, by decide +kernel, by decide +kernel⟩
theorem sc_is_names : FnScope ["value", "least", "most", "name"] ["value", "least", "most"] (defScope s_is_names) :=
  ⟨rfl, rfl, rfl, by decide +kernel, rfl, by decide +kernel, by decide +kernel⟩
theorem sc_is_type : FnScope ["value"] ["value"] (defScope s_is_type) :=
  ⟨rfl, rfl, rfl, by decide +kernel, rfl, by decide +kernel, by decide +kernel⟩
theorem sc_is_ascending : FnScope ["values", "one", "other"] ["values"] (defScope s_is_ascending) :=
  ⟨rfl, rfl, rfl, by decide +kernel, rfl, by decide +kernel, by decide +kernel⟩
theorem sc_write_type : FnScope ["names"] ["names"] (defScope s_write_type) :=
  ⟨rfl, rfl, rfl, by decide +kernel, rfl, by decide +kernel, by decide +kernel⟩
theorem sc_is_conversion : FnScope ["value", "kind", "left", "right"] ["value"] (defScope s_is_conversion) :=
  ⟨rfl, rfl, rfl, by decide +kernel, rfl, by decide +kernel, by decide +kernel⟩
theorem sc_is_pattern : FnScope ["value"] ["value"] (defScope s_is_pattern) :=
  ⟨rfl, rfl, rfl, by decide +kernel, rfl, by decide +kernel, by decide +kernel⟩
theorem sc_is_result : FnScope ["value", "patterns", "word", "names", "front", "at"] ["value", "patterns"] (defScope s_is_result) :=
  ⟨rfl, rfl, rfl, by decide +kernel, rfl, by decide +kernel, by decide +kernel⟩
theorem sc_text_of_side : FnScope ["is_open", "names"] ["is_open", "names"] (defScope s_text_of_side) :=
  ⟨rfl, rfl, rfl, by decide +kernel, rfl, by decide +kernel, by decide +kernel⟩
theorem sc_line_of_candidate : FnScope ["candidate", "patterns", "kind", "names", "at", "end", "one"] ["candidate"] (defScope s_line_of_candidate) :=
  ⟨rfl, rfl, rfl, by decide +kernel, rfl, by decide +kernel, by decide +kernel⟩
theorem sc_side_of : FnScope ["words", "is_front"] ["words"] (defScope s_side_of) :=
  ⟨rfl, rfl, rfl, by decide +kernel, rfl, by decide +kernel, by decide +kernel⟩
theorem sc_pattern_of : FnScope ["text", "is_front", "names"] ["text"] (defScope s_pattern_of) :=
  ⟨rfl, rfl, rfl, by decide +kernel, rfl, by decide +kernel, by decide +kernel⟩
theorem sc_result_of_text : FnScope ["text", "words"] ["text"] (defScope s_result_of_text) :=
  ⟨rfl, rfl, rfl, by decide +kernel, rfl, by decide +kernel, by decide +kernel⟩
theorem sc_candidate_of : FnScope ["line", "name", "bracket", "rest", "inner", "gives", "end", "patterns", "result", "found", "text"] ["line"] (defScope s_candidate_of) :=
  ⟨rfl, rfl, rfl, by decide +kernel, rfl, by decide +kernel, by decide +kernel⟩
theorem sc_are_patterns : FnScope ["value", "one"] ["value"] (defScope s_are_patterns) :=
  ⟨rfl, rfl, rfl, by decide +kernel, rfl, by decide +kernel, by decide +kernel⟩
theorem sc_names_in_candidate : FnScope ["candidate", "sides", "kind", "names"] ["candidate"] (defScope s_names_in_candidate) :=
  ⟨rfl, rfl, rfl, by decide +kernel, rfl, by decide +kernel, by decide +kernel⟩
theorem sc_names_in_conversion : FnScope ["conversion", "kind", "left", "right", "rank", "fronts"] ["conversion"] (defScope s_names_in_conversion) :=
  ⟨rfl, rfl, rfl, by decide +kernel, rfl, by decide +kernel, by decide +kernel⟩
theorem sc_names_in : FnScope ["item", "fronts", "types", "marks", "front", "mark", "names"] ["item"] (defScope s_names_in) :=
  ⟨rfl, rfl, rfl, by decide +kernel, rfl, by decide +kernel, by decide +kernel⟩
theorem sc_are_items : FnScope ["conversions", "candidates", "one"] ["conversions", "candidates"] (defScope s_are_items) :=
  ⟨rfl, rfl, rfl, by decide +kernel, rfl, by decide +kernel, by decide +kernel⟩
theorem sc_is_library_of : FnScope ["marks", "bases", "conversions", "candidates", "item", "own_marks", "own_bases", "name", "mark", "base"] ["marks", "bases", "conversions", "candidates"] (defScope s_is_library_of) :=
  ⟨rfl, rfl, rfl, by decide +kernel, rfl, by decide +kernel, by decide +kernel⟩
theorem sc_require_library : FnScope ["value"] ["value"] (defScope s_require_library) :=
  ⟨rfl, rfl, rfl, by decide +kernel, rfl, by decide +kernel, by decide +kernel⟩
theorem sc_is_line : FnScope ["at", "value", "one"] ["at", "value"] (defScope s_is_line) :=
  ⟨rfl, rfl, rfl, by decide +kernel, rfl, by decide +kernel, by decide +kernel⟩
theorem sc_is_program : FnScope ["value", "at", "line"] ["value"] (defScope s_is_program) :=
  ⟨rfl, rfl, rfl, by decide +kernel, rfl, by decide +kernel, by decide +kernel⟩
theorem sc_require_program : FnScope ["value"] ["value"] (defScope s_require_program) :=
  ⟨rfl, rfl, rfl, by decide +kernel, rfl, by decide +kernel, by decide +kernel⟩
theorem sc_write_library : FnScope ["library"] ["library"] (defScope s_write_library) :=
  ⟨rfl, rfl, rfl, by decide +kernel, rfl, by decide +kernel, by decide +kernel⟩
theorem sc_write_call : FnScope ["name", "types", "one"] ["name", "types"] (defScope s_write_call) :=
  ⟨rfl, rfl, rfl, by decide +kernel, rfl, by decide +kernel, by decide +kernel⟩
theorem sc_write_program : FnScope ["program", "rows", "line", "at"] ["program"] (defScope s_write_program) :=
  ⟨rfl, rfl, rfl, by decide +kernel, rfl, by decide +kernel, by decide +kernel⟩
theorem sc_law_reel_of : FnScope ["_law_script", "_law_spot", "_law_cell", "_law_great", "_law_blend"] ["_law_script", "_law_spot"] (defScope s_law_reel_of) :=
  ⟨rfl, rfl, rfl, by decide +kernel, rfl, by decide +kernel, by decide +kernel⟩
theorem sc_law_spin : FnScope ["_law_reel", "_law_total", "_law_found", "_law_one", "_law_two"] ["_law_reel", "_law_total"] (defScope s_law_spin) :=
  ⟨rfl, rfl, rfl, by decide +kernel, rfl, by decide +kernel, by decide +kernel⟩
theorem sc_law_pick : FnScope ["_law_reel", "_law_items"] ["_law_reel", "_law_items"] (defScope s_law_pick) :=
  ⟨rfl, rfl, rfl, by decide +kernel, rfl, by decide +kernel, by decide +kernel⟩
theorem sc_law_mixed : FnScope ["_law_reel", "_law_items", "_law_left", "_law_found", "_law_turn"] ["_law_reel", "_law_items"] (defScope s_law_mixed) :=
  ⟨rfl, rfl, rfl, by decide +kernel, rfl, by decide +kernel, by decide +kernel⟩
theorem sc_law_words : FnScope ["_law_reel", "_law_size", "_law_pool"] ["_law_reel", "_law_size"] (defScope s_law_words) :=
  ⟨rfl, rfl, rfl, by decide +kernel, rfl, by decide +kernel, by decide +kernel⟩
theorem sc_law_front : FnScope ["_law_reel", "_law_spec", "_law_most", "_law_size", "_law_turn"] ["_law_reel", "_law_spec", "_law_most"] (defScope s_law_front) :=
  ⟨rfl, rfl, rfl, by decide +kernel, rfl, by decide +kernel, by decide +kernel⟩
theorem sc_law_type : FnScope ["_law_reel", "_law_spec", "_law_most"] ["_law_reel", "_law_spec", "_law_most"] (defScope s_law_type) :=
  ⟨rfl, rfl, rfl, by decide +kernel, rfl, by decide +kernel, by decide +kernel⟩
theorem sc_law_rule : FnScope ["_law_reel", "_law_spec", "_law_price", "_law_kind", "_law_found"] ["_law_reel", "_law_spec"] (defScope s_law_rule) :=
  ⟨rfl, rfl, rfl, by decide +kernel, rfl, by decide +kernel, by decide +kernel⟩
theorem sc_law_offer : FnScope ["_law_reel", "_law_spec", "_law_names", "_law_patterns", "_law_turn", "_law_fronts", "_law_end", "_law_at"] ["_law_reel", "_law_spec", "_law_names"] (defScope s_law_offer) :=
  ⟨rfl, rfl, rfl, by decide +kernel, rfl, by decide +kernel, by decide +kernel⟩
theorem sc_law_filled : FnScope ["_law_reel", "_law_spec", "_law_names", "_law_size", "_law_rules", "_law_offers", "_law_turn", "_law_rule_here", "_law_offer_here", "_law_rows", "_law_one"] ["_law_reel", "_law_spec", "_law_names", "_law_size"] (defScope s_law_filled) :=
  ⟨rfl, rfl, rfl, by decide +kernel, rfl, by decide +kernel, by decide +kernel⟩
theorem sc_law_elder : FnScope ["_law_reel", "_law_size", "_law_words_here", "_law_marks", "_law_bases", "_law_spec", "_law_found"] ["_law_reel", "_law_size"] (defScope s_law_elder) :=
  ⟨rfl, rfl, rfl, by decide +kernel, rfl, by decide +kernel, by decide +kernel⟩
theorem sc_law_library : FnScope ["_law_spec", "_law_offers", "_law_offer_here"] ["_law_spec"] (defScope s_law_library) :=
  ⟨rfl, rfl, rfl, by decide +kernel, rfl, by decide +kernel, by decide +kernel⟩
theorem sc_law_word_of : FnScope ["_law_call"] ["_law_call"] (defScope s_law_word_of) :=
  ⟨rfl, rfl, rfl, by decide +kernel, rfl, by decide +kernel, by decide +kernel⟩
theorem sc_law_bad_names : FnScope ["_law_found"] [] (defScope s_law_bad_names) :=
  ⟨rfl, rfl, rfl, by decide +kernel, rfl, by decide +kernel, by decide +kernel⟩
theorem sc_law_bad_lines : FnScope ["_law_at", "_law_found", "_law_places", "_law_name", "_law_names"] ["_law_at"] (defScope s_law_bad_lines) :=
  ⟨rfl, rfl, rfl, by decide +kernel, rfl, by decide +kernel, by decide +kernel⟩
theorem sc_law_right : FnScope ["_law_reel", "_law_spec", "_law_library_here", "_law_one", "_law_odd", "_law_names", "_law_name", "_law_good", "_law_bad", "_law_types", "_law_copied", "_law_told", "_law_lines", "_law_at", "_law_wrong", "_law_none", "_law_value"] ["_law_reel"] (defScope s_law_right) :=
  ⟨rfl, rfl, rfl, by decide +kernel, rfl, by decide +kernel, by decide +kernel⟩
theorem sc_law : FnScope ["_law_script", "_law_spot", "_law_reel", "_law_turn", "_law_more", "_law_told", "_law_lines"] ["_law_script"] (defScope s_law) :=
  ⟨rfl, rfl, rfl, by decide +kernel, rfl, by decide +kernel, by decide +kernel⟩
theorem sc_Candidate___init__ : FnScope ["self", "name", "patterns", "result"] ["self", "name", "patterns", "result"] (defScope s_Candidate___init__) :=
  ⟨rfl, rfl, rfl, by decide +kernel, rfl, by decide +kernel, by decide +kernel⟩
theorem sc_Candidate_from_line : FnScope ["cls", "line", "found"] ["cls", "line"] (defScope s_Candidate_from_line) :=
  ⟨rfl, rfl, rfl, by decide +kernel, rfl, by decide +kernel, by decide +kernel⟩
theorem sc_Library___init__ : FnScope ["self", "marks", "bases", "conversions", "candidates"] ["self", "marks", "bases", "conversions", "candidates"] (defScope s_Library___init__) :=
  ⟨rfl, rfl, rfl, by decide +kernel, rfl, by decide +kernel, by decide +kernel⟩
/-- where the text's defs and constants stand; which names are still built-in -/
structure Tx (K : PySem.W.Frag) (mg : Str → Option Value) where
  f_is_integer : Addr
  d_is_integer : FuncData
  F_is_integer : Fun K "is_integer" "is_integer" s_is_integer f_is_integer d_is_integer
  b_is_integer : Binds K d_is_integer ["value"] []
  g_is_integer : mg "is_integer" = some (.ref f_is_integer)
  f_is_integer_within : Addr
  d_is_integer_within : FuncData
  F_is_integer_within : Fun K "is_integer_within" "is_integer_within" s_is_integer_within f_is_integer_within d_is_integer_within
  b_is_integer_within : Binds K d_is_integer_within ["value", "least", "most"] []
  g_is_integer_within : mg "is_integer_within" = some (.ref f_is_integer_within)
  f_is_name : Addr
  d_is_name : FuncData
  F_is_name : Fun K "is_name" "is_name" s_is_name f_is_name d_is_name
  b_is_name : Binds K d_is_name ["value"] []
  g_is_name : mg "is_name" = some (.ref f_is_name)
  f_is_names : Addr
  d_is_names : FuncData
  F_is_names : Fun K "is_names" "is_names" s_is_names f_is_names d_is_names
  b_is_names : Binds K d_is_names ["value", "least", "most"] []
  g_is_names : mg "is_names" = some (.ref f_is_names)
  f_is_type : Addr
  d_is_type : FuncData
  F_is_type : Fun K "is_type" "is_type" s_is_type f_is_type d_is_type
  b_is_type : Binds K d_is_type ["value"] []
  g_is_type : mg "is_type" = some (.ref f_is_type)
  f_is_ascending : Addr
  d_is_ascending : FuncData
  F_is_ascending : Fun K "is_ascending" "is_ascending" s_is_ascending f_is_ascending d_is_ascending
  b_is_ascending : Binds K d_is_ascending ["values"] []
  g_is_ascending : mg "is_ascending" = some (.ref f_is_ascending)
  f_write_type : Addr
  d_write_type : FuncData
  F_write_type : Fun K "write_type" "write_type" s_write_type f_write_type d_write_type
  b_write_type : Binds K d_write_type ["names"] []
  g_write_type : mg "write_type" = some (.ref f_write_type)
  f_is_conversion : Addr
  d_is_conversion : FuncData
  F_is_conversion : Fun K "is_conversion" "is_conversion" s_is_conversion f_is_conversion d_is_conversion
  b_is_conversion : Binds K d_is_conversion ["value"] []
  g_is_conversion : mg "is_conversion" = some (.ref f_is_conversion)
  f_is_pattern : Addr
  d_is_pattern : FuncData
  F_is_pattern : Fun K "is_pattern" "is_pattern" s_is_pattern f_is_pattern d_is_pattern
  b_is_pattern : Binds K d_is_pattern ["value"] []
  g_is_pattern : mg "is_pattern" = some (.ref f_is_pattern)
  f_is_result : Addr
  d_is_result : FuncData
  F_is_result : Fun K "is_result" "is_result" s_is_result f_is_result d_is_result
  b_is_result : Binds K d_is_result ["value", "patterns"] []
  g_is_result : mg "is_result" = some (.ref f_is_result)
  f_text_of_side : Addr
  d_text_of_side : FuncData
  F_text_of_side : Fun K "text_of_side" "text_of_side" s_text_of_side f_text_of_side d_text_of_side
  b_text_of_side : Binds K d_text_of_side ["is_open", "names"] []
  g_text_of_side : mg "text_of_side" = some (.ref f_text_of_side)
  f_line_of_candidate : Addr
  d_line_of_candidate : FuncData
  F_line_of_candidate : Fun K "line_of_candidate" "line_of_candidate" s_line_of_candidate f_line_of_candidate d_line_of_candidate
  b_line_of_candidate : Binds K d_line_of_candidate ["candidate"] []
  g_line_of_candidate : mg "line_of_candidate" = some (.ref f_line_of_candidate)
  f_side_of : Addr
  d_side_of : FuncData
  F_side_of : Fun K "side_of" "side_of" s_side_of f_side_of d_side_of
  b_side_of : Binds K d_side_of ["words"] []
  g_side_of : mg "side_of" = some (.ref f_side_of)
  f_pattern_of : Addr
  d_pattern_of : FuncData
  F_pattern_of : Fun K "pattern_of" "pattern_of" s_pattern_of f_pattern_of d_pattern_of
  b_pattern_of : Binds K d_pattern_of ["text"] []
  g_pattern_of : mg "pattern_of" = some (.ref f_pattern_of)
  f_result_of_text : Addr
  d_result_of_text : FuncData
  F_result_of_text : Fun K "result_of_text" "result_of_text" s_result_of_text f_result_of_text d_result_of_text
  b_result_of_text : Binds K d_result_of_text ["text"] []
  g_result_of_text : mg "result_of_text" = some (.ref f_result_of_text)
  f_candidate_of : Addr
  d_candidate_of : FuncData
  F_candidate_of : Fun K "candidate_of" "candidate_of" s_candidate_of f_candidate_of d_candidate_of
  b_candidate_of : Binds K d_candidate_of ["line"] []
  g_candidate_of : mg "candidate_of" = some (.ref f_candidate_of)
  f_are_patterns : Addr
  d_are_patterns : FuncData
  F_are_patterns : Fun K "are_patterns" "are_patterns" s_are_patterns f_are_patterns d_are_patterns
  b_are_patterns : Binds K d_are_patterns ["value"] []
  g_are_patterns : mg "are_patterns" = some (.ref f_are_patterns)
  f_names_in_candidate : Addr
  d_names_in_candidate : FuncData
  F_names_in_candidate : Fun K "names_in_candidate" "names_in_candidate" s_names_in_candidate f_names_in_candidate d_names_in_candidate
  b_names_in_candidate : Binds K d_names_in_candidate ["candidate"] []
  g_names_in_candidate : mg "names_in_candidate" = some (.ref f_names_in_candidate)
  f_names_in_conversion : Addr
  d_names_in_conversion : FuncData
  F_names_in_conversion : Fun K "names_in_conversion" "names_in_conversion" s_names_in_conversion f_names_in_conversion d_names_in_conversion
  b_names_in_conversion : Binds K d_names_in_conversion ["conversion"] []
  g_names_in_conversion : mg "names_in_conversion" = some (.ref f_names_in_conversion)
  f_names_in : Addr
  d_names_in : FuncData
  F_names_in : Fun K "names_in" "names_in" s_names_in f_names_in d_names_in
  b_names_in : Binds K d_names_in ["item"] []
  g_names_in : mg "names_in" = some (.ref f_names_in)
  f_are_items : Addr
  d_are_items : FuncData
  F_are_items : Fun K "are_items" "are_items" s_are_items f_are_items d_are_items
  b_are_items : Binds K d_are_items ["conversions", "candidates"] []
  g_are_items : mg "are_items" = some (.ref f_are_items)
  f_is_library_of : Addr
  d_is_library_of : FuncData
  F_is_library_of : Fun K "is_library_of" "is_library_of" s_is_library_of f_is_library_of d_is_library_of
  b_is_library_of : Binds K d_is_library_of ["marks", "bases", "conversions", "candidates"] []
  g_is_library_of : mg "is_library_of" = some (.ref f_is_library_of)
  f_require_library : Addr
  d_require_library : FuncData
  F_require_library : Fun K "require_library" "require_library" s_require_library f_require_library d_require_library
  b_require_library : Binds K d_require_library ["value"] []
  g_require_library : mg "require_library" = some (.ref f_require_library)
  f_is_line : Addr
  d_is_line : FuncData
  F_is_line : Fun K "is_line" "is_line" s_is_line f_is_line d_is_line
  b_is_line : Binds K d_is_line ["at", "value"] []
  g_is_line : mg "is_line" = some (.ref f_is_line)
  f_is_program : Addr
  d_is_program : FuncData
  F_is_program : Fun K "is_program" "is_program" s_is_program f_is_program d_is_program
  b_is_program : Binds K d_is_program ["value"] []
  g_is_program : mg "is_program" = some (.ref f_is_program)
  f_require_program : Addr
  d_require_program : FuncData
  F_require_program : Fun K "require_program" "require_program" s_require_program f_require_program d_require_program
  b_require_program : Binds K d_require_program ["value"] []
  g_require_program : mg "require_program" = some (.ref f_require_program)
  f_write_library : Addr
  d_write_library : FuncData
  F_write_library : Fun K "write_library" "write_library" s_write_library f_write_library d_write_library
  b_write_library : Binds K d_write_library ["library"] []
  g_write_library : mg "write_library" = some (.ref f_write_library)
  f_write_call : Addr
  d_write_call : FuncData
  F_write_call : Fun K "write_call" "write_call" s_write_call f_write_call d_write_call
  b_write_call : Binds K d_write_call ["name", "types"] []
  g_write_call : mg "write_call" = some (.ref f_write_call)
  f_write_program : Addr
  d_write_program : FuncData
  F_write_program : Fun K "write_program" "write_program" s_write_program f_write_program d_write_program
  b_write_program : Binds K d_write_program ["program"] []
  g_write_program : mg "write_program" = some (.ref f_write_program)
  f__law_reel_of : Addr
  d__law_reel_of : FuncData
  F__law_reel_of : Fun K "_law_reel_of" "_law_reel_of" s_law_reel_of f__law_reel_of d__law_reel_of
  b__law_reel_of : Binds K d__law_reel_of ["_law_script", "_law_spot"] []
  g__law_reel_of : mg "_law_reel_of" = some (.ref f__law_reel_of)
  f__law_spin : Addr
  d__law_spin : FuncData
  F__law_spin : Fun K "_law_spin" "_law_spin" s_law_spin f__law_spin d__law_spin
  b__law_spin : Binds K d__law_spin ["_law_reel", "_law_total"] []
  g__law_spin : mg "_law_spin" = some (.ref f__law_spin)
  f__law_pick : Addr
  d__law_pick : FuncData
  F__law_pick : Fun K "_law_pick" "_law_pick" s_law_pick f__law_pick d__law_pick
  b__law_pick : Binds K d__law_pick ["_law_reel", "_law_items"] []
  g__law_pick : mg "_law_pick" = some (.ref f__law_pick)
  f__law_mixed : Addr
  d__law_mixed : FuncData
  F__law_mixed : Fun K "_law_mixed" "_law_mixed" s_law_mixed f__law_mixed d__law_mixed
  b__law_mixed : Binds K d__law_mixed ["_law_reel", "_law_items"] []
  g__law_mixed : mg "_law_mixed" = some (.ref f__law_mixed)
  f__law_words : Addr
  d__law_words : FuncData
  F__law_words : Fun K "_law_words" "_law_words" s_law_words f__law_words d__law_words
  b__law_words : Binds K d__law_words ["_law_reel", "_law_size"] []
  g__law_words : mg "_law_words" = some (.ref f__law_words)
  f__law_front : Addr
  d__law_front : FuncData
  F__law_front : Fun K "_law_front" "_law_front" s_law_front f__law_front d__law_front
  b__law_front : Binds K d__law_front ["_law_reel", "_law_spec", "_law_most"] []
  g__law_front : mg "_law_front" = some (.ref f__law_front)
  f__law_type : Addr
  d__law_type : FuncData
  F__law_type : Fun K "_law_type" "_law_type" s_law_type f__law_type d__law_type
  b__law_type : Binds K d__law_type ["_law_reel", "_law_spec", "_law_most"] []
  g__law_type : mg "_law_type" = some (.ref f__law_type)
  f__law_rule : Addr
  d__law_rule : FuncData
  F__law_rule : Fun K "_law_rule" "_law_rule" s_law_rule f__law_rule d__law_rule
  b__law_rule : Binds K d__law_rule ["_law_reel", "_law_spec"] []
  g__law_rule : mg "_law_rule" = some (.ref f__law_rule)
  f__law_offer : Addr
  d__law_offer : FuncData
  F__law_offer : Fun K "_law_offer" "_law_offer" s_law_offer f__law_offer d__law_offer
  b__law_offer : Binds K d__law_offer ["_law_reel", "_law_spec", "_law_names"] []
  g__law_offer : mg "_law_offer" = some (.ref f__law_offer)
  f__law_filled : Addr
  d__law_filled : FuncData
  F__law_filled : Fun K "_law_filled" "_law_filled" s_law_filled f__law_filled d__law_filled
  b__law_filled : Binds K d__law_filled ["_law_reel", "_law_spec", "_law_names", "_law_size"] []
  g__law_filled : mg "_law_filled" = some (.ref f__law_filled)
  f__law_elder : Addr
  d__law_elder : FuncData
  F__law_elder : Fun K "_law_elder" "_law_elder" s_law_elder f__law_elder d__law_elder
  b__law_elder : Binds K d__law_elder ["_law_reel", "_law_size"] []
  g__law_elder : mg "_law_elder" = some (.ref f__law_elder)
  f__law_library : Addr
  d__law_library : FuncData
  F__law_library : Fun K "_law_library" "_law_library" s_law_library f__law_library d__law_library
  b__law_library : Binds K d__law_library ["_law_spec"] []
  g__law_library : mg "_law_library" = some (.ref f__law_library)
  f__law_word_of : Addr
  d__law_word_of : FuncData
  F__law_word_of : Fun K "_law_word_of" "_law_word_of" s_law_word_of f__law_word_of d__law_word_of
  b__law_word_of : Binds K d__law_word_of ["_law_call"] []
  g__law_word_of : mg "_law_word_of" = some (.ref f__law_word_of)
  f__law_bad_names : Addr
  d__law_bad_names : FuncData
  F__law_bad_names : Fun K "_law_bad_names" "_law_bad_names" s_law_bad_names f__law_bad_names d__law_bad_names
  b__law_bad_names : Binds K d__law_bad_names [] []
  g__law_bad_names : mg "_law_bad_names" = some (.ref f__law_bad_names)
  f__law_bad_lines : Addr
  d__law_bad_lines : FuncData
  F__law_bad_lines : Fun K "_law_bad_lines" "_law_bad_lines" s_law_bad_lines f__law_bad_lines d__law_bad_lines
  b__law_bad_lines : Binds K d__law_bad_lines ["_law_at"] []
  g__law_bad_lines : mg "_law_bad_lines" = some (.ref f__law_bad_lines)
  f__law_right : Addr
  d__law_right : FuncData
  F__law_right : Fun K "_law_right" "_law_right" s_law_right f__law_right d__law_right
  b__law_right : Binds K d__law_right ["_law_reel"] []
  g__law_right : mg "_law_right" = some (.ref f__law_right)
  f_law : Addr
  d_law : FuncData
  F_law : Fun K "law" "law" s_law f_law d_law
  b_law : Binds K d_law ["_law_script"] []
  g_law : mg "law" = some (.ref f_law)
  f_Candidate___init__ : Addr
  d_Candidate___init__ : FuncData
  F_Candidate___init__ : Fun K "__init__" "Candidate.__init__" s_Candidate___init__ f_Candidate___init__ d_Candidate___init__
  b_Candidate___init__ : Binds K d_Candidate___init__ ["self", "name", "patterns", "result"] []
  f_Candidate_from_line : Addr
  d_Candidate_from_line : FuncData
  F_Candidate_from_line : Fun K "from_line" "Candidate.from_line" s_Candidate_from_line f_Candidate_from_line d_Candidate_from_line
  b_Candidate_from_line : Binds K d_Candidate_from_line ["cls", "line"] []
  f_Library___init__ : Addr
  d_Library___init__ : FuncData
  F_Library___init__ : Fun K "__init__" "Library.__init__" s_Library___init__ f_Library___init__ d_Library___init__
  e_Library___init___conversions : Addr
  q_Library___init___conversions : ∀ H : Hp, SqT K H e_Library___init___conversions []
  e_Library___init___candidates : Addr
  q_Library___init___candidates : ∀ H : Hp, SqT K H e_Library___init___candidates []
  kb0_Library___init__ : KBn K d_Library___init__ ["self", "marks", "bases", "conversions", "candidates"] 3 [] (fun us ws => us ++ (ws ++ [.ref e_Library___init___conversions, .ref e_Library___init___candidates])) (fun vs zs => vs ++ (zs ++ [.ref e_Library___init___conversions, .ref e_Library___init___candidates]))
  kb1_Library___init__ : KBn K d_Library___init__ ["self", "marks", "bases", "conversions", "candidates"] 3 ["conversions"] (fun us ws => us ++ (ws ++ [.ref e_Library___init___candidates])) (fun vs zs => vs ++ (zs ++ [.ref e_Library___init___candidates]))
  kb2_Library___init__ : KBn K d_Library___init__ ["self", "marks", "bases", "conversions", "candidates"] 3 ["conversions", "candidates"] (fun us ws => us ++ (ws ++ [])) (fun vs zs => vs ++ (zs ++ []))
  t_MAX_DEPTH : Tok
  m_MAX_DEPTH : mg "MAX_DEPTH" = some (.int (400) t_MAX_DEPTH)
  t_MAX_RANK : Tok
  m_MAX_RANK : mg "MAX_RANK" = some (.int (9) t_MAX_RANK)
  t_MAX_LETTERS : Tok
  m_MAX_LETTERS : mg "MAX_LETTERS" = some (.int (8) t_MAX_LETTERS)
  a_KEYWORDS : Addr
  m_KEYWORDS : mg "KEYWORDS" = some (.ref a_KEYWORDS)
  q_KEYWORDS : ∀ H : Hp, SqT K H a_KEYWORDS [.str "gives", .str "to"]
  t_MAX_MARKS : Tok
  m_MAX_MARKS : mg "MAX_MARKS" = some (.int (8) t_MAX_MARKS)
  t_MAX_BASES : Tok
  m_MAX_BASES : mg "MAX_BASES" = some (.int (8) t_MAX_BASES)
  t_MAX_CONVERSIONS : Tok
  m_MAX_CONVERSIONS : mg "MAX_CONVERSIONS" = some (.int (16) t_MAX_CONVERSIONS)
  t_MAX_CANDIDATES : Tok
  m_MAX_CANDIDATES : mg "MAX_CANDIDATES" = some (.int (16) t_MAX_CANDIDATES)
  t_MAX_PATTERNS : Tok
  m_MAX_PATTERNS : mg "MAX_PATTERNS" = some (.int (3) t_MAX_PATTERNS)
  t_MAX_NAMES : Tok
  m_MAX_NAMES : mg "MAX_NAMES" = some (.int (5) t_MAX_NAMES)
  t_MAX_LEFT : Tok
  m_MAX_LEFT : mg "MAX_LEFT" = some (.int (2) t_MAX_LEFT)
  t_MAX_FRONT : Tok
  m_MAX_FRONT : mg "MAX_FRONT" = some (.int (3) t_MAX_FRONT)
  t_MAX_LINES : Tok
  m_MAX_LINES : mg "MAX_LINES" = some (.int (8000) t_MAX_LINES)
  t_MAX_ARGUMENTS_reached : Tok
  m_MAX_ARGUMENTS_reached : mg "MAX_ARGUMENTS_reached" = some (.int (3) t_MAX_ARGUMENTS_reached)
  t_VALUE : Tok
  m_VALUE : mg "VALUE" = some (.str "value" t_VALUE)
  t_CALL : Tok
  m_CALL : mg "CALL" = some (.str "call" t_CALL)
  t_MAX_ARGUMENTS_texts : Tok
  m_MAX_ARGUMENTS_texts : mg "MAX_ARGUMENTS_texts" = some (.int (3) t_MAX_ARGUMENTS_texts)
  n_abs : mg "abs" = none
  n_all : mg "all" = none
  n_any : mg "any" = none
  n_bool : mg "bool" = none
  n_classmethod : mg "classmethod" = none
  n_dict : mg "dict" = none
  n_enumerate : mg "enumerate" = none
  n_int : mg "int" = none
  n_isinstance : mg "isinstance" = none
  n_len : mg "len" = none
  n_list : mg "list" = none
  n_max : mg "max" = none
  n_min : mg "min" = none
  n_one : mg "one" = none
  n_range : mg "range" = none
  n_repr : mg "repr" = none
  n_sorted : mg "sorted" = none
  n_str : mg "str" = none
  n_tuple : mg "tuple" = none
  n_zip : mg "zip" = none
  c__law_right : Addr
  P__law_right : Addr
  k__law_right : d__law_right.code = .ref c__law_right
  c_law : Addr
  P_law : Addr
  k_law : d_law.code = .ref c_law
  c_Library___init__ : Addr
  P_Library___init__ : Addr
  k_Library___init__ : d_Library___init__.code = .ref c_Library___init__
  pn__law_right_law : P__law_right ≠ P_law
  pn__law_right_Library___init__ : P__law_right ≠ P_Library___init__
  pn_law_Library___init__ : P_law ≠ P_Library___init__
  C_InvalidWord : Addr
  m_InvalidWord : mg "InvalidWord" = some (.ref C_InvalidWord)
  C_InvalidLibrary : Addr
  m_InvalidLibrary : mg "InvalidLibrary" = some (.ref C_InvalidLibrary)
  C_InvalidCall : Addr
  m_InvalidCall : mg "InvalidCall" = some (.ref C_InvalidCall)
  C_InvalidProgram : Addr
  m_InvalidProgram : mg "InvalidProgram" = some (.ref C_InvalidProgram)
  C_ParseError : Addr
  m_ParseError : mg "ParseError" = some (.ref C_ParseError)
  C_Candidate : Addr
  m_Candidate : mg "Candidate" = some (.ref C_Candidate)
  C_Library : Addr
  m_Library : mg "Library" = some (.ref C_Library)
  cl_Candidate : Cls K C_Candidate
  kp_Candidate : PySem.W.keepIn K (.ref C_Candidate) = true
  ha_Candidate : PySem.W.findIn K (.ref C_Candidate) "__class__" = some (some (.builtin "object.__class__"))
  ob_Candidate : PySem.W.mroIn K C_Candidate (.type "object") = some true
  ne_Candidate : PySem.W.findIn K (.ref C_Candidate) "__ne__" = some (some (.builtin "object.__ne__"))
  zs_Candidate : PySem.W.kitOne K (.type "str") (.ref C_Candidate) = some false
  zt_Candidate : PySem.W.kitOne K (.type "tuple") (.ref C_Candidate) = some false
  zn_Candidate : PySem.W.kitOne K (.type "NoneType") (.ref C_Candidate) = some false
  zi_Candidate : PySem.W.kitOne K (.type "int") (.ref C_Candidate) = some false
  zc_Candidate : PySem.W.kitOne K (.ref C_Candidate) (.type "str") = some false
  zl_Candidate : PySem.W.kitOne K (.type "list") (.ref C_Candidate) = some false
  zd_Candidate : PySem.W.kitOne K (.type "dict") (.ref C_Candidate) = some false
  zb_Candidate : PySem.W.kitOne K (.type "bool") (.ref C_Candidate) = some false
  zu_Candidate : PySem.W.kitOne K (.ref C_Candidate) (.type "tuple") = some false
  hn_Candidate : PySem.W.specialIn K (.builtin "object.__class__") "__get__" = some (some (.builtin "getset_descriptor.__get__"))
  ht_Candidate : PySem.W.takesIn K (.builtin "object.__class__") = some true
  no_Candidate_own_name : NoAttr K C_Candidate "own_name"
  no_Candidate_own_patterns : NoAttr K C_Candidate "own_patterns"
  no_Candidate_own_result : NoAttr K C_Candidate "own_result"
  no_Candidate_own_key : NoAttr K C_Candidate "own_key"
  mk_Candidate : Mk K C_Candidate f_Candidate___init__
  mc_Candidate : Value
  cr_Candidate : ClX.CRead K C_Candidate mc_Candidate
  pa_Candidate_from_line : Addr
  cm_Candidate_from_line : ClX.CMet K C_Candidate mc_Candidate "from_line" pa_Candidate_from_line f_Candidate_from_line
  cl_Library : Cls K C_Library
  kp_Library : PySem.W.keepIn K (.ref C_Library) = true
  ha_Library : PySem.W.findIn K (.ref C_Library) "__class__" = some (some (.builtin "object.__class__"))
  ob_Library : PySem.W.mroIn K C_Library (.type "object") = some true
  ne_Library : PySem.W.findIn K (.ref C_Library) "__ne__" = some (some (.builtin "object.__ne__"))
  zs_Library : PySem.W.kitOne K (.type "str") (.ref C_Library) = some false
  zt_Library : PySem.W.kitOne K (.type "tuple") (.ref C_Library) = some false
  zn_Library : PySem.W.kitOne K (.type "NoneType") (.ref C_Library) = some false
  zi_Library : PySem.W.kitOne K (.type "int") (.ref C_Library) = some false
  zc_Library : PySem.W.kitOne K (.ref C_Library) (.type "str") = some false
  zl_Library : PySem.W.kitOne K (.type "list") (.ref C_Library) = some false
  zd_Library : PySem.W.kitOne K (.type "dict") (.ref C_Library) = some false
  zb_Library : PySem.W.kitOne K (.type "bool") (.ref C_Library) = some false
  zu_Library : PySem.W.kitOne K (.ref C_Library) (.type "tuple") = some false
  hn_Library : PySem.W.specialIn K (.builtin "object.__class__") "__get__" = some (some (.builtin "getset_descriptor.__get__"))
  ht_Library : PySem.W.takesIn K (.builtin "object.__class__") = some true
  no_Library_own_marks : NoAttr K C_Library "own_marks"
  no_Library_own_bases : NoAttr K C_Library "own_bases"
  no_Library_own_conversions : NoAttr K C_Library "own_conversions"
  no_Library_own_candidates : NoAttr K C_Library "own_candidates"
  no_Library_own_tables : NoAttr K C_Library "own_tables"
  mk_Library : Mk K C_Library f_Library___init__
  x_InvalidWord : XCl K mg "InvalidWord" C_InvalidWord
  x_InvalidLibrary : XCl K mg "InvalidLibrary" C_InvalidLibrary
  x_InvalidCall : XCl K mg "InvalidCall" C_InvalidCall
  x_InvalidProgram : XCl K mg "InvalidProgram" C_InvalidProgram
  fI_ParseError : Addr
  p_ParseError : PySem.PeX.Txt P K mg "ParseError" "ParseError.__init__" "line" "line " " cannot be read" C_ParseError fI_ParseError
  exm_InvalidWord_InvalidWord : PySem.W.exmOne K (.ref C_InvalidWord) (.ref C_InvalidWord) = some true
  exm_InvalidLibrary_InvalidWord : PySem.W.exmOne K (.ref C_InvalidLibrary) (.ref C_InvalidWord) = some false
  exm_InvalidLibrary_InvalidLibrary : PySem.W.exmOne K (.ref C_InvalidLibrary) (.ref C_InvalidLibrary) = some true
  exm_InvalidCall_InvalidWord : PySem.W.exmOne K (.ref C_InvalidCall) (.ref C_InvalidWord) = some false
  exm_InvalidCall_InvalidLibrary : PySem.W.exmOne K (.ref C_InvalidCall) (.ref C_InvalidLibrary) = some false
  exm_InvalidCall_InvalidCall : PySem.W.exmOne K (.ref C_InvalidCall) (.ref C_InvalidCall) = some true
  exm_InvalidProgram_InvalidWord : PySem.W.exmOne K (.ref C_InvalidProgram) (.ref C_InvalidWord) = some false
  exm_InvalidProgram_InvalidLibrary : PySem.W.exmOne K (.ref C_InvalidProgram) (.ref C_InvalidLibrary) = some false
  exm_InvalidProgram_InvalidCall : PySem.W.exmOne K (.ref C_InvalidProgram) (.ref C_InvalidCall) = some false
  exm_InvalidProgram_InvalidProgram : PySem.W.exmOne K (.ref C_InvalidProgram) (.ref C_InvalidProgram) = some true
  kit_Candidate_Library : PySem.W.kitOne K (.ref C_Candidate) (.ref C_Library) = some false

open PySem PySem.Spec PyProof.Rows L2 Lv
local macro_rules | `(tactic| walk_at "rd") => `(tactic| simp only [cxOf, Cx.nox, Cx.wish, tSeq, tIfS, tOr, tAnd, tB, tTest, tCB, tCons, tVar, tC, tNil, tNot, tNotV, tRet, tOp, tUn, tNext, tDrop, tAsg, gName, gSub, gCons, gNil, gSub, gCons, gNil, tYes, wipe, tFor_eq, tLc_eq, iStr, iTup, iList, iRng1, tBM, tBM0, tM0, tM1, tSl, tPart, tNoPart, tDisp, tPairs, tDNewK, rU, and_assoc, tIf, tAndV, tOrV, tChain, tTup, tLst, tCall, tPar, rI0, rI, rEq, rNe, L2.start,
  List.map_cons, List.map_nil, List.length_cons, List.length_nil, Nat.reduceAdd, Nat.reduceSub, Nat.zero_add, Nat.sub_self, Nat.add_one_sub_one, List.replicate_zero, List.replicate_succ, List.append_nil, List.cons_append, List.nil_append, List.set_cons_zero, List.set_cons_succ,
  List.getElem?_cons_zero, List.getElem?_cons_succ, Option.some.injEq, exists_eq_left', exists_eq_left, exists_eq_right, exists_and_left, exists_and_right, V.bl.injEq, V.int.injEq, V.str.injEq, V.ref.injEq, List.cons.injEq, and_true, true_and, Bool.false_eq_true, Bool.true_eq_false, if_true, if_false, ite_true, ite_false, decide_true, decide_false, Bool.not_false, Bool.not_true, if_pos, reduceIte])
local macro_rules | `(tactic| walk_at "kn") => `(tactic| first | exact Kn.non | exact Kn.bl _ | exact Kn.int _ | exact Kn.str _ | exact Kn.lst (by assumption) | exact Kn.tup (by assumption) | exact Kn.dK (by assumption))
local macro_rules | `(tactic| walk_at "isi") => `(tactic| first | refine isi_kn (b := true) (by walk_at "kn") (by decide +kernel) ?_ | refine isi_kn (b := false) (by walk_at "kn") (by decide +kernel) ?_)

section
variable {w : World} {K : PySem.W.Frag} {mg : Str → Option Value} {base : Heap}
theorem ok_is_integer (T : Tx K mg) : FnOk P w K mg base CX0 1 T.f_is_integer T.d_is_integer ["value"] sp_is_integer := by
  refine T.F_is_integer.ok sc_is_integer (fun vs H Q E h => ?_) (fun cdv A outer s H vs Q E hr h => ?_)
  · obtain ⟨v, t, rfl, _⟩ := h
    rfl
  · obtain ⟨v, t, rfl, k, q⟩ := h
    refine ⟨_, (pss_cons (ps_if (PW.pt (pw_or (pt_val (pe_callB call_isi (by rfl) T.n_isinstance (by decide +kernel) (pa_cons (pv 0) (pa_cons (pe_bltn (v := .ty "bool") (by rfl) T.n_bool (by decide +kernel) rfl) pa_nil)))) (pw_or1 (pt_not (pt_val (pe_callB call_isi (by rfl) T.n_isinstance (by decide +kernel) (pa_cons (pv 0) (pa_cons (pe_bltn (v := .ty "int") (by rfl) T.n_int (by decide +kernel) rfl) pa_nil)))))))) (pss_one (ps_ret pe_bl)) pss_nil)
      (pss_one (ps_ret (pe_cmpR op_lt (pe_callB call_abs (by rfl) T.n_abs (by decide +kernel) (pa_cons (pv 0) pa_nil)) (pe_op op_pow pe_int pe_int) (nomark _))))), ?_⟩
    walk_at "rd"
    cases k
    all_goals (walk_at "isi"; walk_at "rd")
    all_goals try exact q
    all_goals (walk_at "isi"; walk_at "rd")
    all_goals try exact q
    exact ⟨⟨by decide, by decide, by decide⟩, q⟩
theorem ok_is_name (T : Tx K mg) : FnOk P w K mg base CX0 1 T.f_is_name T.d_is_name ["value"] sp_is_name := by
  refine T.F_is_name.ok sc_is_name (fun vs H Q E h => ?_) (fun cdv A outer s H vs Q E hr h => ?_)
  · obtain ⟨v, t, rfl, _⟩ := h
    rfl
  · obtain ⟨v, t, rfl, k, hz, q⟩ := h
    refine ⟨_, (pss_cons (ps_if (PW.pt (pw_or (pt_not (pt_val (pe_callB call_isi (by rfl) T.n_isinstance (by decide +kernel) (pa_cons (pv 0) (pa_cons (pe_bltn (v := .ty "str") (by rfl) T.n_str (by decide +kernel) rfl) pa_nil))))) (pw_or (pt_not (pt_chain op_le op_le pe_int (pe_callB call_len_str (by rfl) T.n_len (by decide +kernel) (pa_cons (pv 0) pa_nil)) (pe_glob (v := .int (8)) (by rfl) T.m_MAX_LETTERS ⟨_, rfl⟩))) (pw_or1 (pt_cmpR op_in_seq (pv 0) (pe_glob (v := .ref T.a_KEYWORDS) (by rfl) T.m_KEYWORDS rfl) (by rfl)))))) (pss_one (ps_ret pe_bl)) pss_nil)
      (pss_one (ps_ret (pe_callB (cr_all rfl) (by rfl) T.n_all (by decide +kernel) (pa_cons (pe_lc (own := [("sign", 1)]) (g := gName 1) (by rfl) sc_is_name.nd (pi_str (pv 0)) (blkOk_by (own := [("sign", 1)]) (N := ["value", "sign"]) (sc := defScope s_is_name) (by decide +kernel)) (fun _ _ _ _ _ => (pg_name (i := 1) sc_is_name.nd rfl (Or.inl rfl))) (fun _ _ _ _ _ => pts_nil) (fun _ _ _ _ _ => (pe_chain op_le_str op_le_str pe_str (pv 1) pe_str))) pa_nil))))), ?_⟩
    walk_at "rd"
    cases k
    all_goals (walk_at "isi"; walk_at "rd")
    all_goals try exact q _ (Same.refl _)
    rename_i z
    have hl := hz z rfl
    have q' : ∀ (b : Bool) H', isNm z = b → Same H H' → Q (V.bl b) H' := fun b H' e s => e ▸ q H' s
    refine ⟨hl, ite2 (fun h1 => ite2 (fun h2 => ?_) (fun h2 => ?_)) (fun h1 => ?_)⟩
    · refine q' _ _ ?_ (Same.refl _)
      unfold isNm
      have h2' : decide ((z.length : Int) ≤ 8) = false := by simpa using h2
      simp only [h2', Bool.and_false, Bool.false_and]
    · refine ⟨T.a_KEYWORDS, _, rfl, .inr (T.q_KEYWORDS H), rfl, rfl, _, rfl, ite2 (fun h3 => ?_) (fun h3 => ?_)⟩
      · refine q' _ _ ?_ (Same.refl _)
        unfold isNm
        simp only [Bool.false_eq_true, if_false] at h3
        simp [h3]
      · refine lc_same walk_str (fun i => .bl (lowC (z.cps.toList[i]?.getD 0))) hl (fun _ _ => trivial) ?_ mono_name mono_yes ?_
        · rintro i x H1 H2 hi hS ⟨rfl, c, hc, rfl⟩ R hR
          walk_at "rd"
          have e : z.cps.toList[i]?.getD 0 = c := by
            rw [Array.getElem?_toList, hc]
            rfl
          have hR' := hR H2 (Same.refl _)
          rw [e] at hR'
          unfold lowC at hR'
          refine ite2 (fun h4 => ?_) (fun h4 => ?_)
          · rw [show (!decide ([c] < (Str.ofString "a").cps.toList)) = true from h4, Bool.true_and] at hR'
            exact hR'
          · rw [Bool.not_eq_true] at h4
            rw [show (!decide ([c] < (Str.ofString "a").cps.toList)) = false from h4, Bool.false_and] at hR'
            exact hR'
        · intro H2 D hS hD hL
          have e : ((List.range z.cps.size).map fun i => V.bl (lowC (z.cps.toList[i]?.getD 0))) = (z.cps.toList.map lowC).map V.bl := by
            rw [← range_map lowC z.cps.toList, List.map_map]
            rfl
          rw [e] at hL
          refine ⟨D, z.cps.toList.map lowC, rfl, .inl (.inl hL), q' _ _ ?_ hS⟩
          unfold isNm
          simp only [Bool.false_eq_true, if_false] at h3
          simp at h1 h2 h3
          simp [h1, h2, h3]
    · refine q' _ _ ?_ (Same.refl _)
      unfold isNm
      have h1' : decide ((1 : Int) ≤ z.length) = false := by simpa using h1
      simp only [h1', Bool.false_and]
theorem ok_is_names (T : Tx K mg) : FnOk P w K mg base CX0 2 T.f_is_names T.d_is_names ["value", "least", "most"] sp_is_names := by
  refine T.F_is_names.ok sc_is_names (fun vs H Q E h => ?_) (fun cdv A outer s H vs Q E hr h => ?_)
  · obtain ⟨v, xs, b, lo, hi, rfl, _⟩ := h
    rfl
  · obtain ⟨v, xs, b, lo, hi, rfl, hh, k, q⟩ := h
    refine ⟨_, (pss_one (ps_ret (pe_and (pe_callB call_isi (by rfl) T.n_isinstance (by decide +kernel) (pa_cons (pv 0) (pa_cons (pe_bltn (v := .ty "tuple") (by rfl) T.n_tuple (by decide +kernel) rfl) pa_nil))) (pe_and (pe_chain op_le op_le (pv 1) (pe_callB call_lenQ (by rfl) T.n_len (by decide +kernel) (pa_cons (pv 0) pa_nil)) (pv 2)) (pe_one (pe_callB (cr_all rfl) (by rfl) T.n_all (by decide +kernel) (pa_cons (pe_lc (own := [("name", 3)]) (g := gName 3) (by rfl) sc_is_names.nd (pi_tup (pv 0)) (blkOk_by (own := [("name", 3)]) (N := ["value", "least", "most", "name"]) (sc := defScope s_is_names) (by decide +kernel)) (fun _ _ _ _ _ => (pg_name (i := 3) sc_is_names.nd rfl (Or.inl rfl))) (fun _ _ _ _ _ => pts_nil) (fun _ _ _ _ _ => (pe_call (ok_is_name T) (hr.mono (by decide)) (by rfl) T.g_is_name T.F_is_name.kp T.b_is_name .nil pass0 (pa_cons (pv 3) pa_nil)))) pa_nil))))))), ?_⟩
    walk_at "rd"
    cases k with
    | oth k n =>
      refine isi_kn k (kit_ntup k n) ?_
      walk_at "rd"
      exact q _ (Same.refl _)
    | tup h k z =>
      walk_at "isi"
      walk_at "rd"
      rename_i a
      have hT : SqT K H a xs := .inl (.inl h)
      have q' : ∀ (b : Bool) H', namesV xs lo hi = b → Same H H' → Q (V.bl b) H' := fun b H' e s => by
        have := q H' s
        rw [Bool.true_and, e] at this
        exact this
      refine lenT hT ?_
      walk_at "rd"
      refine ite2 (fun h1 => ite2 (fun h2 => ?_) (fun h2 => ?_)) (fun h1 => ?_)
      · refine ⟨⟨xs, hT⟩, lc_same walk_tup (fun i => .bl (nameV (xs[i]?.getD .non))) (Nat.le_of_lt (small1000 (by have := of_decide_eq_true h2; omega))) (fun H' s => Evl.ex_t s hT) ?_ mono_name mono_yes ?_⟩
        · rintro i x H1 H2 hi hS ⟨rfl, hx⟩ R hR
          walk_at "rd"
          have hm : x ∈ xs := List.mem_of_getElem? hx
          obtain ⟨t, kt⟩ := k x hm
          rw [hx] at hR
          exact ⟨x, t, rfl, kt.same hS, fun y e => z y (e ▸ hm), hR⟩
        · intro H2 D hS hD hL
          have e : ((List.range xs.length).map fun i => V.bl (nameV (xs[i]?.getD .non))) = (xs.map nameV).map V.bl := by
            rw [List.map_map]
            apply List.ext_getElem
            · simp
            · intro i h1 h2
              have h3 : i < xs.length := by simpa using h2
              simp [h3]
          rw [e] at hL
          refine ⟨D, xs.map nameV, rfl, .inl (.inl hL), q' _ _ ?_ hS⟩
          unfold namesV
          rw [h1, h2]
          simp
      · refine q' _ _ ?_ (Same.refl _)
        unfold namesV
        have h2' : decide ((xs.length : Int) ≤ hi) = false := by simpa using h2
        rw [h2', Bool.and_false, Bool.false_and]
      · refine q' _ _ ?_ (Same.refl _)
        unfold namesV
        have h1' : decide (lo ≤ (xs.length : Int)) = false := by simpa using h1
        rw [h1', Bool.false_and, Bool.false_and]
theorem ok_is_type (T : Tx K mg) : FnOk P w K mg base CX0 3 T.f_is_type T.d_is_type ["value"] sp_is_type := by
  refine T.F_is_type.ok sc_is_type (fun vs H Q E h => ?_) (fun cdv A outer s H vs Q E hr h => ?_)
  · obtain ⟨v, xs, b, rfl, _⟩ := h
    rfl
  · obtain ⟨v, xs, b, rfl, k, q⟩ := h
    refine ⟨_, (pss_one (ps_ret (pe_call (ok_is_names T) (hr.mono (by decide)) (by rfl) T.g_is_names T.F_is_names.kp T.b_is_names .nil pass0 (pa_cons (pv 0) (pa_cons pe_int (pa_cons (pe_op op_add (pe_glob (v := .int (400)) (by rfl) T.m_MAX_DEPTH ⟨_, rfl⟩) pe_int) pa_nil)))))), ?_⟩
    walk_at "rd"
    exact ⟨v, xs, b, 1, 401, rfl, by decide, k, q⟩
theorem ok_law_reel_of (T : Tx K mg) : FnOk P w K mg base CX0 1 T.f__law_reel_of T.d__law_reel_of ["_law_script", "_law_spot"] (sp_law_dice K) := by
  refine T.F__law_reel_of.ok sc_law_reel_of (fun vs H Q E h => ?_) (fun cdv A outer s H vs Q E hr h => ?_)
  · obtain ⟨a, ns, k, rfl, _⟩ := h
    rfl
  · obtain ⟨a, ns, k, rfl, hS, hk, q⟩ := h
    refine ⟨_, (pss_cons (ps_set (i := 2) sc_law_reel_of.nd rfl (Or.inl rfl) (pe_ifExp (pt_cmpR op_lt (pv 1) (pe_callB call_lenQ (by rfl) T.n_len (by decide +kernel) (pa_cons (pv 0) pa_nil)) (nomark _)) (pe_ix ix_list (pv 0) (pv 1) (fun _ _ => rfl)) (pe_op op_add (pe_op op_mul pe_int (pv 1)) pe_int)))
      (pss_cons (ps_set (i := 3) sc_law_reel_of.nd rfl (Or.inl rfl) (pe_op op_mod (pe_callTy call_intI (by rfl) T.n_int (by decide +kernel) (pa_cons (pe_callB call_abs (by rfl) T.n_abs (by decide +kernel) (pa_cons (pv 2) pa_nil)) pa_nil)) (pe_op op_powW (pe_op op_pow pe_int pe_int) pe_int)))
      (pss_cons (ps_set (i := 4) sc_law_reel_of.nd rfl (Or.inl rfl) (pe_op op_add (pe_op op_add (pe_op op_add (pe_op op_mul (pv 3) pe_int) (pe_op op_mul pe_int (pv 1))) (pe_op op_mul pe_int (pe_callTy call_intB (by rfl) T.n_int (by decide +kernel) (pa_cons (pe_cmpR op_lt (pv 2) pe_int (nomark _)) pa_nil)))) pe_int))
      (pss_one (ps_ret (pe_lst (pa_cons (pe_callB (call_max2 rfl) (by rfl) T.n_max (by decide +kernel) (pa_cons pe_int (pa_cons (pe_op op_sub (pv 3) (pe_op op_pow pe_int pe_int)) pa_nil))) (pa_cons (pe_op op_mod (pe_callTy call_intI (by rfl) T.n_int (by decide +kernel) (pa_cons (pv 4) pa_nil)) pe_int) (pa_cons pe_int pa_nil))))))))), ?_⟩
    walk_at "rd"
    have big : ((10 : Int) ^ Int.toNat 58).natAbs < 2 ^ 193 := by decide +kernel
    have pw : CPowW ((10 : Int) ^ Int.toNat 58) 10 := ⟨by decide, by
      have := bits_le big (by decide)
      omega⟩
    have pos : (0 : Int) < ((10 : Int) ^ Int.toNat 58) ^ Int.toNat 10 := by decide +kernel
    have p0 : CPow 10 58 := ⟨by decide, by decide, by decide⟩
    have p1 : CPow 10 17 := ⟨by decide, by decide, by decide⟩
    have fin : ∀ i j k : Int, CMul i 1000037 ∧ CMul 7043 j ∧ CMul 41 k ∧ CPow 10 17 ∧ (0 : Int) < 2305843009213693973 ∧ 3 ≤ sizeLine := fun i j k => ⟨.inr ⟨by decide, by decide⟩, .inl ⟨by decide, by decide⟩, .inl ⟨by decide, by decide⟩, p1, by decide, by decide⟩
    refine lenL hS ?_
    walk_at "rd"
    refine ite2 (fun h1 => ?_) (fun h1 => ?_)
    · have h2 : k < ns.length := by
        have := of_decide_eq_true h1
        rw [List.length_map] at this
        omega
      refine ixl_nat hS (by rw [List.getElem?_map, List.getElem?_eq_getElem h2]; rfl) ?_
      walk_at "rd"
      exact ⟨p0, pw, pos, (fin _ 0 0).1, (fin 0 _ 0).2.1, (fin 0 0 _).2.2.1, p1, (fin 0 0 0).2.2.2.2.1, (fin 0 0 0).2.2.2.2.2, fun p hp => q p _ _ _ hp⟩
    · exact ⟨.inl ⟨by decide, by decide⟩, p0, pw, pos, (fin _ 0 0).1, (fin 0 _ 0).2.1, (fin 0 0 _).2.2.1, p1, (fin 0 0 0).2.2.2.2.1, (fin 0 0 0).2.2.2.2.2, fun p hp => q p _ _ _ hp⟩
theorem ok_law_spin (T : Tx K mg) : FnOk P w K mg base CX0 1 T.f__law_spin T.d__law_spin ["_law_reel", "_law_total"] sp_law_roll := by
  refine T.F__law_spin.ok sc_law_spin (fun vs H Q E h => ?_) (fun cdv A outer s H vs Q E hr h => ?_)
  · obtain ⟨d, n, rfl, _⟩ := h
    rfl
  · obtain ⟨d, n, rfl, h0, h1, ⟨x, y, z, hd⟩, q⟩ := h
    refine ⟨_, (pss_cons (ps_if (pt_cmpR op_gt (pe_ix ix_list (pv 0) pe_int (fun _ _ => rfl)) pe_int (nomark _)) (pss_cons (ps_set (i := 2) sc_law_spin.nd rfl (Or.inl rfl) (pe_op op_mod (pe_callTy call_intI (by rfl) T.n_int (by decide +kernel) (pa_cons (pe_ix ix_list (pv 0) pe_int (fun _ _ => rfl)) pa_nil)) (pv 1)))
      (pss_cons (ps_asg (pe_op op_fdiv (pe_ix ix_list (pv 0) pe_int (fun _ _ => rfl)) (pv 1)) (pg_sub (pv 0) pe_int set_list))
      (pss_one (ps_ret (pv 2))))) pss_nil)
      (pss_cons (ps_asg (pe_op op_add (pe_ix ix_list (pv 0) pe_int (fun _ _ => rfl)) pe_int) (pg_sub (pv 0) pe_int set_list))
      (pss_cons (ps_set (i := 3) sc_law_spin.nd rfl (Or.inl rfl) (pe_op op_mod (pe_callTy call_intI (by rfl) T.n_int (by decide +kernel) (pa_cons (pe_op op_add (pe_ix ix_list (pv 0) pe_int (fun _ _ => rfl)) (pe_op op_mul pe_int (pe_ix ix_list (pv 0) pe_int (fun _ _ => rfl)))) pa_nil)) pe_int))
      (pss_cons (ps_set (i := 4) sc_law_spin.nd rfl (Or.inl rfl) (pe_op op_add (pe_op op_mul (pe_op op_mod (pe_callTy call_intI (by rfl) T.n_int (by decide +kernel) (pa_cons (pe_op op_mul (pv 3) (pv 3)) pa_nil)) pe_int) (pv 3)) (pe_op op_mul pe_int (pe_ix ix_list (pv 0) pe_int (fun _ _ => rfl)))))
      (pss_one (ps_ret (pe_op op_mod (pe_callTy call_intI (by rfl) T.n_int (by decide +kernel) (pa_cons (pe_op op_fdiv (pe_op op_mod (pe_callTy call_intI (by rfl) T.n_int (by decide +kernel) (pa_cons (pe_op op_add (pv 4) (pe_ix ix_list (pv 0) pe_int (fun _ _ => rfl))) pa_nil)) pe_int) pe_int) pa_nil)) (pv 1)))))))), ?_⟩
    walk_at "rd"
    refine ixl (.inl (.inl hd)) rfl ?_
    walk_at "rd"
    refine ite2 (fun hx => ?_) (fun hx => ?_)
    · refine ixl (.inl (.inl hd)) rfl ?_
      walk_at "rd"
      refine ⟨h0, ixl (.inl (.inl hd)) rfl ?_⟩
      walk_at "rd"
      refine ⟨⟨h0, h1⟩, setl hd rfl ?_⟩
      exact q _ _ _ _ (Int.emod_nonneg _ (by omega)) (Int.emod_lt_of_pos _ h0)
    · refine ixl (.inl (.inl hd)) rfl ?_
      walk_at "rd"
      refine setl hd rfl ?_
      refine ixl (.inl (.inl upd_same)) rfl (ixl (.inl (.inl upd_same)) rfl ?_)
      walk_at "rd"
      refine ⟨.inl ⟨by decide, by decide⟩, by decide, ?_⟩
      generalize hone : (y + 961748941 * (z + 1)) % 2305843009213693951 = one
      have o1 : 0 ≤ one := hone ▸ Int.emod_nonneg _ (by decide)
      have o2 : one < 2305843009213693951 := hone ▸ Int.emod_lt_of_pos _ (by decide)
      refine ⟨.inl ⟨by omega, by omega⟩, by decide, ?_⟩
      generalize htwo : (one * one) % 1152921504606846883 = two
      have t1 : 0 ≤ two := htwo ▸ Int.emod_nonneg _ (by decide)
      have t2 : two < 1152921504606846883 := htwo ▸ Int.emod_lt_of_pos _ (by decide)
      refine ⟨.inl ⟨by omega, by omega⟩, ixl (.inl (.inl upd_same)) rfl ?_⟩
      walk_at "rd"
      refine ⟨.inl ⟨by decide, by decide⟩, ixl (.inl (.inl upd_same)) rfl ?_⟩
      walk_at "rd"
      refine ⟨by decide, ⟨by decide, by decide⟩, h0, ?_⟩
      exact q _ _ _ _ (Int.emod_nonneg _ (by omega)) (Int.emod_lt_of_pos _ h0)
/-- one of the items, of a list, a tuple or a text -/
def sp_pickA (K : PySem.W.Frag) : Sp := fun vs H Q E => sp_law_pick K vs H Q E ∨ ∃ (d p : Addr) (xs : List V), vs = [.ref d, .ref p] ∧ Dc H d ∧ SqT K H p xs ∧ xs ≠ [] ∧ xs.length < 1073741824 ∧ ∀ y H', y ∈ xs → Gr d H H' → Q y H'
theorem gr_sq {d p : Addr} {H H' : Hp} {xs : List V} (g : Gr d H H') (h : SqT K H p xs) : SqT K H' p xs := by
  rcases h with (h | ⟨u, h⟩) | h
  · exact .inl (.inl (g.keep _ _ (g.pre.ne_tup h) h))
  · exact .inl (.inr ⟨u, g.keep _ _ (fun e => by obtain ⟨x, y, z, hd⟩ := g.pre; rw [e, hd] at h; cases h) h⟩)
  · exact .inr h
theorem ok_law_pick (T : Tx K mg) : FnOk P w K mg base CX0 2 T.f__law_pick T.d__law_pick ["_law_reel", "_law_items"] (sp_pickA K) := by
  refine T.F__law_pick.ok sc_law_pick (fun vs H Q E h => ?_) (fun cdv A outer s H vs Q E hr h => ?_)
  · rcases h with ⟨d, v, rfl, _⟩ | ⟨d, p, xs, rfl, _⟩
    · rfl
    · rfl
  · rcases h with ⟨d, v, rfl, hd, h⟩ | ⟨d, p, xs, rfl, hd, hS, hne, hlen, q⟩
    · refine ⟨_, (pss_one (ps_ret (pe_ix ix_seq (pv 1) (pe_call (ok_law_spin T) (hr.mono (by decide)) (by rfl) T.g__law_spin T.F__law_spin.kp T.b__law_spin .nil pass0 (pa_cons (pv 0) (pa_cons (pe_callB call_len (by rfl) T.n_len (by decide +kernel) (pa_cons (pv 1) pa_nil)) pa_nil))) (fun _ _ => rfl)))), ?_⟩
      walk_at "rd"
      rcases h with ⟨p, xs, rfl, ne, hS, hne, hlen, q⟩ | ⟨z, rfl, hz, h0, h1, q⟩
      · have hpos : 0 < xs.length := List.length_pos_iff.mpr hne
        refine ⟨xs.length, .inl ⟨xs, hS, rfl⟩, d, _, rfl, by omega, by omega, hd, fun r x y z r0 r1 => ?_⟩
        obtain ⟨j, rfl⟩ := Int.eq_ofNat_of_zero_le r0
        have hj : j < xs.length := by omega
        have g : Gr d H _ := Gr.roll (x := x) (y := y) (z := z) hd
        exact .inl ⟨p, xs, _, xs[j], rfl, rfl, g.sql ne hS, atI_nat (List.getElem?_eq_getElem hj), q _ _ (List.getElem_mem hj) g⟩
      · refine ⟨z.length, ⟨hz, rfl⟩, d, _, rfl, by omega, by omega, hd, fun r x y z' r0 r1 => ?_⟩
        obtain ⟨j, rfl⟩ := Int.eq_ofNat_of_zero_le r0
        have hj : j < z.cps.toList.length := by
          have : (j : Int) < (z.cps.size : Nat) := r1
          rw [Array.length_toList]
          omega
        have g : Gr d H _ := Gr.roll (x := x) (y := y) (z := z') hd
        exact .inr (.inr ⟨z, _, z.cps.toList[j], rfl, rfl, hz, atI_nat (List.getElem?_eq_getElem hj), q _ _ (List.getElem_mem hj) g⟩)
    · refine ⟨_, (pss_one (ps_ret (pe_ix ix_seq (pv 1) (pe_call (ok_law_spin T) (hr.mono (by decide)) (by rfl) T.g__law_spin T.F__law_spin.kp T.b__law_spin .nil pass0 (pa_cons (pv 0) (pa_cons (pe_callB call_len (by rfl) T.n_len (by decide +kernel) (pa_cons (pv 1) pa_nil)) pa_nil))) (fun _ _ => rfl)))), ?_⟩
      walk_at "rd"
      have hpos : 0 < xs.length := List.length_pos_iff.mpr hne
      refine ⟨xs.length, .inr ⟨xs, hS, rfl⟩, d, _, rfl, by omega, by omega, hd, fun r x y z r0 r1 => ?_⟩
      obtain ⟨j, rfl⟩ := Int.eq_ofNat_of_zero_le r0
      have hj : j < xs.length := by omega
      have g : Gr d H _ := Gr.roll (x := x) (y := y) (z := z) hd
      exact .inr (.inl ⟨p, xs, _, xs[j], rfl, rfl, gr_sq g hS, atI_nat (List.getElem?_eq_getElem hj), q _ _ (List.getElem_mem hj) g⟩)
end

set_option pp.maxSteps 900

section
variable {w : World} {K : PySem.W.Frag} {mg : Str → Option Value} {base : Heap}
/-- an integer from lo to hi -/
def inV3 (v : V) (lo hi : Int) : Bool := match v with
  | .int i => intV (.int i) && (decide (lo ≤ i) && decide (i ≤ hi))
  | _ => false
def sp_within : Sp := fun vs H Q _ => ∃ (v : V) (t : String) (lo hi : Int), vs = [v, .int lo, .int hi] ∧ Kn H v t ∧ Q (.bl (inV3 v lo hi)) H
theorem ok_is_integer_within (T : Tx K mg) : FnOk P w K mg base CX0 2 T.f_is_integer_within T.d_is_integer_within ["value", "least", "most"] sp_within := by
  refine T.F_is_integer_within.ok sc_is_integer_within (fun vs H Q E h => ?_) (fun cdv A outer s H vs Q E hr h => ?_)
  · obtain ⟨v, t, lo, hi, rfl, _⟩ := h
    rfl
  · obtain ⟨v, t, lo, hi, rfl, k, q⟩ := h
    refine ⟨_, (pss_one (ps_ret (pe_and (pe_call (ok_is_integer T) (hr.mono (by decide)) (by rfl) T.g_is_integer T.F_is_integer.kp T.b_is_integer .nil pass0 (pa_cons (pv 0) pa_nil)) (pe_one (pe_chain op_le op_le (pv 1) (pv 0) (pv 2)))))), ?_⟩
    walk_at "rd"
    refine isint k ?_
    walk_at "rd"
    cases k with
    | int i =>
      have q' : Q (.bl (intV (.int i) && (decide (lo ≤ i) && decide (i ≤ hi)))) H := q
      refine ite2 (fun h1 => ⟨i, rfl, ite2 (fun h2 => ⟨i, rfl, ?_⟩) (fun h2 => ?_)⟩) (fun h1 => ?_)
      · rw [h1, h2, Bool.true_and, Bool.true_and] at q'
        exact q'
      · rw [Bool.not_eq_true] at h2
        rw [h2, Bool.false_and, Bool.and_false] at q'
        exact q'
      · rw [Bool.not_eq_true] at h1
        rw [h1, Bool.false_and] at q'
        exact q'
    | _ => exact iteF q
theorem kit_nstr {H : Hp} {v : V} {t : String} (k : Kn H v t) (n : t ≠ "str") : kitB t "str" = some false := by
  cases k
  all_goals first | exact absurd rfl n | decide +kernel
/-- whether v is a pattern -/
inductive PatIs (H : Hp) : V → Bool → Prop
  | oth {v : V} {t : String} (k : Kn H v t) (n : t ≠ "tuple") : PatIs H v false
  | len {a : Addr} {xs : List V} (h : H a = some (.tup xs)) (n : xs.length ≠ 2) (z : xs.length ≤ 1000) : PatIs H (.ref a) false
  | nostr {a : Addr} {x y : V} {t : String} (h : H a = some (.tup [x, y])) (k : Kn H x t) (n : t ≠ "str") : PatIs H (.ref a) false
  | word {a : Addr} {z : Str} {y : V} (h : H a = some (.tup [.str z, y])) (n1 : z ≠ Str.ofString "closed") (n2 : z ≠ Str.ofString "open") : PatIs H (.ref a) false
  | closed {a : Addr} {y : V} {ys : List V} {b : Bool} (h : H a = some (.tup [.str (Str.ofString "closed"), y])) (t : Told H y ys b) : PatIs H (.ref a) (b && namesV ys 1 5)
  | open_ {a : Addr} {y : V} {ys : List V} {b : Bool} (h : H a = some (.tup [.str (Str.ofString "open"), y])) (t : Told H y ys b) : PatIs H (.ref a) (b && namesV ys 0 3)
def sp_is_pattern : Sp := fun vs H Q _ => ∃ (v : V) (b : Bool), vs = [v] ∧ PatIs H v b ∧ ∀ H', Same H H' → Q (.bl b) H'
theorem ok_is_pattern (T : Tx K mg) : FnOk P w K mg base CX0 3 T.f_is_pattern T.d_is_pattern ["value"] sp_is_pattern := by
  refine T.F_is_pattern.ok sc_is_pattern (fun vs H Q E h => ?_) (fun cdv A outer s H vs Q E hr h => ?_)
  · obtain ⟨v, b, rfl, _⟩ := h
    rfl
  · obtain ⟨v, b, rfl, k, q⟩ := h
    refine ⟨_, (pss_cons (ps_if (PW.pt (pw_or (pt_not (pt_val (pe_callB call_isi (by rfl) T.n_isinstance (by decide +kernel) (pa_cons (pv 0) (pa_cons (pe_bltn (v := .ty "tuple") (by rfl) T.n_tuple (by decide +kernel) rfl) pa_nil))))) (pw_or (pt_cmpR op_ne (pe_callB call_lenQ (by rfl) T.n_len (by decide +kernel) (pa_cons (pv 0) pa_nil)) pe_int (nomark _)) (pw_or1 (pt_not (pt_val (pe_callB call_isi (by rfl) T.n_isinstance (by decide +kernel) (pa_cons (pe_ix ix_tup (pv 0) pe_int (fun _ _ => rfl)) (pa_cons (pe_bltn (v := .ty "str") (by rfl) T.n_str (by decide +kernel) rfl) pa_nil))))))))) (pss_one (ps_ret pe_bl)) pss_nil)
      (pss_cons (ps_if (pt_cmpR op_eq (pe_ix ix_tup (pv 0) pe_int (fun _ _ => rfl)) pe_str (nomark _)) (pss_one (ps_ret (pe_call (ok_is_names T) (hr.mono (by decide)) (by rfl) T.g_is_names T.F_is_names.kp T.b_is_names .nil pass0 (pa_cons (pe_ix ix_tup (pv 0) pe_int (fun _ _ => rfl)) (pa_cons pe_int (pa_cons (pe_glob (v := .int (5)) (by rfl) T.m_MAX_NAMES ⟨_, rfl⟩) pa_nil)))))) pss_nil)
      (pss_one (ps_ret (pe_and (pe_cmpR op_eq (pe_ix ix_tup (pv 0) pe_int (fun _ _ => rfl)) pe_str (nomark _)) (pe_one (pe_call (ok_is_names T) (hr.mono (by decide)) (by rfl) T.g_is_names T.F_is_names.kp T.b_is_names .nil pass0 (pa_cons (pe_ix ix_tup (pv 0) pe_int (fun _ _ => rfl)) (pa_cons pe_int (pa_cons (pe_glob (v := .int (3)) (by rfl) T.m_MAX_FRONT ⟨_, rfl⟩) pa_nil)))))))))), ?_⟩
    walk_at "rd"
    have e1 : atI ([0, 1] : List Nat) 1 = some 1 := rfl
    cases k with
    | oth k n =>
      refine isi_kn k (kit_ntup k n) ?_
      walk_at "rd"
      exact q _ (Same.refl _)
    | @len a xs h n z =>
      walk_at "isi"
      walk_at "rd"
      refine lenT (sqt_of h) ⟨rfl, ?_⟩
      rw [decide_eq_false (fun e => n (by injection e with e; omega))]
      exact iteT (q _ (Same.refl _))
    | @nostr a x y t h k n =>
      walk_at "isi"
      walk_at "rd"
      refine lenT (sqt_of h) ⟨rfl, iteF (ixt_nat (j := 0) (sqt_of h) rfl (isi_kn k (kit_nstr k n) ?_))⟩
      walk_at "rd"
      exact q _ (Same.refl _)
    | @word a z y h n1 n2 =>
      walk_at "isi"
      walk_at "rd"
      refine lenT (sqt_of h) ⟨rfl, iteF (ixt_nat (j := 0) (sqt_of h) rfl ?_)⟩
      walk_at "isi"
      walk_at "rd"
      refine ixt_nat (j := 0) (sqt_of h) rfl ⟨rfl, ?_⟩
      rw [decide_eq_false (fun e => n1 (by injection e))]
      refine iteF (ixt_nat (j := 0) (sqt_of h) rfl ⟨rfl, ?_⟩)
      rw [decide_eq_false (fun e => n2 (by injection e))]
      exact iteF (q _ (Same.refl _))
    | @closed a y ys b h t =>
      walk_at "isi"
      walk_at "rd"
      refine lenT (sqt_of h) ⟨rfl, iteF (ixt_nat (j := 0) (sqt_of h) rfl ?_)⟩
      walk_at "isi"
      walk_at "rd"
      refine ixt_nat (j := 0) (sqt_of h) rfl ⟨rfl, ?_⟩
      rw [decide_eq_true rfl]
      exact iteT (ixt_nat (j := 1) (sqt_of h) rfl ⟨y, ys, b, 1, 5, rfl, by decide, t, q⟩)
    | @open_ a y ys b h t =>
      walk_at "isi"
      walk_at "rd"
      refine lenT (sqt_of h) ⟨rfl, iteF (ixt_nat (j := 0) (sqt_of h) rfl ?_)⟩
      walk_at "isi"
      walk_at "rd"
      refine ixt_nat (j := 0) (sqt_of h) rfl ⟨rfl, ?_⟩
      rw [decide_eq_false (by decide)]
      refine iteF (ixt_nat (j := 0) (sqt_of h) rfl ⟨rfl, ?_⟩)
      rw [decide_eq_true rfl]
      exact iteT (ixt_nat (j := 1) (sqt_of h) rfl ⟨y, ys, b, 0, 3, rfl, by decide, t, q⟩)
theorem Told.same {H H' : Hp} {v : V} {xs : List V} {b : Bool} (t : Told H v xs b) (s : Same H H') : Told H' v xs b := by
  cases t with
  | tup h k z => exact .tup (s _ _ h) (fun x hx => (k x hx).imp fun _ q => q.same s) z
  | oth k n => exact .oth (k.same s) n
theorem PatIs.same {H H' : Hp} {v : V} {b : Bool} (p : PatIs H v b) (s : Same H H') : PatIs H' v b := by
  cases p with
  | oth k n => exact .oth (k.same s) n
  | len h n z => exact .len (s _ _ h) n z
  | nostr h k n => exact .nostr (s _ _ h) (k.same s) n
  | word h n1 n2 => exact .word (s _ _ h) n1 n2
  | closed h t => exact .closed (s _ _ h) (Told.same t s)
  | open_ h t => exact .open_ (s _ _ h) (Told.same t s)
/-- whether v is a tuple of one to three patterns -/
inductive PatsIs (H : Hp) : V → Bool → Prop
  | oth {v : V} {t : String} (k : Kn H v t) (n : t ≠ "tuple") : PatsIs H v false
  | len {a : Addr} {xs : List V} (h : H a = some (.tup xs)) (n : ¬ (1 ≤ xs.length ∧ xs.length ≤ 3)) : PatsIs H (.ref a) false
  | tup {a : Addr} {xs : List V} {f : Nat → Bool} (h : H a = some (.tup xs)) (lo : 1 ≤ xs.length) (hi : xs.length ≤ 3) (ps : ∀ i x, xs[i]? = some x → PatIs H x (f i)) : PatsIs H (.ref a) ((List.range xs.length).all f)
def sp_are_patterns : Sp := fun vs H Q _ => ∃ (v : V) (b : Bool), vs = [v] ∧ PatsIs H v b ∧ ∀ H', Same H H' → Q (.bl b) H'
theorem ok_are_patterns (T : Tx K mg) : FnOk P w K mg base CX0 4 T.f_are_patterns T.d_are_patterns ["value"] sp_are_patterns := by
  refine T.F_are_patterns.ok sc_are_patterns (fun vs H Q E h => ?_) (fun cdv A outer s H vs Q E hr h => ?_)
  · obtain ⟨v, b, rfl, _⟩ := h
    rfl
  · obtain ⟨v, b, rfl, k, q⟩ := h
    refine ⟨_, (pss_cons (ps_if (PW.pt (pw_or (pt_not (pt_val (pe_callB call_isi (by rfl) T.n_isinstance (by decide +kernel) (pa_cons (pv 0) (pa_cons (pe_bltn (v := .ty "tuple") (by rfl) T.n_tuple (by decide +kernel) rfl) pa_nil))))) (pw_or1 (pt_not (pt_chain op_le op_le pe_int (pe_callB call_lenQ (by rfl) T.n_len (by decide +kernel) (pa_cons (pv 0) pa_nil)) (pe_glob (v := .int (3)) (by rfl) T.m_MAX_PATTERNS ⟨_, rfl⟩)))))) (pss_one (ps_ret pe_bl)) pss_nil)
      (pss_one (ps_ret (pe_callB (cr_all rfl) (by rfl) T.n_all (by decide +kernel) (pa_cons (pe_lc (own := [("one", 1)]) (g := gName 1) (by rfl) sc_are_patterns.nd (pi_tup (pv 0)) (blkOk_by (own := [("one", 1)]) (N := ["value", "one"]) (sc := defScope s_are_patterns) (by decide +kernel)) (fun _ _ _ _ _ => (pg_name (i := 1) sc_are_patterns.nd rfl (Or.inl rfl))) (fun _ _ _ _ _ => pts_nil) (fun _ _ _ _ _ => (pe_call (ok_is_pattern T) (hr.mono (by decide)) (by rfl) T.g_is_pattern T.F_is_pattern.kp T.b_is_pattern .nil pass0 (pa_cons (pv 1) pa_nil)))) pa_nil))))), ?_⟩
    walk_at "rd"
    cases k with
    | oth k n =>
      refine isi_kn k (kit_ntup k n) ?_
      walk_at "rd"
      exact q _ (Same.refl _)
    | @len a xs h n =>
      walk_at "isi"
      walk_at "rd"
      refine lenT (sqt_of h) ?_
      walk_at "rd"
      refine ite2 (fun h1 => ite2 (fun h2 => q _ (Same.refl _)) (fun h2 => ?_)) (fun h1 => q _ (Same.refl _))
      exact absurd ⟨by have := of_decide_eq_true h1; omega, by simp at h2; omega⟩ n
    | @tup a xs f h lo hi ps =>
      walk_at "isi"
      walk_at "rd"
      refine lenT (sqt_of h) ?_
      walk_at "rd"
      refine ite2 (fun h1 => ite2 (fun h2 => ?_) (fun h2 => ?_)) (fun h1 => absurd (decide_eq_true (by omega)) h1)
      · simp at h2
        omega
      · refine ⟨⟨_, sqt_of h⟩, lc_same walk_tup (fun i => .bl (f i)) (sz100 (by omega)) (fun H' s => sqt_of (s _ _ h)) ?_ mono_name mono_yes ?_⟩
        · rintro i x H1 H2 hi' hS ⟨rfl, hx⟩ R hR
          walk_at "rd"
          exact ⟨x, f i, rfl, (ps i x hx).same hS, hR⟩
        · intro H2 D hS hD hL
          have e : ((List.range xs.length).map fun i => V.bl (f i)) = ((List.range xs.length).map f).map V.bl := by rw [List.map_map]; rfl
          rw [e] at hL
          refine ⟨D, (List.range xs.length).map f, rfl, .inl (.inl hL), ?_⟩
          have z : ((List.range xs.length).map f).all id = (List.range xs.length).all f := by rw [List.all_map]; rfl
          rw [z]
          exact q _ hS
end

section
variable {w : World} {K : PySem.W.Frag} {mg : Str → Option Value} {base : Heap}
abbrev wOpen : Str := Str.ofString "open"
abbrev wClosed : Str := Str.ofString "closed"
abbrev wTail : Str := Str.ofString "tail"
/-- the kinds of the patterns in a tuple -/
def Kds (H : Hp) (b : Addr) (ks : List Bool) : Prop := ∃ xs : List V, H b = some (.tup xs) ∧ xs.length = ks.length ∧ ∀ (i : Nat) (k : Bool), ks[i]? = some k → ∃ (a : Addr) (y : V), xs[i]? = some (.ref a) ∧ H a = some (.tup [.str (if k then wOpen else wClosed), y])
theorem Kds.same {H H' : Hp} {b : Addr} {ks : List Bool} (k : Kds H b ks) (s : Same H H') : Kds H' b ks := by
  obtain ⟨xs, h, l, f⟩ := k
  exact ⟨xs, s _ _ h, l, fun i k e => let ⟨a, y, e1, e2⟩ := f i k e; ⟨a, y, e1, s _ _ e2⟩⟩
def atK (ks : List Bool) : V → Bool
  | .int i => ks.getD i.toNat false
  | _ => false
/-- whether v is a result beside such patterns -/
inductive ResIs (H : Hp) (ks : List Bool) : V → Bool → Prop
  | oth {v : V} {t : String} (k : Kn H v t) (n : t ≠ "tuple") : ResIs H ks v false
  | emp {a : Addr} (h : H a = some (.tup [])) : ResIs H ks (.ref a) false
  | nostr {a : Addr} {x : V} {xs : List V} {t : String} (h : H a = some (.tup (x :: xs))) (k : Kn H x t) (n : t ≠ "str") : ResIs H ks (.ref a) false
  | odd {a : Addr} {z : Str} {xs : List V} (h : H a = some (.tup (.str z :: xs))) (n1 : ¬ (xs.length = 1 ∧ z = wClosed)) (n2 : ¬ (xs.length = 2 ∧ z = wTail)) : ResIs H ks (.ref a) false
  | closed {a : Addr} {y : V} {ys : List V} {b : Bool} (h : H a = some (.tup [.str wClosed, y])) (t : Told H y ys b) : ResIs H ks (.ref a) (b && namesV ys 1 5)
  | tail {a : Addr} {y u : V} {ys : List V} {b : Bool} {t : String} (h : H a = some (.tup [.str wTail, y, u])) (td : Told H y ys b) (k : Kn H u t) : ResIs H ks (.ref a) (b && namesV ys 0 3 && (inV3 u 0 ((ks.length : Int) - 1) && atK ks u))
def sp_is_result : Sp := fun vs H Q _ => ∃ (v : V) (p : Addr) (ks : List Bool) (b : Bool), vs = [v, .ref p] ∧ Kds H p ks ∧ ks.length ≤ 3 ∧ ResIs H ks v b ∧ ∀ H', Same H H' → Q (.bl b) H'
theorem ok_is_result (T : Tx K mg) : FnOk P w K mg base CX0 3 T.f_is_result T.d_is_result ["value", "patterns"] sp_is_result := by
  refine T.F_is_result.ok sc_is_result (fun vs H Q E h => ?_) (fun cdv A outer s H vs Q E hr h => ?_)
  · obtain ⟨v, p, ks, b, rfl, _⟩ := h
    rfl
  · obtain ⟨v, p, ks, b, rfl, hp, hk, k, q⟩ := h
    refine ⟨_, (pss_cons (ps_if (PW.pt (pw_or (pt_not (pt_val (pe_callB call_isi (by rfl) T.n_isinstance (by decide +kernel) (pa_cons (pv 0) (pa_cons (pe_bltn (v := .ty "tuple") (by rfl) T.n_tuple (by decide +kernel) rfl) pa_nil))))) (pw_or (pt_cmpR (op_eqE hr.units) (pv 0) (pe_tup pa_nil) (nomark _)) (pw_or1 (pt_not (pt_val (pe_callB call_isi (by rfl) T.n_isinstance (by decide +kernel) (pa_cons (pe_ix ix_tup (pv 0) pe_int (fun _ _ => rfl)) (pa_cons (pe_bltn (v := .ty "str") (by rfl) T.n_str (by decide +kernel) rfl) pa_nil))))))))) (pss_one (ps_ret pe_bl)) pss_nil)
      (pss_cons (ps_match (pv 0) (pcs_cons rfl sc_is_result.nd (Caps.cons (Caps.cons Caps.nil)) (Slts.cons (i := 2) rfl rfl (Slts.cons (i := 3) rfl rfl Slts.nil)) (pt_cmpR op_eq (pv 2) pe_str (nomark _)) (pss_one (ps_ret (pe_call (ok_is_names T) (hr.mono (by decide)) (by rfl) T.g_is_names T.F_is_names.kp T.b_is_names .nil pass0 (pa_cons (pv 3) (pa_cons pe_int (pa_cons (pe_glob (v := .int (5)) (by rfl) T.m_MAX_NAMES ⟨_, rfl⟩) pa_nil)))))) (pcs_cons rfl sc_is_result.nd (Caps.cons (Caps.cons (Caps.cons Caps.nil))) (Slts.cons (i := 2) rfl rfl (Slts.cons (i := 4) rfl rfl (Slts.cons (i := 5) rfl rfl Slts.nil))) (pt_cmpR op_eq (pv 2) pe_str (nomark _)) (pss_cons (ps_if (PW.pt (pw_or (pt_not (pt_val (pe_call (ok_is_names T) (hr.mono (by decide)) (by rfl) T.g_is_names T.F_is_names.kp T.b_is_names .nil pass0 (pa_cons (pv 4) (pa_cons pe_int (pa_cons (pe_glob (v := .int (3)) (by rfl) T.m_MAX_FRONT ⟨_, rfl⟩) pa_nil)))))) (pw_or1 (pt_not (pt_val (pe_call (ok_is_integer_within T) (hr.mono (by decide)) (by rfl) T.g_is_integer_within T.F_is_integer_within.kp T.b_is_integer_within .nil pass0 (pa_cons (pv 5) (pa_cons pe_int (pa_cons (pe_op op_sub (pe_callB call_lenQ (by rfl) T.n_len (by decide +kernel) (pa_cons (pv 1) pa_nil)) pe_int) pa_nil))))))))) (pss_one (ps_ret pe_bl)) pss_nil)
      (pss_one (ps_ret (pe_cmpR op_eq (pe_ix ix_tup (pe_ix ix_tup (pv 1) (pv 5) (fun _ _ => rfl)) pe_int (fun _ _ => rfl)) pe_str (nomark _))))) pcs_nil)))
      (pss_one (ps_ret pe_bl)))), ?_⟩
    walk_at "rd"
    cases k with
    | oth k n =>
      refine isi_kn k (kit_ntup k n) ?_
      walk_at "rd"
      exact q _ (Same.refl _)
    | @emp a h =>
      walk_at "isi"
      walk_at "rd"
      exact ⟨by decide, fun p1 hp1 => ⟨a, p1, _, rfl, rfl, sqt_of (same_new hp1 _ _ h), sqt_of upd_same, _, rfl, iteT (q _ (same_new hp1))⟩⟩
    | @nostr a x xs t h k n =>
      walk_at "isi"
      walk_at "rd"
      refine ⟨by decide, fun p1 hp1 => ⟨a, p1, _, rfl, rfl, sqt_of (same_new hp1 _ _ h), sqt_of upd_same, _, rfl, iteF (ixt_nat (j := 0) (sqt_of (same_new hp1 _ _ h)) rfl (isi_kn (k.same (same_new hp1)) (kit_nstr k n) ?_))⟩⟩
      walk_at "rd"
      exact q _ (same_new hp1)
    | @odd a z xs h n1 n2 =>
      walk_at "isi"
      walk_at "rd"
      refine ⟨by decide, fun p1 hp1 => ⟨a, p1, _, rfl, rfl, sqt_of (same_new hp1 _ _ h), sqt_of upd_same, _, rfl, iteF (ixt_nat (j := 0) (sqt_of (same_new hp1 _ _ h)) rfl ?_)⟩⟩
      walk_at "isi"
      simp only [tMatch, tCsCons, setAll]
      walk_at "rd"
      refine ⟨_, sqt_of (same_new hp1 _ _ h), ?_⟩
      have sh := sqt_of (K := K) (same_new hp1 (o := .tup []) _ _ h)
      match xs, n1, n2, sh with
      | [], n1, n2, sh => exact q _ (same_new hp1)
      | [y], n1, n2, sh =>
        refine ⟨.str z, rfl, rfl, ?_⟩
        rw [decide_eq_false (fun e => n1 ⟨rfl, by injection e⟩)]
        exact iteF ⟨sh, q _ (same_new hp1)⟩
      | [y, u], n1, n2, sh =>
        refine ⟨.str z, rfl, rfl, ?_⟩
        rw [decide_eq_false (fun e => n2 ⟨rfl, by injection e⟩)]
        exact iteF ⟨sh, q _ (same_new hp1)⟩
      | y :: u :: r :: t, n1, n2, sh =>
        have e1 : ¬ (V.str z :: y :: u :: r :: t).length = 2 := by simp
        have e2 : ¬ (V.str z :: y :: u :: r :: t).length = 3 := by simp
        rw [if_neg e1, if_neg e2]
        exact q _ (same_new hp1)
    | @closed a y ys b h t =>
      walk_at "isi"
      walk_at "rd"
      refine ⟨by decide, fun p1 hp1 => ⟨a, p1, _, rfl, rfl, sqt_of (same_new hp1 _ _ h), sqt_of upd_same, _, rfl, iteF (ixt_nat (j := 0) (sqt_of (same_new hp1 _ _ h)) rfl ?_)⟩⟩
      walk_at "isi"
      simp only [tMatch, tCsCons]
      walk_at "rd"
      refine ⟨_, sqt_of (same_new hp1 _ _ h), .str wClosed, rfl, rfl, ?_⟩
      rw [decide_eq_true rfl]
      exact iteT ⟨y, rfl, y, ys, b, 1, 5, rfl, by decide, Told.same t (same_new hp1), fun H' s' => q _ ((same_new hp1).trans s')⟩
    | @tail a y u ys b t' h t k =>
      walk_at "isi"
      walk_at "rd"
      refine ⟨by decide, fun p1 hp1 => ⟨a, p1, _, rfl, rfl, sqt_of (same_new hp1 _ _ h), sqt_of upd_same, _, rfl, iteF (ixt_nat (j := 0) (sqt_of (same_new hp1 _ _ h)) rfl ?_)⟩⟩
      walk_at "isi"
      simp only [tMatch, tCsCons]
      walk_at "rd"
      refine ⟨_, sqt_of (same_new hp1 _ _ h), .str wTail, rfl, rfl, ?_⟩
      rw [decide_eq_true rfl]
      have s1 : Same H (upd H p1 (.tup [])) := same_new hp1
      generalize upd H p1 (.tup []) = H1 at s1
      refine iteT ⟨y, rfl, y, ys, b, 0, 3, rfl, by decide, Told.same t s1, fun H2 s2 => ⟨_, rfl, ite2 (fun hb => ?_) (fun hb => ?_)⟩⟩
      · have hb' : (b && namesV ys 0 3) = false := by revert hb; cases (b && namesV ys 0 3) <;> simp
        rw [hb', Bool.false_and] at q
        exact q _ (s1.trans s2)
      · have hb' : (b && namesV ys 0 3) = true := by revert hb; cases (b && namesV ys 0 3) <;> simp
        rw [hb', Bool.true_and] at q
        have s3 := s1.trans s2
        have hp3 := hp.same s3
        have hp4 := hp3
        obtain ⟨xs, hx, lx, fx⟩ := hp4
        refine ⟨u, rfl, .ref p, rfl, lenT (sqt_of hx) ⟨_, rfl, u, t', 0, _, rfl, k.same s3, _, rfl, ?_⟩⟩
        rw [lx]
        refine ite2 (fun hu => ?_) (fun hu => ?_)
        · have hu' : inV3 u 0 ((ks.length : Int) - 1) = false := by revert hu; cases inV3 u 0 ((ks.length : Int) - 1) <;> simp
          rw [hu', Bool.false_and] at q
          exact q _ s3
        · have hu' : inV3 u 0 ((ks.length : Int) - 1) = true := by revert hu; cases inV3 u 0 ((ks.length : Int) - 1) <;> simp
          rw [hu', Bool.true_and] at q
          cases u with
          | int i =>
            have h2 : 0 ≤ i ∧ i ≤ (ks.length : Int) - 1 := by
              simp only [inV3, Bool.and_eq_true, decide_eq_true_eq] at hu'
              exact hu'.2
            obtain ⟨n, rfl⟩ : ∃ n : Nat, i = (n : Int) := ⟨i.toNat, by omega⟩
            have hn : n < ks.length := by omega
            obtain ⟨a', y', e1, e2⟩ := fx n ks[n] (List.getElem?_eq_getElem hn)
            refine ⟨.ref p, rfl, .int n, rfl, ixt_nat (j := n) (sqt_of hx) e1 (ixt_nat (j := 0) (sqt_of e2) rfl ⟨by cases ks[n] <;> rfl, ?_⟩)⟩
            have q1 := q _ s3
            have e3 : ks.getD (Int.toNat n) false = ks[n] := by simp [List.getD, List.getElem?_eq_getElem hn]
            rw [show atK ks (.int n) = ks[n] from e3] at q1
            cases hb2 : ks[n]
            · rw [hb2] at q1
              rw [decide_eq_false (by decide)]
              exact q1
            · rw [hb2] at q1
              rw [decide_eq_true (by rfl)]
              exact q1
          | _ => exact nomatch hu'
end

section
variable {w : World} {K : PySem.W.Frag} {mg : Str → Option Value} {base : Heap}
abbrev star : Str := Str.ofString "*"
/-- the text of names, with a star behind them or not -/
def sideT (o : Bool) (ws : List Str) : Str := Txt.join blank (ws ++ if o then [star] else [])
def szW (ws : List Str) : Nat := (ws.map (·.length)).sum + ws.length
def sp_text_of_side : Sp := fun vs H Q _ => ∃ (o : Bool) (b : Addr) (ws : List Str), vs = [.bl o, .ref b] ∧ H b = some (.tup (ws.map V.str)) ∧ szW ws ≤ 10000 ∧ ∀ H', Same H H' → Q (.str (sideT o ws)) H'
theorem ok_text_of_side (T : Tx K mg) : FnOk P w K mg base CX0 1 T.f_text_of_side T.d_text_of_side ["is_open", "names"] sp_text_of_side := by
  refine T.F_text_of_side.ok sc_text_of_side (fun vs H Q E h => ?_) (fun cdv A outer s H vs Q E hr h => ?_)
  · obtain ⟨o, b, ws, rfl, _⟩ := h
    rfl
  · obtain ⟨o, b, ws, rfl, hb, hz, q⟩ := h
    refine ⟨_, (pss_one (ps_ret (pe_ifExp (pt_val (pv 0)) (pe_joinN pe_str (pe_lst (StX.pa_star (pv 1) (pa_cons pe_str pa_nil)))) (pe_joinN pe_str (pv 1))))), ?_⟩
    walk_at "rd"
    unfold szW at hz
    cases o with
    | true =>
      refine iteT ?_
      simp only [StX.tStar]
      walk_at "rd"
      refine ⟨⟨_, rfl⟩, _, .inl (sqt_of hb), sz100 (by simp; omega), fun p hp => ?_⟩
      have e : ws.map V.str ++ [V.str (Str.ofString "*")] = (ws ++ [star]).map V.str := by simp
      rw [e]
      refine ⟨_, p, ws ++ [star], rfl, rfl, .inl (sql_of upd_same), ?_, q _ (same_new hp)⟩
      rw [List.map_append, List.sum_append, List.length_append]
      show _ + (ws.length + 1) * 1 ≤ _
      have e1 : ([star].map (·.length)).sum = 1 := rfl
      rw [e1]
      omega
    | false =>
      refine iteF ⟨⟨_, rfl⟩, _, b, ws, rfl, rfl, .inr (sqt_of hb), ?_, ?_⟩
      · show _ + ws.length * 1 ≤ _
        omega
      · have := q _ (Same.refl _)
        simp only [sideT, List.append_nil, Bool.false_eq_true, if_false] at this
        exact this
/-- whether words end with a star, and the others -/
def sideC (ws : List Str) : Bool × List Str := if ws.getLast? = some star then (true, ws.dropLast) else (false, ws)
def sp_side_of : Sp := fun vs H Q _ => ∃ (l : Addr) (ws : List Str), vs = [.ref l] ∧ H l = some (.lst (ws.map V.str)) ∧ (∀ w ∈ ws, Pl w) ∧ ws.length ≤ 10000 ∧ ∀ p b H', Same H H' → H' b = some (.tup ((sideC ws).2.map V.str)) → H' p = some (.tup [.bl (sideC ws).1, .ref b]) → Q (.ref p) H'
theorem ok_side_of (T : Tx K mg) : FnOk P w K mg base CX0 1 T.f_side_of T.d_side_of ["words"] sp_side_of := by
  refine T.F_side_of.ok sc_side_of (fun vs H Q E h => ?_) (fun cdv A outer s H vs Q E hr h => ?_)
  · obtain ⟨l, ws, rfl, _⟩ := h
    rfl
  · obtain ⟨l, ws, rfl, hl, pl, hz, q⟩ := h
    refine ⟨_, (pss_cons (ps_set (i := 1) sc_side_of.nd rfl (Or.inl rfl) (pe_and (pe_cmpR (op_neD hr.units) (pv 0) (pe_lst pa_nil) (nomark _)) (pe_one (pe_cmpR op_eq (pe_ix ix_list (pv 0) (pe_un un_neg pe_int) (fun _ _ => rfl)) pe_str (nomark _)))))
      (pss_one (ps_ret (pe_tup (pa_cons (pv 1) (pa_cons (pe_callTy call_tupL (by rfl) T.n_tuple (by decide +kernel) (pa_cons (pe_ifExp (pt_val (pv 1)) (pe_slice sl_list (pv 0) po_none (po_some (pe_un un_neg pe_int))) (pv 0)) pa_nil)) pa_nil)))))), ?_⟩
    walk_at "rd"
    refine ⟨by decide, fun p1 hp1 => ?_⟩
    have s1 := same_new (o := .lst []) hp1
    have f1 : upd H p1 (.lst []) p1 = some (.lst []) := upd_same
    generalize upd H p1 (.lst []) = H1 at *
    have l1 := s1 _ _ hl
    refine neLs (ys := []) (sql_of l1) (sql_of f1) pl (fun _ h => nomatch h) ⟨_, rfl, ?_⟩
    by_cases hn : ws = []
    · rw [decide_eq_true hn]
      refine iteF (tupL (sql_of l1) fun p2 hp2 => ⟨by decide, fun p3 hp3 => ?_⟩)
      have e : sideC ws = (false, ws) := by rw [hn]; rfl
      rw [e] at q
      have s2 : Same H1 (upd H1 p2 (.tup (ws.map V.str))) := same_new hp2
      exact q _ _ _ (s1.trans (s2.trans (same_new hp3))) (same_new hp3 _ _ upd_same) upd_same
    · rw [decide_eq_false hn]
      obtain ⟨z, ez⟩ : ∃ z, ws.getLast? = some z := ⟨_, List.getLast?_eq_some_getLast hn⟩
      refine iteT (ixl (v := .str z) (sql_of l1) (by rw [at_last (by simpa using hn), List.getLast?_map, ez]; rfl) ⟨rfl, ?_⟩)
      by_cases hs : z = star
      · have e : sideC ws = (true, ws.dropLast) := by unfold sideC; rw [ez, hs]; rfl
        rw [e] at q
        rw [decide_eq_true (by rw [hs])]
        refine iteT ⟨l, _, rfl, sql_of l1, fun p2 hp2 => ?_⟩
        rw [cut_last, ← List.map_dropLast]
        have s2 := same_new (o := .lst (ws.dropLast.map V.str)) hp2
        have f2 : upd H1 p2 (.lst (ws.dropLast.map V.str)) p2 = some (.lst (ws.dropLast.map V.str)) := upd_same
        generalize upd H1 p2 (.lst (ws.dropLast.map V.str)) = H2 at *
        refine tupL (sql_of f2) fun p3 hp3 => ⟨by decide, fun p4 hp4 => ?_⟩
        have s3 : Same H2 (upd H2 p3 (.tup (ws.dropLast.map V.str))) := same_new hp3
        exact q _ _ _ ((s1.trans s2).trans (s3.trans (same_new hp4))) (same_new hp4 _ _ upd_same) upd_same
      · have e : sideC ws = (false, ws) := by unfold sideC; rw [ez, if_neg (fun e => hs (by injection e))]
        rw [e] at q
        rw [decide_eq_false (fun e => hs (by injection e))]
        refine iteF (tupL (sql_of l1) fun p2 hp2 => ⟨by decide, fun p3 hp3 => ?_⟩)
        have s2 : Same H1 (upd H1 p2 (.tup (ws.map V.str))) := same_new hp2
        exact q _ _ _ (s1.trans (s2.trans (same_new hp3))) (same_new hp3 _ _ upd_same) upd_same
/-- a pattern at a -/
def ptA (H : Hp) (a : Addr) (o : Bool) (ws : List Str) : Prop := ∃ b, H a = some (.tup [.str (if o then wOpen else wClosed), .ref b]) ∧ H b = some (.tup (ws.map V.str))
theorem ptA.same {H H' : Hp} {a : Addr} {o : Bool} {ws : List Str} (h : ptA H a o ws) (s : Same H H') : ptA H' a o ws := let ⟨b, h1, h2⟩ := h; ⟨b, s _ _ h1, s _ _ h2⟩
def patC (z : Str) : Bool × List Str := sideC (Txt.split z blank)
def sp_pattern_of : Sp := fun vs H Q _ => ∃ (z : Str), vs = [.str z] ∧ Pl z ∧ z.length ≤ 9000 ∧ ∀ p H', Same H H' → ptA H' p (patC z).1 (patC z).2 → Q (.ref p) H'
theorem ok_pattern_of (T : Tx K mg) : FnOk P w K mg base CX0 2 T.f_pattern_of T.d_pattern_of ["text"] sp_pattern_of := by
  refine T.F_pattern_of.ok sc_pattern_of (fun vs H Q E h => ?_) (fun cdv A outer s H vs Q E hr h => ?_)
  · obtain ⟨z, rfl, _⟩ := h
    rfl
  · obtain ⟨z, rfl, pz, hz, q⟩ := h
    refine ⟨_, (pss_cons (ps_asg (pe_call (ok_side_of T) (hr.mono (by decide)) (by rfl) T.g_side_of T.F_side_of.kp T.b_side_of .nil pass0 (pa_cons (pe_split (pv 0) pe_str) pa_nil)) (pg_tup (n := 2) rfl (pgs_cons (pg_name (i := 1) sc_pattern_of.nd rfl (Or.inl rfl)) (pgs_cons (pg_name (i := 2) sc_pattern_of.nd rfl (Or.inl rfl)) pgs_nil))))
      (pss_one (ps_ret (pe_tup (pa_cons (pe_ifExp (pt_val (pv 1)) pe_str pe_str) (pa_cons (pv 2) pa_nil)))))), ?_⟩
    walk_at "rd"
    refine ⟨⟨_, rfl⟩, rfl, sz100 (by omega), fun p1 hp1 => ?_⟩
    have s1 := same_new (o := .lst ((Txt.split z (Str.ofString " ")).map V.str)) hp1
    have f1 : upd H p1 (.lst ((Txt.split z (Str.ofString " ")).map V.str)) p1 = some (.lst ((Txt.split z (Str.ofString " ")).map V.str)) := upd_same
    generalize upd H p1 (.lst ((Txt.split z (Str.ofString " ")).map V.str)) = H1 at *
    refine ⟨p1, _, rfl, f1, ?_, ?_, fun p b H2 s2 hb hp => ⟨p, _, rfl, sqt_of hp, rfl, ?_⟩⟩
    · exact fun w hw => part_pl pz hw
    · have := part_num (z := z) (y := blank) (by decide); show (Txt.split z blank).length ≤ _; omega
    · walk_at "rd"
      cases hc : (sideC (Txt.split z (Str.ofString " "))).1
      · refine iteF ⟨by decide, fun p3 hp3 => q _ _ ((s1.trans s2).trans (same_new hp3)) ⟨b, ?_, same_new hp3 _ _ hb⟩⟩
        show _ = some (HO.tup [V.str (if (sideC (Txt.split z (Str.ofString " "))).1 = true then wOpen else wClosed), V.ref b])
        rw [hc]
        exact upd_same
      · refine iteT ⟨by decide, fun p3 hp3 => q _ _ ((s1.trans s2).trans (same_new hp3)) ⟨b, ?_, same_new hp3 _ _ hb⟩⟩
        show _ = some (HO.tup [V.str (if (sideC (Txt.split z (Str.ofString " "))).1 = true then wOpen else wClosed), V.ref b])
        rw [hc]
        exact upd_same
/-- the index behind a star -/
def tailAt (z : Str) : Option Nat := if z = Str.ofString "*0" then some 0 else if z = Str.ofString "*1" then some 1 else if z = Str.ofString "*2" then some 2 else none
def resC (z : Str) : List Str × Option Nat := match tailAt ((Txt.split z blank).getLast?.getD none') with
  | some n => ((Txt.split z blank).dropLast, some n)
  | none => (Txt.split z blank, none)
theorem tailAt_some {y : Str} {n : Nat} (h : tailAt y = some n) : y = ⟨#[42, 48 + n]⟩ ∧ n < 3 := by
  unfold tailAt at h
  split at h
  · rename_i e
    cases h
    exact ⟨e.trans rfl, by decide⟩
  · split at h
    · rename_i e
      cases h
      exact ⟨e.trans rfl, by decide⟩
    · split at h
      · rename_i e
        cases h
        exact ⟨e.trans rfl, by decide⟩
      · cases h
theorem tailAt_digit {n : Nat} (h : n < 3) : tailAt ⟨#[42, 48 + n]⟩ = some n := by
  match n, h with
  | 0, _ => decide
  | 1, _ => decide
  | 2, _ => decide
theorem tailAt_none {y : Str} (h : ∀ n, n < 3 → y ≠ ⟨#[42, 48 + n]⟩) : tailAt y = none := by
  cases e : tailAt y with
  | none => rfl
  | some n => exact absurd (tailAt_some e).1 (h n (tailAt_some e).2)
theorem lt1 {a b : Nat} : ([a] : List Nat) < [b] ↔ a < b := by
  constructor
  · intro h
    cases h with
    | rel h => exact h
    | cons h => exact nomatch h
  · intro h
    exact List.Lex.rel h
/-- a result at a -/
def rsA (H : Hp) (a : Addr) (ws : List Str) (t : Option Nat) : Prop := ∃ b, H b = some (.tup (ws.map V.str)) ∧ H a = some (.tup (.str (if t.isSome then wTail else wClosed) :: .ref b :: t.toList.map fun n : Nat => V.int n))
theorem rsA.same {H H' : Hp} {a : Addr} {ws : List Str} {t : Option Nat} (h : rsA H a ws t) (s : Same H H') : rsA H' a ws t := let ⟨b, h1, h2⟩ := h; ⟨b, s _ _ h1, s _ _ h2⟩
def sp_result_of_text : Sp := fun vs H Q _ => ∃ (z : Str), vs = [.str z] ∧ Pl z ∧ z.length ≤ 9000 ∧ ∀ p H', Same H H' → rsA H' p (resC z).1 (resC z).2 → Q (.ref p) H'
theorem ok_result_of_text (T : Tx K mg) : FnOk P w K mg base CX0 1 T.f_result_of_text T.d_result_of_text ["text"] sp_result_of_text := by
  refine T.F_result_of_text.ok sc_result_of_text (fun vs H Q E h => ?_) (fun cdv A outer s H vs Q E hr h => ?_)
  · obtain ⟨z, rfl, _⟩ := h
    rfl
  · obtain ⟨z, rfl, pz, hz, q⟩ := h
    refine ⟨_, (pss_cons (ps_set (i := 1) sc_result_of_text.nd rfl (Or.inl rfl) (pe_split (pv 0) pe_str))
      (pss_cons (ps_if (PW.pt (pw_and (pt_cmpR op_eq (pe_callB call_len_str (by rfl) T.n_len (by decide +kernel) (pa_cons (pe_ix ix_list (pv 1) (pe_un un_neg pe_int) (fun _ _ => rfl)) pa_nil)) pe_int (nomark _)) (pw_and (pt_cmpR op_eq (pe_ix ix_str (pe_ix ix_list (pv 1) (pe_un un_neg pe_int) (fun _ _ => rfl)) pe_int (fun _ _ => rfl)) pe_str (nomark _)) (pw_and1 (pt_chain op_le_str op_le_str pe_str (pe_ix ix_str (pe_ix ix_list (pv 1) (pe_un un_neg pe_int) (fun _ _ => rfl)) pe_int (fun _ _ => rfl)) pe_str))))) (pss_one (ps_ret (pe_tup (pa_cons pe_str (pa_cons (pe_callTy call_tupL (by rfl) T.n_tuple (by decide +kernel) (pa_cons (pe_slice sl_list (pv 1) po_none (po_some (pe_un un_neg pe_int))) pa_nil)) (pa_cons (pe_callTy call_int_str (by rfl) T.n_int (by decide +kernel) (pa_cons (pe_ix ix_str (pe_ix ix_list (pv 1) (pe_un un_neg pe_int) (fun _ _ => rfl)) pe_int (fun _ _ => rfl)) pa_nil)) pa_nil)))))) pss_nil)
      (pss_one (ps_ret (pe_tup (pa_cons pe_str (pa_cons (pe_callTy call_tupL (by rfl) T.n_tuple (by decide +kernel) (pa_cons (pv 1) pa_nil)) pa_nil))))))), ?_⟩
    walk_at "rd"
    refine ⟨⟨_, rfl⟩, rfl, sz100 (by omega), fun p1 hp1 => ?_⟩
    have s1 := same_new (o := .lst ((Txt.split z (Str.ofString " ")).map V.str)) hp1
    have f1 : upd H p1 (.lst ((Txt.split z (Str.ofString " ")).map V.str)) p1 = some (.lst ((Txt.split z (Str.ofString " ")).map V.str)) := upd_same
    generalize upd H p1 (.lst ((Txt.split z (Str.ofString " ")).map V.str)) = H1 at *
    have hne : Txt.split z (Str.ofString " ") ≠ [] := split_ne (by decide) (by decide +kernel)
    obtain ⟨y, ey⟩ : ∃ y, (Txt.split z (Str.ofString " ")).getLast? = some y := ⟨_, List.getLast?_eq_some_getLast hne⟩
    have hy : y.length ≤ z.length := part_len (y := Str.ofString " ") (List.mem_of_getLast? ey)
    have at1 : atI ((Txt.split z (Str.ofString " ")).map V.str) (-1) = some (.str y) := by rw [at_last (by simpa using hne), List.getLast?_map, ey]; rfl
    have q' : ∀ p H', Same H H' → rsA H' p (match tailAt y with | some n => (Txt.split z blank).dropLast | none => Txt.split z blank) (tailAt y) → Q (.ref p) H' := by
      intro p H' s' h'
      refine q p H' s' ?_
      have e : resC z = match tailAt y with
        | some n => ((Txt.split z blank).dropLast, some n)
        | none => (Txt.split z blank, none) := by
        unfold resC
        rw [show (Txt.split z blank).getLast? = some y from ey]
        rfl
      rw [e]
      revert h'
      cases tailAt y <;> exact fun h' => h'
    have no : ∀ H2 : Hp, Same H1 H2 → tailAt y = none → rTupL K [.ref p1] H2 fun x H1 => 2 ≤ sizeLine ∧ ∀ (p : Addr), H1 p = none → Q (V.ref p) (upd H1 p (HO.tup [V.str (Str.ofString "closed"), x])) := by
      intro H2 s2 ht
      refine tupL (sql_of (s2 _ _ f1)) fun p2 hp2 => ⟨by decide, fun p3 hp3 => ?_⟩
      have s3 : Same H2 (upd H2 p2 (.tup ((Txt.split z (Str.ofString " ")).map V.str))) := same_new hp2
      refine q' _ _ ((s1.trans s2).trans (s3.trans (same_new hp3))) ?_
      rw [ht]
      exact ⟨p2, same_new hp3 _ _ upd_same, upd_same⟩
    refine ixl (sql_of f1) at1 ⟨y, rfl, sz100 (by omega), rfl, ite2 (fun h2 => ?_) (fun h2 => no _ (Same.refl _) ?_)⟩
    · have h2' : y.length = 2 := by have := of_decide_eq_true h2; omega
      obtain ⟨c1, c2, rfl⟩ : ∃ c1 c2, y = ⟨#[c1, c2]⟩ := by
        obtain ⟨⟨l⟩⟩ := y
        match l, h2' with
        | [a, b], _ => exact ⟨a, b, rfl⟩
      refine ixl (sql_of f1) at1 ⟨_, _, c1, rfl, rfl, sz100 (by omega), rfl, rfl, ite2 (fun h3 => ?_) (fun h3 => no _ (Same.refl _) ?_)⟩
      · refine ixl (sql_of f1) at1 ⟨_, _, c2, rfl, rfl, sz100 (by omega), rfl, _, rfl, ite2 (fun h4 => ⟨_, rfl, ite2 (fun h5 => ?_) (fun h5 => no _ (Same.refl _) ?_)⟩) (fun h4 => no _ (Same.refl _) ?_)⟩
        · have e1 : c1 = 42 := by
            have := of_decide_eq_true h3
            injection this with this
            exact (List.cons.inj (congrArg TL.tl this)).1
          have e4 : 48 ≤ c2 := by
            have h4' : ¬ ([c2] : List Nat) < [48] := by
              intro hh
              rw [decide_eq_true (show (⟨#[c2]⟩ : Str).cps.toList < (Str.ofString "0").cps.toList from hh)] at h4
              exact nomatch h4
            rw [lt1] at h4'
            omega
          have e5 : c2 ≤ 50 := by
            have h5' : ¬ ([50] : List Nat) < [c2] := by
              intro hh
              rw [decide_eq_true (show (Str.ofString "2").cps.toList < (⟨#[c2]⟩ : Str).cps.toList from hh)] at h5
              exact nomatch h5
            rw [lt1] at h5'
            omega
          obtain ⟨n, hn, rfl⟩ : ∃ n, n < 3 ∧ c2 = 48 + n := ⟨c2 - 48, by omega, by omega⟩
          subst e1
          refine ⟨p1, _, rfl, sql_of f1, fun p2 hp2 => ?_⟩
          rw [cut_last, ← List.map_dropLast]
          have s2 := same_new (o := .lst ((Txt.split z (Str.ofString " ")).dropLast.map V.str)) hp2
          have f2 : upd H1 p2 (.lst ((Txt.split z (Str.ofString " ")).dropLast.map V.str)) p2 = some (.lst ((Txt.split z (Str.ofString " ")).dropLast.map V.str)) := upd_same
          generalize upd H1 p2 (.lst ((Txt.split z (Str.ofString " ")).dropLast.map V.str)) = H2 at *
          refine tupL (sql_of f2) fun p3 hp3 => ?_
          have s3 := same_new (o := .tup ((Txt.split z (Str.ofString " ")).dropLast.map V.str)) hp3
          have f3 : upd H2 p3 (.tup ((Txt.split z (Str.ofString " ")).dropLast.map V.str)) p3 = some (.tup ((Txt.split z (Str.ofString " ")).dropLast.map V.str)) := upd_same
          generalize upd H2 p3 (.tup ((Txt.split z (Str.ofString " ")).dropLast.map V.str)) = H3 at *
          have it : intText? ⟨#[48 + n]⟩ = some (n : Int) := by
            match n, hn with
            | 0, _ => decide +kernel
            | 1, _ => decide +kernel
            | 2, _ => decide +kernel
          refine ixl (sql_of ((s2.trans s3) _ _ f1)) at1 ⟨_, _, 48 + n, rfl, rfl, sz100 (by omega), rfl, _, rfl, n, it, (show 1 ≤ 640 by decide), by decide, fun p4 hp4 => ?_⟩
          refine q' _ _ ((s1.trans s2).trans (s3.trans (same_new hp4))) ?_
          rw [tailAt_digit hn]
          exact ⟨p3, same_new hp4 _ _ f3, upd_same⟩
        · refine tailAt_none fun n hn e => h5 ?_
          injection e with e
          have e' : c2 = 48 + n := by have := congrArg Array.toList e; simp at this; exact this.2
          rw [Bool.not_eq_true', decide_eq_false_iff_not]
          intro hh
          have := lt1.mp (show ([50] : List Nat) < [c2] from hh)
          omega
        · refine tailAt_none fun n hn e => h4 ?_
          injection e with e
          have e' : c2 = 48 + n := by have := congrArg Array.toList e; simp at this; exact this.2
          rw [Bool.not_eq_true', decide_eq_false_iff_not]
          intro hh
          have := lt1.mp (show ([c2] : List Nat) < [48] from hh)
          omega
      · refine tailAt_none fun n hn e => h3 ?_
        injection e with e
        have e' : c1 = 42 := by have := congrArg Array.toList e; simp at this; exact this.1
        rw [e']
        rfl
    · refine tailAt_none fun n hn e => h2 ?_
      rw [e]
      rfl
end

set_option pp.maxSteps 2500

section
variable {w : World} {K : PySem.W.Frag} {mg : Str → Option Value} {base : Heap}
local macro_rules | `(tactic| walk_at "rdx") => `(tactic| ((try simp only [tFld, gTup, gStar, tJs, tFmt]); try walk_at "rd"))
theorem range_mapD {α β : Type} (d : α) (f : α → β) (l : List α) : ((List.range l.length).map fun i => f (l.getD i d)) = l.map f := by
  apply List.ext_getElem
  · simp
  · intro i h1 h2
    simp at h1
    simp [List.getD, List.getElem?_eq_getElem h1]
theorem mono_pair {i j : Nat} (x : V) (σ' : L2.St) (H' : Hp) (A B : L2.St → Hp → Prop) (h : ∀ s h, A s h → B s h) (q : gTup K 2 (gCons (gName i) (gCons (gName j) gNil)) x σ' H' A) : gTup K 2 (gCons (gName i) (gCons (gName j) gNil)) x σ' H' B := by
  obtain ⟨a, xs, e, hs, hl, v, r, e1, v2, r2, e2, e3, hA⟩ := q
  exact ⟨a, xs, e, hs, hl, v, r, e1, v2, r2, e2, e3, h _ _ hA⟩
theorem names_of {ws : List Str} {lo hi : Int} (h : namesV (ws.map V.str) lo hi = true) : (∀ w ∈ ws, isNm w = true) ∧ lo ≤ ws.length ∧ (ws.length : Int) ≤ hi := by
  unfold namesV at h
  simp only [Bool.and_eq_true, decide_eq_true_eq, List.length_map] at h
  refine ⟨fun w hw => ?_, h.1.1, h.1.2⟩
  exact List.all_eq_true.mp h.2 _ (List.mem_map_of_mem hw)
theorem sz_nm {ws : List Str} (h : ∀ w ∈ ws, isNm w = true) : szW ws ≤ 9 * ws.length := by
  have := sum_le8 h
  unfold szW
  omega
theorem joinL_le (S : List Nat) : ∀ ps : List (List Nat), (TL.joinL S ps).length ≤ (ps.map (·.length)).sum + ps.length * S.length
  | [] => Nat.zero_le _
  | [q] => by
    show q.length ≤ q.length + 0 + 1 * S.length
    omega
  | q :: r :: rs => by
    have ih := joinL_le S (r :: rs)
    show (q ++ (S ++ TL.joinL S (r :: rs))).length ≤ q.length + ((r :: rs).map (·.length)).sum + ((r :: rs).length + 1) * S.length
    rw [List.length_append, List.length_append, Nat.succ_mul]
    omega
theorem join_le (y : Str) (ws : List Str) : (Txt.join y ws).length ≤ (ws.map (·.length)).sum + ws.length * y.length := by
  have h := joinL_le (TL.tl y) (ws.map TL.tl)
  rw [← TL.tl_join, ← TL.join_eq, ← len_tl, List.length_map, List.map_map, ← len_tl] at h
  have e : (List.length ∘ TL.tl) = fun w : Str => w.length := by funext w; exact (len_tl w).symm
  have h' : (Txt.join y ws).length ≤ (ws.map (List.length ∘ TL.tl)).sum + ws.length * y.length := h
  rw [e] at h'
  exact h'
theorem len_app (a b : Str) : (a ++ b).length = a.length + b.length := by rw [len_tl, TL.tl_append, List.length_append, ← len_tl, ← len_tl]
theorem side_le (o : Bool) (ws : List Str) : (sideT o ws).length ≤ szW ws + 2 := by
  have h := join_le blank (ws ++ if o then [star] else [])
  unfold sideT
  refine Nat.le_trans h ?_
  have e : blank.length = 1 := rfl
  rw [e, List.map_append, List.sum_append, List.length_append]
  unfold szW
  cases o
  · simp
  · have e1 : (([star] : List Str).map (·.length)).sum = 1 := rfl
    simp only [if_true, e1, List.length_cons, List.length_nil]
    omega
theorem sum_le_of {α : Type} {f : α → Nat} {k : Nat} : ∀ {l : List α}, (∀ x ∈ l, f x ≤ k) → (l.map f).sum ≤ l.length * k
  | [], _ => Nat.zero_le _
  | x :: r, h => by
    have h1 := sum_le_of (l := r) fun y hy => h y (.tail _ hy)
    have h2 := h x (.head _)
    show f x + (r.map f).sum ≤ (r.length + 1) * k
    rw [Nat.succ_mul]
    omega
/-- what a candidate is made of -/
structure Cd where
  nm : Str
  ps : List (Bool × List Str)
  rs : List Str × Option Nat
deriving DecidableEq
def ptOk (p : Bool × List Str) : Bool := if p.1 then namesV (p.2.map V.str) 0 3 else namesV (p.2.map V.str) 1 5
def rsOk (ps : List (Bool × List Str)) (r : List Str × Option Nat) : Bool := match r.2 with
  | none => namesV (r.1.map V.str) 1 5
  | some n => namesV (r.1.map V.str) 0 3 && ((ps.map (·.1)).getD n false)
/-- a candidate, by its parts -/
structure CdOk (c : Cd) : Prop where
  nm : isNm c.nm = true
  lo : 1 ≤ c.ps.length
  hi : c.ps.length ≤ 3
  pt : ∀ p ∈ c.ps, ptOk p = true
  rs : rsOk c.ps c.rs = true
/-- the patterns at a -/
def ptsA (H : Hp) (a : Addr) (ps : List (Bool × List Str)) : Prop := ∃ xs, H a = some (.tup xs) ∧ xs.length = ps.length ∧ ∀ (i : Nat) p, ps[i]? = some p → ∃ b, xs[i]? = some (.ref b) ∧ ptA H b p.1 p.2
theorem ptsA.same {H H' : Hp} {a : Addr} {ps : List (Bool × List Str)} (h : ptsA H a ps) (s : Same H H') : ptsA H' a ps := by
  obtain ⟨xs, h1, h2, h3⟩ := h
  exact ⟨xs, s _ _ h1, h2, fun i p e => let ⟨b, e1, e2⟩ := h3 i p e; ⟨b, e1, e2.same s⟩⟩
/-- the candidate c at a -/
structure CdA (H : Hp) (C a : Addr) (c : Cd) (dx pa ra ka : Addr) (fs : List (Str × V)) : Prop where
  at_ : H a = some (.ins C dx fs)
  f1 : fs.lookup ("own_name" : Str) = some (.str c.nm)
  f2 : fs.lookup ("own_patterns" : Str) = some (.ref pa)
  f3 : fs.lookup ("own_result" : Str) = some (.ref ra)
  f4 : fs.lookup ("own_key" : Str) = some (.ref ka)
  ps : ptsA H pa c.ps
  rs : rsA H ra c.rs.1 c.rs.2
  ky : H ka = some (.tup [.str c.nm, .ref pa, .ref ra])
theorem CdA.same {H H' : Hp} {C a dx pa ra ka : Addr} {c : Cd} {fs : List (Str × V)} (h : CdA H C a c dx pa ra ka fs) (s : Same H H') : CdA H' C a c dx pa ra ka fs := ⟨s _ _ h.at_, h.f1, h.f2, h.f3, h.f4, h.ps.same s, h.rs.same s, s _ _ h.ky⟩
def Cnd (H : Hp) (C a : Addr) (c : Cd) : Prop := ∃ dx pa ra ka fs, CdA H C a c dx pa ra ka fs
theorem Cnd.same {H H' : Hp} {C a : Addr} {c : Cd} (h : Cnd H C a c) (s : Same H H') : Cnd H' C a c := let ⟨dx, pa, ra, ka, fs, x⟩ := h; ⟨dx, pa, ra, ka, fs, x.same s⟩
abbrev comma : Str := Str.ofString ", "
def patsT (ps : List (Bool × List Str)) : Str := Txt.join comma (ps.map fun p => sideT p.1 p.2)
def numT (n : Nat) : Str := Str.ofString (toString (n : Int))
def endT (r : List Str × Option Nat) : Str := sideT r.2.isSome r.1 ++ Txt.join none' (r.2.toList.map numT)
def lineT (c : Cd) : Str := Str.empty ++ c.nm ++ Str.ofString "(" ++ patsT c.ps ++ Str.ofString ") gives " ++ endT c.rs
theorem ptOk_sz {p : Bool × List Str} (h : ptOk p = true) : (∀ w ∈ p.2, isNm w = true) ∧ p.2.length ≤ 5 := by
  unfold ptOk at h
  split at h
  · have := names_of h
    exact ⟨this.1, by omega⟩
  · have := names_of h
    exact ⟨this.1, by omega⟩
theorem rsOk_sz {ps : List (Bool × List Str)} {r : List Str × Option Nat} (h : rsOk ps r = true) : (∀ w ∈ r.1, isNm w = true) ∧ r.1.length ≤ 5 ∧ ∀ n, r.2 = some n → n < ps.length := by
  unfold rsOk at h
  split at h
  · rename_i e
    have := names_of h
    exact ⟨this.1, by omega, fun n e' => by rw [e] at e'; cases e'⟩
  · rename_i m e
    rw [Bool.and_eq_true] at h
    have := names_of h.1
    refine ⟨this.1, by omega, fun n e' => ?_⟩
    rw [e] at e'
    cases e'
    by_cases hm : m < ps.length
    · exact hm
    · have h2 := h.2
      rw [List.getD, List.getElem?_eq_none (by rw [List.length_map]; omega)] at h2
      cases h2
theorem numT_len {n : Nat} (h : n < 3) : (numT n).length = 1 := by
  match n, h with
  | 0, _ => decide +kernel
  | 1, _ => decide +kernel
  | 2, _ => decide +kernel
theorem patsT_le {c : Cd} (ok : CdOk c) : ((c.ps.map fun p : Bool × List Str => sideT p.1 p.2).map (·.length)).sum ≤ 150 ∧ (patsT c.ps).length ≤ 160 := by
  have h1 : ((c.ps.map fun p : Bool × List Str => sideT p.1 p.2).map (·.length)).sum ≤ c.ps.length * 47 := by
    rw [List.map_map]
    refine sum_le_of fun p hp => ?_
    obtain ⟨a, b⟩ := ptOk_sz (ok.pt p hp)
    have h2 := side_le p.1 p.2
    have h3 := sz_nm a
    show (sideT p.1 p.2).length ≤ 47
    omega
  have h4 := join_le comma (c.ps.map fun p : Bool × List Str => sideT p.1 p.2)
  rw [List.length_map, show comma.length = 2 from rfl] at h4
  have h5 := ok.hi
  unfold patsT
  constructor <;> omega
theorem endT_le {c : Cd} (ok : CdOk c) : (sideT c.rs.2.isSome c.rs.1).length ≤ 50 ∧ (Txt.join none' (c.rs.2.toList.map numT)).length ≤ 1 := by
  obtain ⟨a, b, n⟩ := rsOk_sz ok.rs
  have h2 := side_le c.rs.2.isSome c.rs.1
  have h3 := sz_nm a
  refine ⟨by omega, ?_⟩
  have h4 := join_le none' (c.rs.2.toList.map numT)
  cases e : c.rs.2 with
  | none => decide
  | some m =>
    rw [e] at h4
    have h5 := numT_len (Nat.lt_of_lt_of_le (n m e) ok.hi)
    show (Txt.join none' [numT m]).length ≤ 1
    have h6 : (Txt.join none' [numT m]).length ≤ (numT m).length + 0 + 1 * none'.length := h4
    rw [show none'.length = 0 from rfl] at h6
    omega
def sp_line_of_candidate (C : Addr) : Sp := fun vs H Q _ => ∃ (a : Addr) (c : Cd), vs = [.ref a] ∧ Cnd H C a c ∧ CdOk c ∧ ∀ H', Same H H' → Q (.str (lineT c)) H'
theorem ok_line_of_candidate (T : Tx K mg) : FnOk P w K mg base CX0 2 T.f_line_of_candidate T.d_line_of_candidate ["candidate"] (sp_line_of_candidate T.C_Candidate) := by
  refine T.F_line_of_candidate.ok sc_line_of_candidate (fun vs H Q E h => ?_) (fun cdv A outer s H vs Q E hr h => ?_)
  · obtain ⟨a, c, rfl, _⟩ := h
    rfl
  · obtain ⟨a, c, rfl, ⟨dx, pa, ra, ka, fs, hc⟩, ok, q⟩ := h
    refine ⟨_, (pss_cons (ps_set (i := 1) sc_line_of_candidate.nd rfl (Or.inl rfl) (pe_joinN pe_str (pe_lc (own := [("kind", 2), ("names", 3)]) (g := gTup K 2 (gCons (gName 2) (gCons (gName 3) gNil))) (by rfl) sc_line_of_candidate.nd (pi_tup (pe_fld (pv 0) rfl)) (blkOk_by (own := [("kind", 2), ("names", 3)]) (N := ["candidate", "patterns", "kind", "names", "at", "end", "one"]) (sc := defScope s_line_of_candidate) (by decide +kernel)) (fun _ _ _ _ _ => (pg_tup (n := 2) rfl (pgs_cons (pg_name (i := 2) sc_line_of_candidate.nd rfl (Or.inl rfl)) (pgs_cons (pg_name (i := 3) sc_line_of_candidate.nd rfl (Or.inl rfl)) pgs_nil)))) (fun _ _ _ _ _ => pts_nil) (fun _ _ _ _ _ => (pe_call (ok_text_of_side T) (hr.mono (by decide)) (by rfl) T.g_text_of_side T.F_text_of_side.kp T.b_text_of_side .nil pass0 (pa_cons (pe_cmpR op_eq (pv 2) pe_str (nomark _)) (pa_cons (pv 3) pa_nil)))))))
      (pss_cons (ps_asg (pe_fld (pv 0) rfl) (pg_star (i := 2) rfl (pgs_cons (pg_name (i := 2) sc_line_of_candidate.nd rfl (Or.inl rfl)) (pgs_cons (pg_name (i := 3) sc_line_of_candidate.nd rfl (Or.inl rfl)) (pgs_cons (pg_name (i := 4) sc_line_of_candidate.nd rfl (Or.inl rfl)) pgs_nil)))))
      (pss_cons (ps_set (i := 5) sc_line_of_candidate.nd rfl (Or.inl rfl) (pe_op op_add_str (pe_call (ok_text_of_side T) (hr.mono (by decide)) (by rfl) T.g_text_of_side T.F_text_of_side.kp T.b_text_of_side .nil pass0 (pa_cons (pe_cmpR op_eq (pv 2) pe_str (nomark _)) (pa_cons (pv 3) pa_nil))) (pe_joinN pe_str (pe_lc (own := [("one", 6)]) (g := gName 6) (by rfl) sc_line_of_candidate.nd (pi_list (pv 4)) (blkOk_by (own := [("one", 6)]) (N := ["candidate", "patterns", "kind", "names", "at", "end", "one"]) (sc := defScope s_line_of_candidate) (by decide +kernel)) (fun _ _ _ _ _ => (pg_name (i := 6) sc_line_of_candidate.nd rfl (Or.inl rfl))) (fun _ _ _ _ _ => pts_nil) (fun _ _ _ _ _ => (pe_callTy call_str_int (by rfl) T.n_str (by decide +kernel) (pa_cons (pv 6) pa_nil)))))))
      (pss_one (ps_ret (pe_joined (.cons (pe_fmt (pe_fld (pv 0) rfl)) (.cons pe_str (.cons (pe_fmt (pv 1)) (.cons pe_str (.cons (pe_fmt (pv 5)) .nil))))))))))), ?_⟩
    walk_at "rd"
    walk_at "rdx"
    have hps := hc.ps
    obtain ⟨xs, hx, lx, fx⟩ := hps
    have lo := ok.lo
    have hi := ok.hi
    refine ⟨⟨_, rfl⟩, _, _, _, hc.at_, T.cl_Candidate, T.no_Candidate_own_patterns, _, hc.f2, pa, rfl, ⟨_, sqt_of hx⟩, ?_⟩
    refine lc_same walk_tup (fun i => V.str ((fun p : Bool × List Str => sideT p.1 p.2) (c.ps.getD i (false, [])))) (sz100 (by omega)) (fun H' s' => sqt_of (s' _ _ hx)) ?_ mono_pair mono_yes ?_
    · rintro i x H1 H2 hi' hS ⟨rfl, hx'⟩ R hR
      rw [lx] at hi'
      have ep : c.ps[i]? = some c.ps[i] := List.getElem?_eq_getElem hi'
      obtain ⟨b, e1, b2, e2, e3⟩ := fx i _ ep
      rw [hx'] at e1
      cases e1
      walk_at "rdx"
      have hp := ptOk_sz (ok.pt _ (List.getElem_mem hi'))
      have hz := sz_nm hp.1
      refine ⟨_, sqt_of (hS _ _ e2), rfl, _, _, rfl, _, _, rfl, rfl, by cases c.ps[i].1 <;> rfl, _, b2, c.ps[i].2, rfl, hS _ _ e3, by omega, fun H3 s3 => ?_⟩
      have e4 : decide (V.str (if c.ps[i].1 = true then wOpen else wClosed) = V.str (Str.ofString "open")) = c.ps[i].1 := by cases c.ps[i].1 <;> rfl
      rw [e4]
      have e5 := hR H3 s3
      simp only [List.getD, ep, Option.getD_some] at e5
      exact e5
    · intro H1 D s1 hD fD
      rw [lx, range_mapD (false, []) (fun p : Bool × List Str => V.str (sideT p.1 p.2)) c.ps] at fD
      have e1 : (c.ps.map fun p : Bool × List Str => V.str (sideT p.1 p.2)) = (c.ps.map fun p : Bool × List Str => sideT p.1 p.2).map V.str := by rw [List.map_map]; rfl
      rw [e1] at fD
      have hc1 := hc.same s1
      have hr1 := hc1.rs
      obtain ⟨b, h1, h2⟩ := hr1
      have la : c.rs.2.toList.length ≤ 1 := by cases c.rs.2 <;> simp
      obtain ⟨pz1, pz2⟩ := patsT_le ok
      obtain ⟨ez1, ez2⟩ := endT_le ok
      refine ⟨_, D, _, rfl, rfl, .inl (sql_of fD), ?_, _, _, _, hc1.at_, T.cl_Candidate, T.no_Candidate_own_result, _, hc1.f3, ra, rfl, _, sqt_of h2, ?_, ?_, fun p hp => ?_⟩
      · rw [List.length_map]
        show _ + c.ps.length * 2 ≤ _
        omega
      · simp
      · simp
        omega
      · have e3 : List.drop 2 (V.str (if c.rs.2.isSome then wTail else wClosed) :: V.ref b :: (c.rs.2.toList.map fun n : Nat => V.int n)) = c.rs.2.toList.map fun n : Nat => V.int n := rfl
        rw [e3]
        have s2 := same_new (o := .lst (c.rs.2.toList.map fun n : Nat => V.int n)) hp
        have f2 : upd H1 p (.lst (c.rs.2.toList.map fun n : Nat => V.int n)) p = some (.lst (c.rs.2.toList.map fun n : Nat => V.int n)) := upd_same
        generalize upd H1 p (.lst (c.rs.2.toList.map fun n : Nat => V.int n)) = H2 at *
        have sz := rsOk_sz ok.rs
        have hz := sz_nm sz.1
        refine ⟨_, _, rfl, _, _, rfl, _, _, rfl, rfl, by cases c.rs.2 <;> rfl, _, b, c.rs.1, rfl, s2 _ _ h1, by omega, fun H3 s3 => ⟨⟨_, rfl⟩, p, rfl, ⟨_, sql_of (s3 _ _ f2)⟩, ?_⟩⟩
        have e4 : decide (V.str (if c.rs.2.isSome = true then wTail else wClosed) = V.str (Str.ofString "tail")) = c.rs.2.isSome := by cases c.rs.2 <;> rfl
        rw [e4]
        refine lc_same (walk_list (xs := c.rs.2.toList.map fun n : Nat => V.int n)) (fun i => V.str (numT (c.rs.2.toList.getD i 0))) (sz100 (by rw [List.length_map]; omega)) (fun H' s' => sql_of (s' _ _ (s3 _ _ f2))) ?_ mono_name mono_yes ?_
        · rintro i x H4 H5 hi' hS ⟨rfl, hx'⟩ R hR
          walk_at "rd"
          rw [List.length_map] at hi'
          rw [List.getElem?_map, List.getElem?_eq_getElem hi'] at hx'
          cases hx'
          have hn : c.rs.2.toList[i] < 3 := by
            have := List.getElem_mem hi'
            rw [Option.mem_toList] at this
            have h3 := sz.2.2 _ this
            omega
          refine ⟨_, rfl, ?_, ?_⟩
          · show (c.rs.2.toList[i]).log2 < 1920
            have := Nat.log2_le_self c.rs.2.toList[i]
            omega
          · have e5 := hR _ (Same.refl _)
            simp only [List.getD, List.getElem?_eq_getElem hi', Option.getD_some] at e5
            exact e5
        · intro H4 D2 s4 hD2 fD2
          rw [List.length_map, range_mapD 0 (fun n => V.str (numT n)) c.rs.2.toList] at fD2
          have e5 : (c.rs.2.toList.map fun n => V.str (numT n)) = (c.rs.2.toList.map numT).map V.str := by rw [List.map_map]; rfl
          rw [e5] at fD2
          have st := ((s1.trans s2).trans s3).trans s4
          have hc4 := hc.same st
          have nl := isNm_len ok.nm
          refine ⟨_, D2, _, rfl, rfl, .inl (sql_of fD2), ?_, _, rfl, _, rfl, sz100 (by show (sideT c.rs.2.isSome c.rs.1).length + (Txt.join none' (c.rs.2.toList.map numT)).length ≤ _; omega), ?_⟩
          · show _ + (c.rs.2.toList.map numT).length * 0 ≤ _
            have h6 : ((c.rs.2.toList.map numT).map (·.length)).sum ≤ c.rs.2.toList.length * 1 := by
              rw [List.map_map]
              refine sum_le_of fun n hn => ?_
              rw [Option.mem_toList] at hn
              have := sz.2.2 _ hn
              exact Nat.le_of_eq (numT_len (by omega))
            omega
          · have z1 : (Str.empty ++ c.nm).length ≤ 8 := by rw [len_app, show Str.empty.length = 0 from rfl]; omega
            have z2 : (Str.empty ++ c.nm ++ Str.ofString "(").length ≤ 9 := by rw [len_app, show (Str.ofString "(").length = 1 from rfl]; omega
            have z3 : (Str.empty ++ c.nm ++ Str.ofString "(" ++ patsT c.ps).length ≤ 170 := by rw [len_app]; omega
            have z4 : (Str.empty ++ c.nm ++ Str.ofString "(" ++ patsT c.ps ++ Str.ofString ") gives ").length ≤ 178 := by rw [len_app, show (Str.ofString ") gives ").length = 8 from rfl]; omega
            have z5 : (endT c.rs).length ≤ 51 := by unfold endT; rw [len_app]; omega
            have z6 : (lineT c).length ≤ 300 := by unfold lineT; rw [len_app]; omega
            exact ⟨_, _, _, hc4.at_, T.cl_Candidate, T.no_Candidate_own_name, _, hc4.f1, .inl ⟨_, rfl, sz100 (by omega), sz100 (by omega), sz100 (by omega), .inl ⟨_, rfl, sz100 (Nat.le_trans pz2 (by decide)), sz100 (Nat.le_trans z3 (by decide)), sz100 (Nat.le_trans z4 (by decide)),
              .inl ⟨sz100 (Nat.le_trans z5 (by decide)), sz100 (Nat.le_trans z6 (by decide)), q _ st⟩⟩⟩⟩
end

local macro_rules | `(tactic| walk_at "rdx") => `(tactic| ((try simp only [tFld, gTup, gStar, tJs, tFmt, sFld]); try walk_at "rd"))
section
variable {w : World} {K : PySem.W.Frag} {mg : Str → Option Value} {base : Heap}
/-! ### as data -/
def ptD (p : Bool × List Str) : PyData := .tuple [.str (if p.1 then wOpen else wClosed), dS p.2]
def rsD (r : List Str × Option Nat) : PyData := .tuple (.str (if r.2.isSome then wTail else wClosed) :: dS r.1 :: r.2.toList.map fun n : Nat => .int n)
def cdD (c : Cd) : PyData := .tuple [.str c.nm, .tuple (c.ps.map ptD), rsD c.rs]
theorem pl_word : Pl wOpen ∧ Pl wClosed ∧ Pl wTail := by
  refine ⟨?_, ?_, ?_⟩ <;> (intro c hc; revert c; decide)
theorem eqv_pt (p q : Bool × List Str) : PyData.eqv (ptD p) (ptD q) = decide (p = q) := by
  obtain ⟨a, xs⟩ := p
  obtain ⟨b, ys⟩ := q
  have n1 : ¬ wOpen = wClosed := by decide
  have n2 : ¬ wClosed = wOpen := by decide
  simp only [ptD, PyData.eqv, PyData.eqvAll, eqvS, dS]
  cases a <;> cases b <;> simp [n1, n2]
theorem eqv_rs (p q : List Str × Option Nat) : PyData.eqv (rsD p) (rsD q) = decide (p = q) := by
  obtain ⟨xs, a⟩ := p
  obtain ⟨ys, b⟩ := q
  have n1 : ¬ wTail = wClosed := by decide
  have n2 : ¬ wClosed = wTail := by decide
  simp only [rsD, PyData.eqv, PyData.eqvAll, eqvS, dS]
  cases a <;> cases b <;> simp [n1, n2, PyData.eqvAll, PyData.eqv]
  rename_i i j
  congr 1
  by_cases h : i = j
  · subst h
    simp
  · rw [decide_eq_false h, beq_eq_false_iff_ne]
    omega
theorem eqv_cd (c d : Cd) : PyData.eqv (cdD c) (cdD d) = decide (c = d) := by
  obtain ⟨n, ps, r⟩ := c
  obtain ⟨n', ps', r'⟩ := d
  simp only [cdD, PyData.eqv, PyData.eqvAll, eqv_map eqv_pt, eqv_rs]
  by_cases h1 : n = n' <;> by_cases h2 : ps = ps' <;> by_cases h3 : r = r' <;> simp [h1, h2, h3]
theorem gd_pt {p : Bool × List Str} (h : ptOk p = true) : Gd (ptD p) 2 853 := by
  obtain ⟨h1, h2⟩ := ptOk_sz h
  refine (Gd.tuple (k := 1) (n := 423) fun d hd => ?_).mono (Nat.le_refl _) (by simp)
  simp only [List.mem_cons, List.not_mem_nil, or_false] at hd
  rcases hd with rfl | rfl
  · refine Gd.mono (Gd.str ?_) (by decide) ?_
    · split
      · exact pl_word.1
      · exact pl_word.2.1
    · split <;> decide
  · exact Gd.names h1 h2
theorem gd_rs {ps : List (Bool × List Str)} {r : List Str × Option Nat} (h : rsOk ps r = true) (hp : ps.length ≤ 3) : Gd (rsD r) 2 1278 := by
  obtain ⟨h1, h2, h3⟩ := rsOk_sz h
  refine (Gd.tuple (k := 1) (n := 423) fun d hd => ?_).mono (Nat.le_refl _) ?_
  · rcases List.mem_cons.mp hd with rfl | hd
    · refine Gd.mono (Gd.str ?_) (by decide) ?_
      · split
        · exact pl_word.2.2
        · exact pl_word.2.1
      · split <;> decide
    · rcases List.mem_cons.mp hd with rfl | hd
      · exact Gd.names h1 h2
      · obtain ⟨n, hn, rfl⟩ := List.mem_map.mp hd
        rw [Option.mem_toList] at hn
        have hn := h3 n hn
        refine (Gd.int (n := 423) ?_ ?_).mono (by decide) (Nat.le_refl _)
        · show n.log2 < 1920
          have := Nat.log2_le_self n
          omega
        · have := numT_len (n := n) (by omega)
          unfold numT at this
          omega
  · have : r.2.toList.length ≤ 1 := by cases r.2 <;> simp
    simp
    omega
theorem gd_cd {c : Cd} (ok : CdOk c) : Gd (cdD c) 4 7713 := by
  have hi := ok.hi
  have nl := isNm_len ok.nm
  refine (Gd.tuple (k := 3) (n := 2568) fun d hd => ?_).mono (Nat.le_refl _) (by simp)
  simp only [List.mem_cons, List.not_mem_nil, or_false] at hd
  rcases hd with rfl | rfl | rfl
  · exact (Gd.str (pl_of ok.nm)).mono (by decide) (by omega)
  · refine (Gd.tuple (k := 2) (n := 853) fun d hd => ?_).mono (Nat.le_refl _) ?_
    · obtain ⟨p, hp, rfl⟩ := List.mem_map.mp hd
      exact gd_pt (ok.pt p hp)
    · rw [List.length_map]
      omega
  · exact (gd_rs ok.rs ok.hi).mono (by decide) (by decide)
theorem dp_pt {H : Hp} {a : Addr} {p : Bool × List Str} (h : ptA H a p.1 p.2) : Dp K H (.ref a) (ptD p) := by
  obtain ⟨b, h1, h2⟩ := h
  exact .tup (sqt_of h1) (.cons (.str _) (.cons (.tup (sqt_of h2) (dpS _)) .nil))
theorem dp_pts {H : Hp} {a : Addr} {ps : List (Bool × List Str)} (h : ptsA H a ps) : Dp K H (.ref a) (.tuple (ps.map ptD)) := by
  obtain ⟨xs, h1, h2, h3⟩ := h
  exact .tup (sqt_of h1) (dp_map h2 fun i p e => let ⟨b, e1, e2⟩ := h3 i p e; ⟨_, e1, dp_pt e2⟩)
theorem dp_rs {H : Hp} {a : Addr} {r : List Str × Option Nat} (h : rsA H a r.1 r.2) : Dp K H (.ref a) (rsD r) := by
  obtain ⟨b, h1, h2⟩ := h
  refine .tup (sqt_of h2) (.cons (.str _) (.cons (.tup (sqt_of h1) (dpS _)) ?_))
  cases r.2 with
  | none => exact .nil
  | some n => exact .cons (.int _) .nil
/-- a tuple of the parts of a candidate -/
def cdT (H : Hp) (a : Addr) (c : Cd) : Prop := ∃ pa ra, H a = some (.tup [.str c.nm, .ref pa, .ref ra]) ∧ ptsA H pa c.ps ∧ rsA H ra c.rs.1 c.rs.2
theorem cdT.same {H H' : Hp} {a : Addr} {c : Cd} (h : cdT H a c) (s : Same H H') : cdT H' a c := let ⟨pa, ra, h1, h2, h3⟩ := h; ⟨pa, ra, s _ _ h1, h2.same s, h3.same s⟩
theorem dp_cd {H : Hp} {a : Addr} {c : Cd} (h : cdT H a c) : Dp K H (.ref a) (cdD c) := by
  obtain ⟨pa, ra, h1, h2, h3⟩ := h
  exact .tup (sqt_of h1) (.cons (.str _) (.cons (dp_pts h2) (.cons (dp_rs h3) .nil)))
end

local macro_rules | `(tactic| walk_at "rdx") => `(tactic| ((try simp only [tFld, gTup, gStar, tJs, tFmt, sFld]); try walk_at "rd"))
section
variable {w : World} {K : PySem.W.Frag} {mg : Str → Option Value} {base : Heap}
theorem Tx.tyC (T : Tx K mg) {H : Hp} {a dx : Addr} {fs : List (Str × V)} (h : H a = some (.ins T.C_Candidate dx fs)) : TyX K H (.ref a) (.ref T.C_Candidate) := .base (.ins h T.cl_Candidate T.ha_Candidate T.hn_Candidate T.ht_Candidate T.ob_Candidate)
theorem CdA.t {H : Hp} {C a dx pa ra ka : Addr} {c : Cd} {fs : List (Str × V)} (h : CdA H C a c dx pa ra ka fs) : cdT H ka c := ⟨pa, ra, h.ky, h.ps, h.rs⟩
/-- the object at x is made: its fields stand there, all else stays -/
def Made (H H' : Hp) (C x dx : Addr) (n p r : V) : Prop := ∃ ka fs, (∀ b o, b ≠ x → H b = some o → H' b = some o) ∧ H' x = some (.ins C dx fs) ∧ fs.lookup ("own_name" : Str) = some n ∧ fs.lookup ("own_patterns" : Str) = some p ∧ fs.lookup ("own_result" : Str) = some r ∧ fs.lookup ("own_key" : Str) = some (.ref ka) ∧ H' ka = some (.tup [n, p, r])
def spx_init (CW CL C : Addr) : Sp := fun vs H Q E => ∃ (x dx : Addr) (n p r : V) (t : String), vs = [.ref x, n, p, r] ∧ H x = some (.ins C dx []) ∧ Kn H n t ∧ (∀ z, n = .str z → z.length ≤ sizeLine) ∧
  (nameV n = false → ∀ H', Same H H' → E (.ref CW) none H') ∧ (nameV n = true → ∃ b, PatsIs H p b ∧ (b = false → ∀ H', Same H H' → E (.ref CL) none H') ∧
    (b = true → ∃ pa ks b', p = .ref pa ∧ Kds H pa ks ∧ ks.length ≤ 3 ∧ ResIs H ks r b' ∧ (b' = false → ∀ H', Same H H' → E (.ref CL) none H') ∧ (b' = true → ∀ H', Made H H' C x dx n p r → Q .non H')))
theorem ResIs.same {H H' : Hp} {ks : List Bool} {v : V} {b : Bool} (r : ResIs H ks v b) (s : Same H H') : ResIs H' ks v b := by
  cases r with
  | oth k n => exact .oth (k.same s) n
  | emp h => exact .emp (s _ _ h)
  | nostr h k n => exact .nostr (s _ _ h) (k.same s) n
  | odd h n1 n2 => exact .odd (s _ _ h) n1 n2
  | closed h t => exact .closed (s _ _ h) (Told.same t s)
  | tail h t k => exact .tail (s _ _ h) (Told.same t s) (k.same s)
theorem PatsIs.same {H H' : Hp} {v : V} {b : Bool} (r : PatsIs H v b) (s : Same H H') : PatsIs H' v b := by
  cases r with
  | oth k n => exact .oth (k.same s) n
  | len h n => exact .len (s _ _ h) n
  | tup h lo hi ps => exact .tup (s _ _ h) lo hi fun i x e => (ps i x e).same s
theorem ok_Candidate___init__ (T : Tx K mg) : FnOk P w K mg base (L2.CX P w) 5 T.f_Candidate___init__ T.d_Candidate___init__ ["self", "name", "patterns", "result"] (spx_init T.C_InvalidWord T.C_InvalidLibrary T.C_Candidate) := by
  refine T.F_Candidate___init__.okX sc_Candidate___init__ (fun vs H Q E h => ?_) (fun cdv A outer s H vs Q E hr h => ?_)
  · obtain ⟨x, dx, n, p, r, t, rfl, _⟩ := h
    rfl
  · obtain ⟨x, dx, n, p, r, t, rfl, hx, kn, kz, q0, q1⟩ := h
    refine ⟨_, (pss_cons (ps_if (pt_not (pt_val (pe_call (ok_is_name T) (hr.mono (by decide)) (by rfl) T.g_is_name T.F_is_name.kp T.b_is_name .nil pass0 (pa_cons (pv 1) pa_nil)))) (pss_one (ps_raise rfl (takes_of rfl rfl rfl rfl) (pmk_own PySem.F.excBase_ValueError T.x_InvalidWord.ex T.x_InvalidWord.g T.x_InvalidWord.kp (raises_own T.x_InvalidWord.sb T.x_InvalidWord.ty) (by rfl)))) pss_nil)
      (pss_cons (ps_if (pt_not (pt_val (pe_call (ok_are_patterns T) (hr.mono (by decide)) (by rfl) T.g_are_patterns T.F_are_patterns.kp T.b_are_patterns .nil pass0 (pa_cons (pv 2) pa_nil)))) (pss_one (ps_raise rfl (takes_of rfl rfl rfl rfl) (pmk_own PySem.F.excBase_ValueError T.x_InvalidLibrary.ex T.x_InvalidLibrary.g T.x_InvalidLibrary.kp (raises_own T.x_InvalidLibrary.sb T.x_InvalidLibrary.ty) (by rfl)))) pss_nil)
      (pss_cons (ps_if (pt_not (pt_val (pe_call (ok_is_result T) (hr.mono (by decide)) (by rfl) T.g_is_result T.F_is_result.kp T.b_is_result .nil pass0 (pa_cons (pv 3) (pa_cons (pv 2) pa_nil))))) (pss_one (ps_raise rfl (takes_of rfl rfl rfl rfl) (pmk_own PySem.F.excBase_ValueError T.x_InvalidLibrary.ex T.x_InvalidLibrary.g T.x_InvalidLibrary.kp (raises_own T.x_InvalidLibrary.sb T.x_InvalidLibrary.ty) (by rfl)))) pss_nil)
      (pss_cons (ps_fld (pv 0) (pv 1) rfl)
      (pss_cons (ps_fld (pv 0) (pv 2) rfl)
      (pss_cons (ps_fld (pv 0) (pv 3) rfl)
      (pss_one (ps_fld (pv 0) (pe_tup (pa_cons (pv 1) (pa_cons (pv 2) (pa_cons (pv 3) pa_nil)))) rfl)))))))), ?_⟩
    walk_at "rd"
    refine isname kn kz fun H1 s1 => ?_
    walk_at "rd"
    refine ite2 (fun h => q0 (by revert h; cases nameV n <;> simp) _ s1) (fun h => ?_)
    obtain ⟨b, pi, q2, q3⟩ := q1 (by simpa using h)
    refine ⟨p, b, rfl, pi.same s1, fun H2 s2 => ?_⟩
    walk_at "rd"
    refine ite2 (fun h => q2 (by revert h; cases b <;> simp) _ (s1.trans s2)) (fun h => ?_)
    obtain ⟨pa, ks, b', rfl, kd, kl, ri, q4, q5⟩ := q3 (by simpa using h)
    have s12 := s1.trans s2
    refine ⟨r, pa, ks, b', rfl, kd.same s12, kl, ri.same s12, fun H3 s3 => ?_⟩
    walk_at "rd"
    have s13 := s12.trans s3
    refine ite2 (fun h => q4 (by revert h; cases b' <;> simp) _ s13) (fun h => ?_)
    have q6 := q5 (by simpa using h)
    walk_at "rdx"
    refine ⟨_, _, _, s13 _ _ hx, T.cl_Candidate, T.no_Candidate_own_name, by decide, ?_⟩
    walk_at "rdx"
    refine ⟨_, _, _, upd_same, T.cl_Candidate, T.no_Candidate_own_patterns, (show 1 < 1000 by decide), ?_⟩
    rw [upd_upd]
    walk_at "rdx"
    refine ⟨_, _, _, upd_same, T.cl_Candidate, T.no_Candidate_own_result, (show 2 < 1000 by decide), ?_⟩
    rw [upd_upd]
    walk_at "rdx"
    refine ⟨by decide, fun ka hka => ?_⟩
    have nk : x ≠ ka := fun e => by
      rw [← e, upd_same] at hka
      cases hka
    refine ⟨_, _, _, (upd_ne nk).trans upd_same, T.cl_Candidate, T.no_Candidate_own_key, (show 3 < 1000 by decide), q6 _ ⟨ka, _, fun b o hb e => ?_, upd_same, rfl, rfl, rfl, rfl, ?_⟩⟩
    · rw [upd_ne hb]
      refine same_new hka _ _ ?_
      rw [upd_ne hb]
      exact s13 _ _ e
    · rw [upd_ne (Ne.symm nk)]
      exact upd_same
/-! ### a candidate is made -/
theorem told_st {H : Hp} {b : Addr} {ws : List Str} (h : H b = some (.tup (ws.map V.str))) (n : ∀ w ∈ ws, w.length ≤ 100000) : Told H (.ref b) (ws.map V.str) true := by
  refine .tup h (fun x hx => ?_) (fun y hy => ?_)
  · obtain ⟨z, _, rfl⟩ := List.mem_map.mp hx
    exact ⟨_, .str z⟩
  · obtain ⟨z, hz, e⟩ := List.mem_map.mp hy
    cases e
    exact sz100 (n _ hz)
theorem nm_sz {ws : List Str} (n : ∀ w ∈ ws, isNm w = true) : ∀ w ∈ ws, w.length ≤ 100000 := fun w h => by have := isNm_len (n w h); omega
theorem ptA.is {H : Hp} {a : Addr} {p : Bool × List Str} (h : ptA H a p.1 p.2) (n : ∀ w ∈ p.2, w.length ≤ 100000) : PatIs H (.ref a) (ptOk p) := by
  obtain ⟨b, h1, h2⟩ := h
  obtain ⟨o, ws⟩ := p
  cases o with
  | true => exact .open_ h1 (told_st h2 n)
  | false => exact .closed h1 (told_st h2 n)
theorem ptsA.is {H : Hp} {a : Addr} {ps : List (Bool × List Str)} (h : ptsA H a ps) (lo : 1 ≤ ps.length) (hi : ps.length ≤ 3) (n : ∀ p ∈ ps, ∀ w ∈ p.2, w.length ≤ 100000) : PatsIs H (.ref a) ((List.range ps.length).all fun i => ptOk (ps.getD i (false, []))) := by
  obtain ⟨xs, h1, h2, h3⟩ := h
  rw [← h2]
  refine .tup h1 (by omega) (by omega) fun i x hx => ?_
  have hi' : i < ps.length := by
    rw [← h2]
    exact (List.getElem?_eq_some_iff.mp hx).1
  have e : ps[i]? = some ps[i] := List.getElem?_eq_getElem hi'
  obtain ⟨b, e1, e2⟩ := h3 i _ e
  rw [hx] at e1
  cases e1
  have := e2.is (n _ (List.getElem_mem hi'))
  simp only [List.getD, e, Option.getD_some]
  exact this
theorem all_range {α : Type} (d : α) (f : α → Bool) (l : List α) : ((List.range l.length).all fun i => f (l.getD i d)) = l.all f := by
  have h := range_mapD d f l
  have h2 : ((List.range l.length).map fun i => f (l.getD i d)).all id = (l.map f).all id := by rw [h]
  rw [List.all_map, List.all_map] at h2
  exact h2
theorem ptsA.ok {H : Hp} {a : Addr} {c : Cd} (h : ptsA H a c.ps) (ok : CdOk c) : PatsIs H (.ref a) true := by
  have h1 := h.is ok.lo ok.hi fun p hp => nm_sz (ptOk_sz (ok.pt p hp)).1
  rw [all_range, List.all_eq_true.mpr ok.pt] at h1
  exact h1
theorem ptsA.kds {H : Hp} {a : Addr} {ps : List (Bool × List Str)} (h : ptsA H a ps) : Kds H a (ps.map (·.1)) := by
  obtain ⟨xs, h1, h2, h3⟩ := h
  refine ⟨xs, h1, by rw [h2, List.length_map], fun i k e => ?_⟩
  rw [List.getElem?_map] at e
  cases ep : ps[i]? with
  | none =>
    rw [ep] at e
    cases e
  | some p =>
    rw [ep] at e
    cases e
    obtain ⟨b, e1, b2, e2, _⟩ := h3 i p ep
    exact ⟨b, _, e1, e2⟩
theorem int_small {m : Nat} (h : m < 3) : intV (.int m) = true := by
  match m, h with
  | 0, _ => decide +kernel
  | 1, _ => decide +kernel
  | 2, _ => decide +kernel
theorem rsA.is {H : Hp} {a : Addr} {ps : List (Bool × List Str)} {r : List Str × Option Nat} (h : rsA H a r.1 r.2) (n : ∀ w ∈ r.1, w.length ≤ 100000) (hp : ps.length ≤ 3) : ResIs H (ps.map (·.1)) (.ref a) (rsOk ps r) := by
  obtain ⟨b, h1, h2⟩ := h
  obtain ⟨ws, t⟩ := r
  cases t with
  | none => exact .closed h2 (told_st h1 n)
  | some m =>
    have h3 : ResIs H (ps.map (·.1)) (.ref a) (true && namesV (ws.map V.str) 0 3 && (inV3 (.int m) 0 (((ps.map (·.1)).length : Int) - 1) && atK (ps.map (·.1)) (.int m))) := .tail h2 (told_st h1 n) (.int _)
    have e : (true && namesV (ws.map V.str) 0 3 && (inV3 (.int m) 0 (((ps.map (·.1)).length : Int) - 1) && atK (ps.map (·.1)) (.int m))) = rsOk ps (ws, some m) := by
      unfold rsOk
      show _ = (namesV (ws.map V.str) 0 3 && (ps.map (·.1)).getD m false)
      rw [Bool.true_and]
      refine congrArg (fun z => namesV (ws.map V.str) 0 3 && z) ?_
      show (inV3 (.int m) 0 (((ps.map (·.1)).length : Int) - 1) && (ps.map (·.1)).getD m false) = _
      by_cases hm : m < ps.length
      · have : inV3 (.int m) 0 (((ps.map (·.1)).length : Int) - 1) = true := by
          show (intV (.int m) && (decide ((0 : Int) ≤ m) && decide ((m : Int) ≤ ((ps.map (·.1)).length : Int) - 1))) = true
          rw [List.length_map, decide_eq_true (by omega), decide_eq_true (by omega), Bool.and_true, Bool.and_true]
          exact int_small (by omega)
        rw [this, Bool.true_and]
      · rw [List.getD, List.getElem?_eq_none (by rw [List.length_map]; omega)]
        simp
    rw [e] at h3
    exact h3
/-- Candidate(..) with parts that are fine -/
theorem make_ok {CW CL C : Addr} {H : Hp} {c : Cd} {pa ra : Addr} {R : Addr → Hp → Prop} {E : XK} (hp : ptsA H pa c.ps) (hr : rsA H ra c.rs.1 c.rs.2) (ok : CdOk c) (q : ∀ x H', Same H H' → Cnd H' C x c → R x H') :
    ∀ x dx, H x = none → H dx = none → dx ≠ x → spx_init CW CL C [.ref x, .str c.nm, .ref pa, .ref ra] (upd (upd H dx (.own x)) x (.ins C dx [])) (fun v H2 => v = .non ∧ R x H2) E := by
  intro x dx hx hdx ne
  have s1 : Same H (upd (upd H dx (.own x)) x (.ins C dx [])) := by
    intro b o e
    rw [upd_ne (ne_of_none e hx), upd_ne (ne_of_none e hdx)]
    exact e
  have nl := isNm_len ok.nm
  refine ⟨x, dx, .str c.nm, .ref pa, .ref ra, _, rfl, upd_same, .str _, fun z e => by cases e; exact sz100 (by omega), fun h => ?_, fun _ => ⟨true, (hp.ok ok).same s1, (fun h => nomatch h), fun _ => ⟨pa, _, _, rfl, hp.kds.same s1, by rw [List.length_map]; exact ok.hi, (rsA.is hr (nm_sz (rsOk_sz ok.rs).1) ok.hi).same s1, fun h => ?_, fun _ H' m => ⟨rfl, ?_⟩⟩⟩⟩
  · have : nameV (.str c.nm) = true := ok.nm
    rw [this] at h
    cases h
  · rw [ok.rs] at h
    cases h
  · obtain ⟨ka, fs, k, e1, e2, e3, e4, e5, e6⟩ := m
    have s2 : Same H H' := fun b o e => k b o (ne_of_none e hx) (s1 _ _ e)
    exact q x H' s2 ⟨dx, pa, ra, ka, fs, e1, e2, e3, e4, e5, hp.same s2, hr.same s2, e6⟩
end

local macro_rules | `(tactic| walk_at "rdx") => `(tactic| ((try simp only [tFld, gTup, gStar, tJs, tFmt, sFld, tMake]); try walk_at "rd"))
section
variable {w : World} {K : PySem.W.Frag} {mg : Str → Option Value} {base : Heap}
abbrev brack : Str := Str.ofString "("
abbrev gives : Str := Str.ofString ") gives "
/-- what a line would be -/
def readC (z : Str) : Cd := ⟨(Txt.partition z brack).1, (Txt.split (Txt.partition (Txt.partition z brack).2.2 gives).1 comma).map patC, resC (Txt.partition (Txt.partition z brack).2.2 gives).2.2⟩
def cdOk (c : Cd) : Bool := isNm c.nm && (decide (1 ≤ c.ps.length ∧ c.ps.length ≤ 3) && c.ps.all ptOk) && rsOk c.ps c.rs
theorem cdOk_iff {c : Cd} : cdOk c = true ↔ CdOk c := by
  unfold cdOk
  simp only [Bool.and_eq_true, decide_eq_true_eq, List.all_eq_true]
  exact ⟨fun h => ⟨h.1.1, h.1.2.1.1, h.1.2.1.2, h.1.2.2, h.2⟩, fun h => ⟨⟨h.nm, ⟨h.lo, h.hi⟩, h.pt⟩, h.rs⟩⟩
/-- the candidate with a line -/
def parseC (z : Str) : Option Cd := if cdOk (readC z) = true ∧ lineT (readC z) = z then some (readC z) else none
theorem readC_sz {z : Str} (pz : Pl z) (zl : z.length ≤ 9000) :
    (Txt.partition z brack).1.length ≤ 9000 ∧ (Txt.partition z brack).2.2.length ≤ 9000 ∧
    (Pl (Txt.partition (Txt.partition z brack).2.2 gives).1 ∧ (Txt.partition (Txt.partition z brack).2.2 gives).1.length ≤ 9000) ∧
    (Pl (Txt.partition (Txt.partition z brack).2.2 gives).2.2 ∧ (Txt.partition (Txt.partition z brack).2.2 gives).2.2.length ≤ 9000) := by
  have h1 := part3 (z := z) (y := brack) (by decide)
  have h2 := part3 (z := (Txt.partition z brack).2.2) (y := gives) (by decide)
  exact ⟨by omega, by omega, ⟨fun c hc => pz c (h1.2.1 c (h2.1.1 c hc)), by omega⟩, fun c hc => pz c (h1.2.1 c (h2.2.1 c hc)), by omega⟩
theorem sideC_sub {ws : List Str} : ∀ w ∈ (sideC ws).2, w ∈ ws := by
  intro w h
  unfold sideC at h
  split at h
  · exact (List.dropLast_sublist _).subset h
  · exact h
theorem resC_sub {z : Str} : ∀ w ∈ (resC z).1, w ∈ Txt.split z blank := by
  intro w h
  unfold resC at h
  split at h
  · exact (List.dropLast_sublist _).subset h
  · exact h
theorem readC_len {z : Str} (pz : Pl z) (zl : z.length ≤ 9000) : (∀ p ∈ (readC z).ps, ∀ w ∈ p.2, w.length ≤ 100000) ∧ ∀ w ∈ (readC z).rs.1, w.length ≤ 100000 := by
  obtain ⟨h1, h2, h3, h4⟩ := readC_sz pz zl
  refine ⟨fun p hp w hw => ?_, fun w hw => ?_⟩
  · obtain ⟨t, ht, rfl⟩ := List.mem_map.mp hp
    have l1 := part_len ht
    have l2 := part_len (sideC_sub w hw)
    omega
  · have l2 := part_len (resC_sub w hw)
    omega
def sp_candidate_of (K : PySem.W.Frag) (C : Addr) : Sp := fun vs H Q _ => ∃ v, vs = [v] ∧ ((∃ t, TyX K H v t ∧ PySem.W.kitOne K t (.type "str") = some false ∧ Q .non H) ∨
  ∃ z, v = .str z ∧ Pl z ∧ z.length ≤ 9000 ∧ (parseC z = none → ∀ H', Same H H' → Q .non H') ∧ ∀ c, parseC z = some c → ∀ x H', Same H H' → Cnd H' C x c → Q (.ref x) H')
theorem ok_candidate_of (T : Tx K mg) : FnOk P w K mg base CX0 7 T.f_candidate_of T.d_candidate_of ["line"] (sp_candidate_of K T.C_Candidate) := by
  refine T.F_candidate_of.ok sc_candidate_of (fun vs H Q E h => ?_) (fun cdv A outer s H vs Q E hr h => ?_)
  · obtain ⟨v, rfl, _⟩ := h
    rfl
  · obtain ⟨v, rfl, h⟩ := h
    refine ⟨_, (pss_cons (ps_if (pt_not (pt_val (pe_callB call_isi (by rfl) T.n_isinstance (by decide +kernel) (pa_cons (pv 0) (pa_cons (pe_bltn (v := .ty "str") (by rfl) T.n_str (by decide +kernel) rfl) pa_nil))))) (pss_one (ps_ret pe_non)) pss_nil)
      (pss_cons (ps_asg (pe_partition (pv 0) pe_str) (pg_tup (n := 3) rfl (pgs_cons (pg_name (i := 1) sc_candidate_of.nd rfl (Or.inl rfl)) (pgs_cons (pg_name (i := 2) sc_candidate_of.nd rfl (Or.inl rfl)) (pgs_cons (pg_name (i := 3) sc_candidate_of.nd rfl (Or.inl rfl)) pgs_nil)))))
      (pss_cons (ps_asg (pe_partition (pv 3) pe_str) (pg_tup (n := 3) rfl (pgs_cons (pg_name (i := 4) sc_candidate_of.nd rfl (Or.inl rfl)) (pgs_cons (pg_name (i := 5) sc_candidate_of.nd rfl (Or.inl rfl)) (pgs_cons (pg_name (i := 6) sc_candidate_of.nd rfl (Or.inl rfl)) pgs_nil)))))
      (pss_cons (ps_par (i := 7) (j := 8) (by rfl) sc_candidate_of.nd rfl rfl (by decide) rfl rfl (pa_cons (pe_callTy call_tupL (by rfl) T.n_tuple (by decide +kernel) (pa_cons (pe_lc (own := [("text", 10)]) (g := gName 10) (by rfl) sc_candidate_of.nd (pi_list (pe_split (pv 4) pe_str)) (blkOk_by (own := [("text", 10)]) (N := ["line", "name", "bracket", "rest", "inner", "gives", "end", "patterns", "result", "found", "text"]) (sc := defScope s_candidate_of) (by decide +kernel)) (fun _ _ _ _ _ => (pg_name (i := 10) sc_candidate_of.nd rfl (Or.inl rfl))) (fun _ _ _ _ _ => pts_nil) (fun _ _ _ _ _ => (pe_call (ok_pattern_of T) (hr.mono (by decide)) (by rfl) T.g_pattern_of T.F_pattern_of.kp T.b_pattern_of .nil pass0 (pa_cons (pv 10) pa_nil)))) pa_nil)) (pa_cons (pe_call (ok_result_of_text T) (hr.mono (by decide)) (by rfl) T.g_result_of_text T.F_result_of_text.kp T.b_result_of_text .nil pass0 (pa_cons (pv 6) pa_nil)) pa_nil)) (by rfl))
      (pss_cons (ps_if (PW.pt (pw_or (pt_not (pt_val (pe_call (ok_is_name T) (hr.mono (by decide)) (by rfl) T.g_is_name T.F_is_name.kp T.b_is_name .nil pass0 (pa_cons (pv 1) pa_nil)))) (pw_or (pt_not (pt_val (pe_call (ok_are_patterns T) (hr.mono (by decide)) (by rfl) T.g_are_patterns T.F_are_patterns.kp T.b_are_patterns .nil pass0 (pa_cons (pv 7) pa_nil)))) (pw_or1 (pt_not (pt_val (pe_call (ok_is_result T) (hr.mono (by decide)) (by rfl) T.g_is_result T.F_is_result.kp T.b_is_result .nil pass0 (pa_cons (pv 8) (pa_cons (pv 7) pa_nil))))))))) (pss_one (ps_ret pe_non)) pss_nil)
      (pss_cons (ps_set (i := 9) sc_candidate_of.nd rfl (Or.inl rfl) (pe_make T.mk_Candidate (ok_Candidate___init__ T) (hr.mono (by decide)) (by rfl) T.m_Candidate T.b_Candidate___init__ .nil passL (pa_cons (pv 1) (pa_cons (pv 7) (pa_cons (pv 8) pa_nil)))))
      (pss_one (ps_ret (pe_ifExp (pt_cmpR op_eq (pe_call (ok_line_of_candidate T) (hr.mono (by decide)) (by rfl) T.g_line_of_candidate T.F_line_of_candidate.kp T.b_line_of_candidate .nil pass0 (pa_cons (pv 9) pa_nil)) (pv 0) (nomark _)) (pv 9) pe_non))))))))), ?_⟩
    walk_at "rd"
    rcases h with ⟨t, ty, kt, q⟩ | ⟨z, rfl, pz, zl, q0, q1⟩
    · refine ⟨_, _, _, _, false, rfl, .ty _, ty, kt, ?_⟩
      walk_at "rd"
      exact q
    · walk_at "isi"
      walk_at "rdx"
      obtain ⟨z1, z2, ⟨z3, z4⟩, z5, z6⟩ := readC_sz pz zl
      have e0 : readC z = ⟨(Txt.partition z brack).1, (Txt.split (Txt.partition (Txt.partition z brack).2.2 gives).1 comma).map patC, resC (Txt.partition (Txt.partition z brack).2.2 gives).2.2⟩ := rfl
      obtain ⟨zn, zr⟩ := readC_len pz zl
      generalize hn : (Txt.partition z (Str.ofString "(")) = p3 at *
      obtain ⟨nm, bk, rest⟩ := p3
      dsimp only at *
      refine ⟨⟨_, rfl⟩, by decide, sz100 (by omega), fun p hp => ?_⟩
      have s1 := same_new (o := .tup [.str nm, .str bk, .str rest]) hp
      have f1 : upd H p (.tup [.str nm, .str bk, .str rest]) p = some (.tup [.str nm, .str bk, .str rest]) := upd_same
      generalize upd H p (.tup [.str nm, .str bk, .str rest]) = H1 at *
      refine ⟨_, sqt_of f1, rfl, _, _, rfl, _, _, rfl, _, _, rfl, rfl, ⟨_, rfl⟩, _, rfl, by decide, sz100 (by omega), fun p2 hp2 => ?_⟩
      generalize hn2 : (Txt.partition rest (Str.ofString ") gives ")) = p3 at *
      obtain ⟨inner, gv, en⟩ := p3
      dsimp only at *
      have s2 := same_new (o := .tup [.str inner, .str gv, .str en]) hp2
      have f2 : upd H1 p2 (.tup [.str inner, .str gv, .str en]) p2 = some (.tup [.str inner, .str gv, .str en]) := upd_same
      generalize upd H1 p2 (.tup [.str inner, .str gv, .str en]) = H2 at *
      walk_at "rdx"
      refine ⟨_, sqt_of f2, rfl, _, _, rfl, _, _, rfl, _, _, rfl, rfl, ⟨_, rfl⟩, _, rfl, by decide, sz100 (by omega), fun p3 hp3 => ?_⟩
      have s3 := same_new (o := .lst ((Txt.split inner (Str.ofString ", ")).map V.str)) hp3
      have f3 : upd H2 p3 (.lst ((Txt.split inner (Str.ofString ", ")).map V.str)) p3 = some (.lst ((Txt.split inner (Str.ofString ", ")).map V.str)) := upd_same
      generalize upd H2 p3 (.lst ((Txt.split inner (Str.ofString ", ")).map V.str)) = H3 at *
      have nn := part_num (z := inner) (y := comma) (by decide)
      refine ⟨p3, rfl, ⟨_, sql_of f3⟩, lc_mon (walk_list (xs := (Txt.split inner (Str.ofString ", ")).map V.str)) (fun i y H' => ∃ t b, (Txt.split inner comma)[i]? = some t ∧ y = .ref b ∧ ptA H' b (patC t).1 (patC t).2)
        (fun i y Ha Hb st hp => ?_) (sz100 (by rw [List.length_map]; show (Txt.split inner comma).length ≤ _; omega)) (fun H' s' => sql_of (s' _ _ f3)) ?_ mono_name mono_yes ?_⟩
      · obtain ⟨t, b, e1, e2, b2, e3, e4⟩ := hp
        exact ⟨t, b, e1, e2, b2, st _ _ e3, st _ _ e4⟩
      · rintro i x Ha Hb hi hS ⟨rfl, hx⟩ R hR
        walk_at "rd"
        rw [List.getElem?_map] at hx
        cases et : (Txt.split inner (Str.ofString ", "))[i]? with
        | none =>
          rw [et] at hx
          cases hx
        | some t =>
          rw [et] at hx
          cases hx
          have mt := List.mem_of_getElem? et
          have lt := part_len (z := inner) mt
          exact ⟨t, rfl, part_pl z3 mt, by omega, fun b Hc sc hb => hR _ _ sc ⟨t, b, et, rfl, hb⟩⟩
      · intro H4 D ys s4 hD yl yp fD
        refine tupL (sql_of fD) fun pa hpa => ?_
        have s5 := same_new (o := .tup ys) hpa
        have f5 : upd H4 pa (.tup ys) pa = some (.tup ys) := upd_same
        generalize upd H4 pa (.tup ys) = H5 at *
        have ps5 : ptsA H5 pa (readC z).ps := by
          rw [e0]
          refine ⟨ys, f5, by rw [yl, List.length_map, List.length_map], fun i p ep => ?_⟩
          rw [List.getElem?_map] at ep
          cases et : (Txt.split inner comma)[i]? with
          | none =>
            rw [et] at ep
            cases ep
          | some t =>
            rw [et] at ep
            cases ep
            have hi : i < ys.length := by
              rw [yl, List.length_map]
              exact (List.getElem?_eq_some_iff.mp et).1
            obtain ⟨t', b, e1, e2, e3⟩ := yp i _ (List.getElem?_eq_getElem hi)
            rw [et] at e1
            cases e1
            exact ⟨b, by rw [List.getElem?_eq_getElem hi, e2], e3.same s5⟩
        refine ⟨en, rfl, z5, z6, fun ra H6 s6 rs6 => ?_⟩
        have rs6' : rsA H6 ra (readC z).rs.1 (readC z).rs.2 := by
          rw [e0]
          exact rs6
        have st : Same H H6 := ((((s1.trans s2).trans s3).trans s4).trans s5).trans s6
        refine isnameS (sz100 (by omega)) fun H7 s7 => ⟨_, rfl, ite2 (fun h => ?_) (fun h => ?_)⟩
        · refine q0 ?_ _ (st.trans s7)
          unfold parseC
          refine if_neg fun hh => ?_
          have := (cdOk_iff.mp hh.1).nm
          rw [e0] at this
          rw [show isNm nm = true from this] at h
          exact nomatch h
        · have hnm : isNm nm = true := by simpa using h
          have ps7 := ps5.same (s6.trans s7)
          have rs7 := rs6'.same s7
          have st7 := st.trans s7
          have hb : ∃ b, PatsIs H7 (.ref pa) b ∧ (b = true ↔ (1 ≤ (readC z).ps.length ∧ (readC z).ps.length ≤ 3) ∧ (readC z).ps.all ptOk = true) := by
            by_cases hl : 1 ≤ (readC z).ps.length ∧ (readC z).ps.length ≤ 3
            · exact ⟨_, ps7.is hl.1 hl.2 zn, by rw [all_range]; exact ⟨fun h => ⟨hl, h⟩, fun h => h.2⟩⟩
            · obtain ⟨xs, h1, h2, _⟩ := ps7
              exact ⟨false, .len h1 (by rw [h2]; exact hl), (fun h => nomatch h), fun h => absurd h.1 hl⟩
          obtain ⟨b, hb1, hb2⟩ := hb
          refine ⟨_, b, rfl, hb1, fun H8 s8 => ⟨_, rfl, ite2 (fun h => ?_) (fun h => ?_)⟩⟩
          · refine q0 ?_ _ (st7.trans s8)
            unfold parseC
            refine if_neg fun hh => ?_
            have ok := cdOk_iff.mp hh.1
            rw [hb2.mpr ⟨⟨ok.lo, ok.hi⟩, List.all_eq_true.mpr ok.pt⟩] at h
            exact nomatch h
          · have hbt := hb2.mp (by simpa using h)
            have ps8 := ps7.same s8
            have rs8 := rs7.same s8
            have st8 := st7.trans s8
            refine ⟨.ref ra, pa, _, _, rfl, ps8.kds, by rw [List.length_map]; exact hbt.1.2, rsA.is rs8 zr hbt.1.2, fun H9 s9 => ⟨_, rfl, ite2 (fun h => ?_) (fun h => ?_)⟩⟩
            · refine q0 ?_ _ (st8.trans s9)
              unfold parseC
              refine if_neg fun hh => ?_
              have ok := cdOk_iff.mp hh.1
              rw [ok.rs] at h
              exact nomatch h
            · have hrt : rsOk (readC z).ps (readC z).rs = true := by simpa using h
              have ok : CdOk (readC z) := ⟨by rw [e0]; exact hnm, hbt.1.1, hbt.1.2, List.all_eq_true.mp hbt.2, hrt⟩
              walk_at "rdx"
              have en' : nm = (readC z).nm := by rw [e0]
              rw [en']
              refine make_ok (ps8.same s9) (rs8.same s9) ok fun x Ha sa ca => ?_
              refine ⟨x, _, rfl, ca, ok, fun Hb sb => ⟨rfl, ite2 (fun h => ?_) (fun h => ?_)⟩⟩
              · have h' := of_decide_eq_true h
                injection h' with h'
                refine q1 (readC z) ?_ x _ (((st8.trans s9).trans sa).trans sb) (ca.same sb)
                unfold parseC
                rw [if_pos ⟨cdOk_iff.mpr ok, h'⟩]
              · refine q0 ?_ _ (((st8.trans s9).trans sa).trans sb)
                unfold parseC
                refine if_neg fun hh => h ?_
                rw [hh.2]
                exact decide_eq_true rfl
end

local macro_rules | `(tactic| walk_at "rdx") => `(tactic| ((try simp only [tFld, gTup, gStar, tJs, tFmt, sFld, tMake, tMakeL]); try walk_at "rd"))
section
variable {w : World} {K : PySem.W.Frag} {mg : Str → Option Value} {base : Heap}
/-- the dict of ParseError(None) -/
abbrev PN : HO := .xd [(("line" : Str), .non)]
/-- no text -/
def NoStr (K : PySem.W.Frag) (H : Hp) (v : V) : Prop := ∃ t, TyX K H v t ∧ PySem.W.kitOne K t (.type "str") = some false
def spx_from (K : PySem.W.Frag) (CP C : Addr) : Sp := fun vs H Q E => ∃ v, vs = [.ref C, v] ∧ ((NoStr K H v ∧ ∀ d H', Same H H' → H' d = some PN → E (.ref CP) (some d) H') ∨
  ∃ z, v = .str z ∧ Pl z ∧ z.length ≤ 9000 ∧ (parseC z = none → ∀ d H', Same H H' → H' d = some PN → E (.ref CP) (some d) H') ∧ ∀ c, parseC z = some c → ∀ x H', Same H H' → Cnd H' C x c → Q (.ref x) H')
theorem parse_ok {z : Str} {c : Cd} (h : parseC z = some c) : CdOk c ∧ lineT c = z := by
  unfold parseC at h
  split at h
  · rename_i hh
    cases h
    exact ⟨cdOk_iff.mp hh.1, hh.2⟩
  · cases h
theorem ok_Candidate_from_line (T : Tx K mg) : FnOk P w K mg base (L2.CX P w) 8 T.f_Candidate_from_line T.d_Candidate_from_line ["cls", "line"] (spx_from K T.C_ParseError T.C_Candidate) := by
  refine T.F_Candidate_from_line.okX sc_Candidate_from_line (fun vs H Q E h => ?_) (fun cdv A outer s H vs Q E hr h => ?_)
  · obtain ⟨v, rfl, _⟩ := h
    rfl
  · obtain ⟨v, rfl, h⟩ := h
    refine ⟨_, (pss_cons (ps_set (i := 2) sc_Candidate_from_line.nd rfl (Or.inl rfl) (pe_call (ok_candidate_of T) (hr.mono (by decide)) (by rfl) T.g_candidate_of T.F_candidate_of.kp T.b_candidate_of .nil pass0 (pa_cons (pv 1) pa_nil)))
      (pss_cons (ps_if (pt_cmpR op_isN (pv 2) pe_non (nomark _)) (pss_one (ps_raise rfl (takes_of rfl rfl rfl rfl) (pmk_none T.p_ParseError (by decide) (by decide) hr (pa_cons pe_non pa_nil) rfl (by decide)))) pss_nil)
      (pss_one (ps_ret (pe_makeL T.mk_Candidate (ok_Candidate___init__ T) (hr.mono (by decide)) (i := 0) rfl (by first | exact Or.inl rfl | exact Or.inr rfl | decide) T.b_Candidate___init__ .nil (passes_call (takes_of rfl rfl rfl rfl) (fun _ _ _ _ h => h)) (pa_cons (pe_fld (pv 2) rfl) (pa_cons (pe_fld (pv 2) rfl) (pa_cons (pe_fld (pv 2) rfl) pa_nil)))))))), ?_⟩
    walk_at "rd"
    have mkE : ∀ {H1 : Hp} {σ : L2.St}, Same H H1 → (∀ d H', Same H H' → H' d = some PN → E (.ref T.C_ParseError) (some d) H') → tMkN T.C_ParseError (tCons (tC V.non) tNil) σ H1 (fun cls d H' => E cls d H') :=
      fun s1 q => ⟨rfl, fun d hd => q d _ (s1.trans (same_new hd)) upd_same⟩
    rcases h with ⟨⟨t, ty, kt⟩, q⟩ | ⟨z, rfl, pz, zl, q0, q1⟩
    · refine ⟨v, rfl, .inl ⟨t, ty, kt, ?_⟩⟩
      dsimp only
      rw [decide_eq_true rfl]
      exact iteT (mkE (Same.refl _) q)
    · refine ⟨_, rfl, .inr ⟨z, rfl, pz, zl, fun hn H1 s1 => ?_, fun c hc x H1 s1 cn => ?_⟩⟩
      · dsimp only
        rw [decide_eq_true rfl]
        exact iteT (mkE s1 (q0 hn))
      · dsimp only
        rw [decide_eq_false (show ¬ V.ref x = V.non from fun e => nomatch e)]
        refine iteF ?_
        walk_at "rdx"
        walk_at "rdx"
        obtain ⟨dx, pa, ra, ka, fs, hx⟩ := cn
        refine ⟨_, _, _, hx.at_, T.cl_Candidate, T.no_Candidate_own_name, _, hx.f1, _, _, _, hx.at_, T.cl_Candidate, T.no_Candidate_own_patterns, _, hx.f2, _, _, _, hx.at_, T.cl_Candidate, T.no_Candidate_own_result, _, hx.f3, ?_⟩
        exact make_ok hx.ps hx.rs (parse_ok hc).1 fun x2 H2 s2 c2 => q1 c hc x2 H2 (s1.trans s2) c2
end

local macro_rules | `(tactic| walk_at "rdx") => `(tactic| ((try simp only [tFld, gTup, gStar, tJs, tFmt, sFld]); try walk_at "rd"))
section
variable {w : World} {K : PySem.W.Frag} {mg : Str → Option Value} {base : Heap}
abbrev wDrop : Str := Str.ofString "drop"
inductive Kd where
  | closed
  | open_
  | drop
deriving DecidableEq
def wK : Kd → Str
  | .closed => wClosed
  | .open_ => wOpen
  | .drop => wDrop
/-- a conversion -/
structure Cv where
  kd : Kd
  lf : List Str
  rt : List Str
  rk : Nat
deriving DecidableEq
def sidesV (k : Kd) (b1 b2 : Bool) (xs ys : List V) : Bool := match k with
  | .closed => b1 && namesV xs 1 5 && (b2 && namesV ys 1 5 && !decide (xs = ys))
  | .open_ => b1 && namesV xs 0 2 && (b2 && namesV ys 0 3 && !decide (xs = ys))
  | .drop => b1 && namesV xs 0 2 && (b2 && namesV ys 1 5)
theorem namesV_str {xs : List V} {lo hi : Int} (h : namesV xs lo hi = true) : ∃ ws : List Str, xs = ws.map V.str ∧ ∀ w ∈ ws, isNm w = true := by
  unfold namesV at h
  rw [Bool.and_eq_true] at h
  have h2 := List.all_eq_true.mp h.2
  clear h
  induction xs with
  | nil => exact ⟨[], rfl, (fun w hw => nomatch hw)⟩
  | cons x xs ih =>
    obtain ⟨ws, e, n⟩ := ih fun y hy => h2 y (.tail _ hy)
    have hx := h2 x (.head _)
    cases x with
    | str z => exact ⟨z :: ws, by rw [e]; rfl, fun w hw => (List.mem_cons.mp hw).elim (fun q => q ▸ hx) fun q => n w q⟩
    | _ => cases hx
theorem told_at {H : Hp} {v : V} {xs : List V} (t : Told H v xs true) : ∃ a, v = .ref a ∧ H a = some (.tup xs) := by
  generalize hb : true = b at t
  cases t with
  | tup h k z => exact ⟨_, rfl, h⟩
  | oth k n => cases hb
theorem iteP {c A B : Prop} [Decidable c] (h : c) (a : A) : if c then A else B := by
  rw [if_pos h]
  exact a
theorem iteN {c A B : Prop} [Decidable c] (h : ¬ c) (b : B) : if c then A else B := by
  rw [if_neg h]
  exact b
theorem str_inj : Function.Injective V.str := fun a b h => by injection h
theorem strs_eq {ws us : List Str} : decide (ws.map V.str = us.map V.str) = decide (ws = us) := by
  by_cases h : ws = us
  · rw [h]
    simp
  · rw [decide_eq_false h, decide_eq_false]
    exact fun e => h ((List.map_inj_right fun _ _ q => str_inj q).mp e)
/-- whether v is a conversion -/
inductive CvIs (H : Hp) : V → Bool → Prop
  | oth {v : V} {t : String} (k : Kn H v t) (n : t ≠ "tuple") : CvIs H v false
  | len {a : Addr} {xs : List V} (h : H a = some (.tup xs)) (n : xs.length ≠ 4) (z : xs.length ≤ 1000) : CvIs H (.ref a) false
  | rank {a : Addr} {x y z u : V} {t : String} (h : H a = some (.tup [x, y, z, u])) (k : Kn H u t) (n : inV3 u 1 9 = false) : CvIs H (.ref a) false
  | nostr {a : Addr} {x y z u : V} {t t2 : String} (h : H a = some (.tup [x, y, z, u])) (k : Kn H u t) (k2 : Kn H x t2) (n : t2 ≠ "str") : CvIs H (.ref a) false
  | word {a : Addr} {y z u : V} {t : String} {x : Str} (h : H a = some (.tup [.str x, y, z, u])) (k : Kn H u t) (n : ∀ k, x ≠ wK k) : CvIs H (.ref a) false
  | sides {a : Addr} {kd : Kd} {y z u : V} {ys zs : List V} {b1 b2 : Bool} {t : String} (h : H a = some (.tup [.str (wK kd), y, z, u])) (k : Kn H u t) (t1 : Told H y ys b1) (t2 : Told H z zs b2) : CvIs H (.ref a) (inV3 u 1 9 && sidesV kd b1 b2 ys zs)
def sp_is_conversion : Sp := fun vs H Q _ => ∃ (v : V) (b : Bool), vs = [v] ∧ CvIs H v b ∧ ∀ H', Same H H' → Q (.bl b) H'
theorem ok_is_conversion (T : Tx K mg) : FnOk P w K mg base CX0 3 T.f_is_conversion T.d_is_conversion ["value"] sp_is_conversion := by
  refine T.F_is_conversion.ok sc_is_conversion (fun vs H Q E h => ?_) (fun cdv A outer s H vs Q E hr h => ?_)
  · obtain ⟨v, b, rfl, _⟩ := h
    rfl
  · obtain ⟨v, b, rfl, k, q⟩ := h
    refine ⟨_, (pss_cons (ps_if (PW.pt (pw_or (pt_not (pt_val (pe_callB call_isi (by rfl) T.n_isinstance (by decide +kernel) (pa_cons (pv 0) (pa_cons (pe_bltn (v := .ty "tuple") (by rfl) T.n_tuple (by decide +kernel) rfl) pa_nil))))) (pw_or (pt_cmpR op_ne (pe_callB call_lenQ (by rfl) T.n_len (by decide +kernel) (pa_cons (pv 0) pa_nil)) pe_int (nomark _)) (pw_or1 (pt_not (pt_val (pe_call (ok_is_integer_within T) (hr.mono (by decide)) (by rfl) T.g_is_integer_within T.F_is_integer_within.kp T.b_is_integer_within .nil pass0 (pa_cons (pe_ix ix_tup (pv 0) pe_int (fun _ _ => rfl)) (pa_cons pe_int (pa_cons (pe_glob (v := .int (9)) (by rfl) T.m_MAX_RANK ⟨_, rfl⟩) pa_nil)))))))))) (pss_one (ps_ret pe_bl)) pss_nil)
      (pss_cons (ps_asg (pe_slice sl_tupA (pv 0) po_none (po_some pe_int)) (pg_tup (n := 3) rfl (pgs_cons (pg_name (i := 1) sc_is_conversion.nd rfl (Or.inl rfl)) (pgs_cons (pg_name (i := 2) sc_is_conversion.nd rfl (Or.inl rfl)) (pgs_cons (pg_name (i := 3) sc_is_conversion.nd rfl (Or.inl rfl)) pgs_nil)))))
      (pss_cons (ps_if (pt_not (pt_val (pe_callB call_isi (by rfl) T.n_isinstance (by decide +kernel) (pa_cons (pv 1) (pa_cons (pe_bltn (v := .ty "str") (by rfl) T.n_str (by decide +kernel) rfl) pa_nil))))) (pss_one (ps_ret pe_bl)) pss_nil)
      (pss_cons (ps_if (pt_cmpR op_eq (pv 1) pe_str (nomark _)) (pss_one (ps_ret (pe_and (pe_call (ok_is_names T) (hr.mono (by decide)) (by rfl) T.g_is_names T.F_is_names.kp T.b_is_names .nil pass0 (pa_cons (pv 2) (pa_cons pe_int (pa_cons (pe_glob (v := .int (5)) (by rfl) T.m_MAX_NAMES ⟨_, rfl⟩) pa_nil)))) (pe_and (pe_call (ok_is_names T) (hr.mono (by decide)) (by rfl) T.g_is_names T.F_is_names.kp T.b_is_names .nil pass0 (pa_cons (pv 3) (pa_cons pe_int (pa_cons (pe_glob (v := .int (5)) (by rfl) T.m_MAX_NAMES ⟨_, rfl⟩) pa_nil)))) (pe_one (pe_cmpR (op_neD hr.units) (pv 2) (pv 3) (nomark _))))))) pss_nil)
      (pss_cons (ps_if (pt_cmpR op_eq (pv 1) pe_str (nomark _)) (pss_one (ps_ret (pe_and (pe_call (ok_is_names T) (hr.mono (by decide)) (by rfl) T.g_is_names T.F_is_names.kp T.b_is_names .nil pass0 (pa_cons (pv 2) (pa_cons pe_int (pa_cons (pe_glob (v := .int (2)) (by rfl) T.m_MAX_LEFT ⟨_, rfl⟩) pa_nil)))) (pe_and (pe_call (ok_is_names T) (hr.mono (by decide)) (by rfl) T.g_is_names T.F_is_names.kp T.b_is_names .nil pass0 (pa_cons (pv 3) (pa_cons pe_int (pa_cons (pe_glob (v := .int (3)) (by rfl) T.m_MAX_FRONT ⟨_, rfl⟩) pa_nil)))) (pe_one (pe_cmpR (op_neD hr.units) (pv 2) (pv 3) (nomark _))))))) pss_nil)
      (pss_one (ps_ret (pe_and (pe_cmpR op_eq (pv 1) pe_str (nomark _)) (pe_and (pe_call (ok_is_names T) (hr.mono (by decide)) (by rfl) T.g_is_names T.F_is_names.kp T.b_is_names .nil pass0 (pa_cons (pv 2) (pa_cons pe_int (pa_cons (pe_glob (v := .int (2)) (by rfl) T.m_MAX_LEFT ⟨_, rfl⟩) pa_nil)))) (pe_one (pe_call (ok_is_names T) (hr.mono (by decide)) (by rfl) T.g_is_names T.F_is_names.kp T.b_is_names .nil pass0 (pa_cons (pv 3) (pa_cons pe_int (pa_cons (pe_glob (v := .int (5)) (by rfl) T.m_MAX_NAMES ⟨_, rfl⟩) pa_nil)))))))))))))), ?_⟩
    walk_at "rd"
    cases k with
    | oth k n =>
      refine isi_kn k (kit_ntup k n) ?_
      walk_at "rd"
      exact q _ (Same.refl _)
    | @len a xs h n z =>
      walk_at "isi"
      walk_at "rd"
      refine lenT (sqt_of h) ⟨rfl, ?_⟩
      rw [decide_eq_false (fun e => n (by injection e with e; omega))]
      exact iteT (q _ (Same.refl _))
    | @rank a x y z u t h k n =>
      walk_at "isi"
      walk_at "rd"
      refine lenT (sqt_of h) ⟨rfl, iteF (ixt_nat (j := 3) (sqt_of h) rfl ⟨_, _, _, _, rfl, k, ?_⟩)⟩
      walk_at "rd"
      rw [n]
      walk_at "rd"
      exact q _ (Same.refl _)
    | @nostr a x y z u t t2 h k k2 n =>
      walk_at "isi"
      walk_at "rd"
      refine lenT (sqt_of h) ⟨rfl, iteF (ixt_nat (j := 3) (sqt_of h) rfl ⟨_, _, _, _, rfl, k, ?_⟩)⟩
      walk_at "rd"
      refine ite2 (fun h1 => q _ (Same.refl _)) (fun h1 => ?_)
      walk_at "rdx"
      refine slT h fun p H1 s1 hp => ⟨p, rfl, _, (show SqT K H1 p [x, y, z] from sqt_of hp), rfl, _, _, rfl, _, _, rfl, _, _, rfl, rfl, isi_kn (k2.same s1) (kit_nstr k2 n) ?_⟩
      walk_at "rd"
      exact q _ s1
    | @word a y z u t x h k n =>
      walk_at "isi"
      walk_at "rd"
      refine lenT (sqt_of h) ⟨rfl, iteF (ixt_nat (j := 3) (sqt_of h) rfl ⟨_, _, _, _, rfl, k, ?_⟩)⟩
      walk_at "rd"
      refine ite2 (fun h1 => q _ (Same.refl _)) (fun h1 => ?_)
      walk_at "rdx"
      refine slT h fun p H1 s1 hp => ⟨p, rfl, _, (show SqT K H1 p [.str x, y, z] from sqt_of hp), rfl, _, _, rfl, _, _, rfl, _, _, rfl, rfl, ?_⟩
      walk_at "isi"
      walk_at "rd"
      refine ⟨rfl, ?_⟩
      rw [decide_eq_false (show ¬ x = Str.ofString "closed" from n .closed)]
      refine iteF ⟨rfl, ?_⟩
      rw [decide_eq_false (show ¬ x = Str.ofString "open" from n .open_)]
      refine iteF ⟨rfl, ?_⟩
      rw [decide_eq_false (show ¬ x = Str.ofString "drop" from n .drop)]
      exact iteF (q _ s1)
    | @sides a kd y z u ys zs b1 b2 t h k t1 t2 =>
      walk_at "isi"
      walk_at "rd"
      refine lenT (sqt_of h) ⟨rfl, iteF (ixt_nat (j := 3) (sqt_of h) rfl ⟨_, _, _, _, rfl, k, ?_⟩)⟩
      walk_at "rd"
      refine ite2 (fun h1 => ?_) (fun h1 => ?_)
      · have e : inV3 u 1 9 = false := by simpa using h1
        rw [e, Bool.false_and] at q
        exact q _ (Same.refl _)
      have e : inV3 u 1 9 = true := by simpa using h1
      rw [e, Bool.true_and] at q
      clear h1 e
      walk_at "rdx"
      refine slT h fun p H1 s1 hp => ⟨p, rfl, _, (show SqT K H1 p [.str (wK kd), y, z] from sqt_of hp), rfl, _, _, rfl, _, _, rfl, _, _, rfl, rfl, ?_⟩
      walk_at "isi"
      walk_at "rd"
      have q1 : ∀ H', Same H1 H' → Q (.bl (sidesV kd b1 b2 ys zs)) H' := fun H' s => q H' (s1.trans s)
      have ne : ∀ (H' : Hp) (lo hi lo' hi' : Int) (R : VK), Same H1 H' → (b1 && namesV ys lo hi) = true → (b2 && namesV zs lo' hi') = true → R (.bl (!decide (ys = zs))) H' → rNeD K y z H' R := by
        intro H' lo hi lo' hi' R s' e1 e2 r
        rw [Bool.and_eq_true] at e1 e2
        obtain ⟨ws, rfl, nw⟩ := namesV_str e1.2
        obtain ⟨us, rfl, nu⟩ := namesV_str e2.2
        have r' : R (.bl (!decide (ws = us))) H' := by
          rw [strs_eq] at r
          exact r
        have e1' := e1.1
        have e2' := e2.1
        subst e1' e2'
        obtain ⟨a1, rfl, h1⟩ := told_at t1
        obtain ⟨a2, rfl, h2⟩ := told_at t2
        exact neT (sqt_of (s' _ _ (s1 _ _ h1))) (sqt_of (s' _ _ (s1 _ _ h2))) (fun w hw => pl_of (nw w hw)) (fun w hw => pl_of (nu w hw)) r'
      cases kd with
      | closed =>
        refine ⟨rfl, iteP (by decide) ⟨y, ys, b1, 1, 5, rfl, by decide, Told.same t1 s1, fun H2 s2 => ?_⟩⟩
        walk_at "rd"
        have q2 : ∀ H', Same H1 H' → Q (.bl (b1 && namesV ys 1 5 && (b2 && namesV zs 1 5 && !decide (ys = zs)))) H' := q1
        refine ite2 (fun e1 => ?_) (fun e1 => ?_)
        · refine ⟨z, zs, b2, 1, 5, rfl, by decide, Told.same t2 (s1.trans s2), fun H3 s3 => ?_⟩
          walk_at "rd"
          refine ite2 (fun e2 => ne _ 1 5 1 5 _ (s2.trans s3) e1 e2 ?_) (fun e2 => ?_)
          · have := q2 _ (s2.trans s3)
            rw [e1, e2, Bool.true_and, Bool.true_and] at this
            exact this
          · have := q2 _ (s2.trans s3)
            rw [Bool.not_eq_true] at e2
            rw [e2, Bool.false_and, Bool.and_false] at this
            exact this
        · have := q2 _ s2
          rw [Bool.not_eq_true] at e1
          rw [e1, Bool.false_and] at this
          exact this
      | open_ =>
        refine ⟨rfl, iteN (by decide) ⟨rfl, iteP (by decide) ⟨y, ys, b1, 0, 2, rfl, by decide, Told.same t1 s1, fun H2 s2 => ?_⟩⟩⟩
        walk_at "rd"
        have q2 : ∀ H', Same H1 H' → Q (.bl (b1 && namesV ys 0 2 && (b2 && namesV zs 0 3 && !decide (ys = zs)))) H' := q1
        refine ite2 (fun e1 => ?_) (fun e1 => ?_)
        · refine ⟨z, zs, b2, 0, 3, rfl, by decide, Told.same t2 (s1.trans s2), fun H3 s3 => ?_⟩
          walk_at "rd"
          refine ite2 (fun e2 => ne _ 0 2 0 3 _ (s2.trans s3) e1 e2 ?_) (fun e2 => ?_)
          · have := q2 _ (s2.trans s3)
            rw [e1, e2, Bool.true_and, Bool.true_and] at this
            exact this
          · have := q2 _ (s2.trans s3)
            rw [Bool.not_eq_true] at e2
            rw [e2, Bool.false_and, Bool.and_false] at this
            exact this
        · have := q2 _ s2
          rw [Bool.not_eq_true] at e1
          rw [e1, Bool.false_and] at this
          exact this
      | drop =>
        have q2 : ∀ H', Same H1 H' → Q (.bl (b1 && namesV ys 0 2 && (b2 && namesV zs 1 5))) H' := q1
        refine ⟨rfl, iteN (by decide) ⟨rfl, iteN (by decide) ⟨rfl, iteP (by decide) ⟨y, ys, b1, 0, 2, rfl, by decide, Told.same t1 s1, fun H2 s2 => ?_⟩⟩⟩⟩
        walk_at "rd"
        refine ite2 (fun e1 => ⟨z, zs, b2, 1, 5, rfl, by decide, Told.same t2 (s1.trans s2), fun H3 s3 => ?_⟩) (fun e1 => ?_)
        · have := q2 _ (s2.trans s3)
          rw [e1, Bool.true_and] at this
          exact this
        · have := q2 _ s2
          rw [Bool.not_eq_true] at e1
          rw [e1, Bool.false_and] at this
          exact this
end

local macro_rules | `(tactic| walk_at "rdx") => `(tactic| ((try simp only [tFld, gTup, gStar, tJs, tFmt, sFld]); try walk_at "rd"))
section
variable {w : World} {K : PySem.W.Frag} {mg : Str → Option Value} {base : Heap}
def ascB (ws : List Str) : Bool := (ws.zip ws.tail).all fun p => decide (p.1.cps.toList < p.2.cps.toList)
def sp_is_ascending : Sp := fun vs H Q _ => ∃ (a : Addr) (ws : List Str), vs = [.ref a] ∧ H a = some (.tup (ws.map V.str)) ∧ ws.length ≤ 1000 ∧ ∀ H', Same H H' → Q (.bl (ascB ws)) H'
theorem ok_is_ascending (T : Tx K mg) : FnOk P w K mg base CX0 1 T.f_is_ascending T.d_is_ascending ["values"] sp_is_ascending := by
  refine T.F_is_ascending.ok sc_is_ascending (fun vs H Q E h => ?_) (fun cdv A outer s H vs Q E hr h => ?_)
  · obtain ⟨a, ws, rfl, _⟩ := h
    rfl
  · obtain ⟨a, ws, rfl, ha, hl, q⟩ := h
    refine ⟨_, (pss_one (ps_ret (pe_callB (cr_all rfl) (by rfl) T.n_all (by decide +kernel) (pa_cons (pe_lc (own := [("one", 1), ("other", 2)]) (g := gTup K 2 (gCons (gName 1) (gCons (gName 2) gNil))) (by rfl) sc_is_ascending.nd (RZ.pi_zipA (by rfl) T.n_zip (pa_cons (pv 0) (pa_cons (pe_slice sl_tupA (pv 0) (po_some pe_int) po_none) pa_nil))) (blkOk_by (own := [("one", 1), ("other", 2)]) (N := ["values", "one", "other"]) (sc := defScope s_is_ascending) (by decide +kernel)) (fun _ _ _ _ _ => (pg_tup (n := 2) rfl (pgs_cons (pg_name (i := 1) sc_is_ascending.nd rfl (Or.inl rfl)) (pgs_cons (pg_name (i := 2) sc_is_ascending.nd rfl (Or.inl rfl)) pgs_nil)))) (fun _ _ _ _ _ => pts_nil) (fun _ _ _ _ _ => (pe_cmpR op_lt_str (pv 1) (pv 2) (nomark _)))) pa_nil)))), ?_⟩
    walk_at "rd"
    simp only [RZ.iZipA]
    walk_at "rd"
    refine slFrom 1 ha fun p H1 s1 hp => ⟨p, rfl, _, _, .inr ⟨sqt_of (s1 _ _ ha), sqt_of hp, ?_⟩⟩
    have hz : (ws.drop 1).length = ws.length - 1 := by rw [List.length_drop]
    refine lc_same (walk_zipT (n := ws.length - 1) (by rw [List.length_map, List.length_map, hz]; omega)) (fun i => .bl (((ws.zip ws.tail)[i]?.map fun p => decide (p.1.cps.toList < p.2.cps.toList)).getD false)) (sz100 (by omega)) (fun H' s => ⟨sqt_of (s _ _ (s1 _ _ ha)), sqt_of (s _ _ hp)⟩) ?_ mono_pair mono_yes ?_
    · rintro i x H2 H3 hi hS ⟨T', x', y', rfl, hT, rfl, hx, hy⟩ R hR
      have hx : (ws.map V.str)[i]? = some x' := hx
      have hy : ((ws.drop 1).map V.str)[i]? = some y' := hy
      rw [List.getElem?_map] at hx hy
      have e1 : i < ws.length := by omega
      have e2 : i < (ws.drop 1).length := by omega
      rw [List.getElem?_eq_getElem e1] at hx
      rw [List.getElem?_eq_getElem e2] at hy
      cases hx
      cases hy
      simp only [gTup]
      walk_at "rd"
      refine ⟨_, sqt_of upd_same, rfl, _, _, rfl, _, _, rfl, rfl, ?_⟩
      have e3 : (ws.zip ws.tail)[i]? = some (ws[i], (ws.drop 1)[i]) := by
        rw [List.getElem?_zip_eq_some]
        refine ⟨List.getElem?_eq_getElem e1, ?_⟩
        rw [← List.drop_one]
        exact List.getElem?_eq_getElem e2
      have := hR _ (same_new (o := .tup [V.str ws[i], V.str (ws.drop 1)[i]]) hT)
      rw [e3] at this
      exact ⟨_, rfl, _, rfl, this⟩
    · intro H2 D hS hD hL
      have zl : (ws.zip ws.tail).length = ws.length - 1 := by rw [List.length_zip, List.length_tail]; omega
      have e : ((List.range (ws.length - 1)).map fun i => V.bl (((ws.zip ws.tail)[i]?.map fun p => decide (p.1.cps.toList < p.2.cps.toList)).getD false)) = ((ws.zip ws.tail).map fun p => decide (p.1.cps.toList < p.2.cps.toList)).map V.bl := by
        rw [← zl, List.map_map]
        apply List.ext_getElem
        · simp
        · intro i h1 h2
          have h3 : i < (ws.zip ws.tail).length := by simpa using h2
          simp only [List.getElem_map, List.getElem_range, Function.comp_apply]
          rw [List.getElem?_eq_getElem h3]
          rfl
      rw [e] at hL
      refine ⟨D, _, rfl, .inl (.inl hL), ?_⟩
      rw [List.all_map]
      exact q _ (s1.trans hS)
theorem pick_all {α : Type} {P : Nat → α → Addr → Prop} : ∀ (l : List α), (∀ (i : Nat) k, l[i]? = some k → ∃ b, P i k b) → ∃ bs : List Addr, bs.length = l.length ∧ ∀ (i : Nat) k, l[i]? = some k → ∃ b, bs[i]? = some b ∧ P i k b := by
  intro l
  induction l generalizing P with
  | nil => exact fun _ => ⟨[], rfl, fun i k e => by cases e⟩
  | cons x l ih =>
    intro h
    obtain ⟨b, hb⟩ := h 0 x rfl
    obtain ⟨bs, hl, hbs⟩ := ih (P := fun i => P (i + 1)) fun i k e => h (i + 1) k e
    refine ⟨b :: bs, congrArg Nat.succ hl, fun i k e => ?_⟩
    cases i with
    | zero =>
      cases e
      exact ⟨b, rfl, hb⟩
    | succ i => exact hbs i k e
theorem repB {H : Hp} {p : Addr} {xs : List V} {b : Bool} {Q : VK} (h : H p = some (.lst xs)) (q : ∀ p' H', Same H H' → H' p' = some (.lst (if b = true then xs else [])) → Q (.ref p') H') : rRepB K (.ref p) (.bl b) H Q := ⟨p, xs, b, rfl, rfl, sql_of h, fun p' hp' => q p' _ (same_new hp') upd_same⟩
theorem catL {H : Hp} {p1 p2 : Addr} {xs ys : List V} {Q : VK} (h1 : H p1 = some (.lst xs)) (h2 : H p2 = some (.lst ys)) (hl : xs.length + ys.length ≤ 10000) (q : ∀ p H', Same H H' → H' p = some (.lst (xs ++ ys)) → Q (.ref p) H') : rCat (.ref p1) (.ref p2) H Q := ⟨p1, p2, xs, ys, rfl, rfl, h1, h2, sz100 (by omega), fun p hp => q p _ (same_new hp) upd_same⟩
theorem eC {k : Kd} : decide (V.str (wK k) = V.str (Str.ofString "closed")) = decide (k = .closed) := by cases k <;> decide
theorem eO {k : Kd} : decide (V.str (wK k) = V.str (Str.ofString "open")) = decide (k = .open_) := by cases k <;> decide
/-- the sides of a candidate: whether each is a front -/
def sidesC (c : Cd) : List (Bool × List Str) := c.ps ++ [(c.rs.2.isSome, c.rs.1)]
def frontsOf (ss : List (Bool × List Str)) : List (List Str) := ss.filterMap fun p => if p.1 then some p.2 else none
def typesOf (ss : List (Bool × List Str)) : List (List Str) := ss.filterMap fun p => if p.1 then none else some p.2
def sp_names_in_candidate (C : Addr) : Sp := fun vs H Q _ => ∃ (a : Addr) (c : Cd), vs = [.ref a] ∧ Cnd H C a c ∧ CdOk c ∧ ∀ H' p f t fs ts, Same H H' → H' p = some (.tup [.ref f, .ref t]) → H' f = some (.lst fs) → H' t = some (.lst ts) → FrA H' fs (frontsOf (sidesC c)) → FrA H' ts (typesOf (sidesC c)) → Q (.ref p) H'
theorem ok_names_in_candidate (T : Tx K mg) : FnOk P w K mg base CX0 1 T.f_names_in_candidate T.d_names_in_candidate ["candidate"] (sp_names_in_candidate T.C_Candidate) := by
  refine T.F_names_in_candidate.ok sc_names_in_candidate (fun vs H Q E h => ?_) (fun cdv A outer s H vs Q E hr h => ?_)
  · obtain ⟨a, c, rfl, _⟩ := h
    rfl
  · obtain ⟨a, c, rfl, ⟨dx, pa, ra, ka, fs, hc⟩, ok, q⟩ := h
    refine ⟨_, (pss_cons (ps_set (i := 1) sc_names_in_candidate.nd rfl (Or.inl rfl) (pe_lst (StX.pa_star (pe_fld (pv 0) rfl) (pa_cons (pe_slice sl_tupA (pe_fld (pv 0) rfl) po_none (po_some pe_int)) pa_nil))))
      (pss_one (ps_ret (pe_tup (pa_cons (pe_lc (own := [("kind", 2), ("names", 3)]) (g := gTup K 2 (gCons (gName 2) (gCons (gName 3) gNil))) (by rfl) sc_names_in_candidate.nd (pi_list (pv 1)) (blkOk_by (own := [("kind", 2), ("names", 3)]) (N := ["candidate", "sides", "kind", "names"]) (sc := defScope s_names_in_candidate) (by decide +kernel)) (fun _ _ _ _ _ => (pg_tup (n := 2) rfl (pgs_cons (pg_name (i := 2) sc_names_in_candidate.nd rfl (Or.inl rfl)) (pgs_cons (pg_name (i := 3) sc_names_in_candidate.nd rfl (Or.inl rfl)) pgs_nil)))) (fun _ _ _ _ _ => (pts_one (pt_cmpR op_ne (pv 2) pe_str (nomark _)))) (fun _ _ _ _ _ => (pv 3))) (pa_cons (pe_lc (own := [("kind", 2), ("names", 3)]) (g := gTup K 2 (gCons (gName 2) (gCons (gName 3) gNil))) (by rfl) sc_names_in_candidate.nd (pi_list (pv 1)) (blkOk_by (own := [("kind", 2), ("names", 3)]) (N := ["candidate", "sides", "kind", "names"]) (sc := defScope s_names_in_candidate) (by decide +kernel)) (fun _ _ _ _ _ => (pg_tup (n := 2) rfl (pgs_cons (pg_name (i := 2) sc_names_in_candidate.nd rfl (Or.inl rfl)) (pgs_cons (pg_name (i := 3) sc_names_in_candidate.nd rfl (Or.inl rfl)) pgs_nil)))) (fun _ _ _ _ _ => (pts_one (pt_cmpR op_eq (pv 2) pe_str (nomark _)))) (fun _ _ _ _ _ => (pv 3))) pa_nil)))))), ?_⟩
    walk_at "rd"
    walk_at "rdx"
    simp only [StX.tStar]
    walk_at "rdx"
    obtain ⟨xs, hx, lx, fx⟩ := hc.ps
    obtain ⟨rb, hrb, hra⟩ := hc.rs
    refine ⟨_, _, _, hc.at_, T.cl_Candidate, T.no_Candidate_own_patterns, ?_⟩
    refine ⟨_, hc.f2, _, rfl, _, .inl (sqt_of hx), ?_⟩
    walk_at "rdx"
    refine ⟨_, _, _, hc.at_, T.cl_Candidate, T.no_Candidate_own_result, _, hc.f3, ?_⟩
    refine slT hra fun p1 H1 s1 hp1 => ?_
    have hp1' : H1 p1 = some (.tup [.str (if c.rs.2.isSome then wTail else wClosed), .ref rb]) := by
      rw [hp1]
      cases c.rs.2 <;> rfl
    have hl := ok.hi
    refine ⟨sz100 (by rw [List.length_append, lx]; simp; omega), fun p2 hp2 => ?_⟩
    have s2 := same_new (o := .lst (xs ++ [V.ref p1])) hp2
    have f2 : upd H1 p2 (.lst (xs ++ [V.ref p1])) p2 = some (.lst (xs ++ [V.ref p1])) := upd_same
    generalize upd H1 p2 (.lst (xs ++ [V.ref p1])) = H2 at *
    refine ⟨⟨_, sql_of f2⟩, ?_⟩
    -- the sides
    have sd : ∀ (i : Nat) (x : V), (xs ++ [V.ref p1])[i]? = some x → ∃ (k : Bool × List Str) (z : Str) (a b : Addr), (sidesC c)[i]? = some k ∧ x = .ref a ∧ H2 a = some (.tup [.str z, .ref b]) ∧ H2 b = some (.tup (k.2.map V.str)) ∧ decide (z = wClosed) = !k.1 := by
      intro i x e
      unfold sidesC
      by_cases hi : i < xs.length
      · rw [List.getElem?_append_left hi] at e
        rw [List.getElem?_append_left (by omega)]
        have e2 : c.ps[i]? = some c.ps[i] := List.getElem?_eq_getElem (by omega)
        obtain ⟨b, e3, b2, e4, e5⟩ := fx i _ e2
        rw [e] at e3
        cases e3
        refine ⟨_, _, _, _, e2, rfl, s2 _ _ (s1 _ _ e4), s2 _ _ (s1 _ _ e5), ?_⟩
        cases (c.ps[i]).1 <;> decide
      · rw [List.getElem?_append_right (by omega)] at e
        rw [List.getElem?_append_right (by omega), ← lx]
        have i0 : i - xs.length = 0 := by
          by_cases h0 : i - xs.length = 0
          · exact h0
          · rw [List.getElem?_eq_none (by simp; omega)] at e
            cases e
        rw [i0] at e ⊢
        cases e
        refine ⟨_, _, _, _, rfl, rfl, s2 _ _ hp1', s2 _ _ (s1 _ _ hrb), ?_⟩
        show decide ((if c.rs.2.isSome = true then wTail else wClosed) = wClosed) = !c.rs.2.isSome
        cases c.rs.2.isSome <;> decide
    have ln : (xs ++ [V.ref p1]).length = (sidesC c).length := by
      unfold sidesC
      simp [lx]
    have ln4 : (xs ++ [V.ref p1]).length ≤ 4 := by
      simp [lx]
      omega
    generalize xs ++ [V.ref p1] = ys at *
    generalize sidesC c = ss at *
    have ad : ∃ bs : List Addr, bs.length = ss.length ∧ ∀ (i : Nat) k, ss[i]? = some k → ∃ b, bs[i]? = some b ∧ ∃ a z, ys[i]? = some (.ref a) ∧ H2 a = some (.tup [.str z, .ref b]) ∧ H2 b = some (.tup (k.2.map V.str)) ∧ decide (z = wClosed) = !k.1 := by
      refine pick_all (P := fun i k b => ∃ a z, ys[i]? = some (.ref a) ∧ H2 a = some (.tup [.str z, .ref b]) ∧ H2 b = some (.tup (k.2.map V.str)) ∧ decide (z = wClosed) = !k.1) ss fun i k e => ?_
      have hi : i < ys.length := by
        rw [ln]
        exact (List.getElem?_eq_some_iff.mp e).1
      obtain ⟨k', z, a, b, e1, e2, e3, e4, e5⟩ := sd i _ (List.getElem?_eq_getElem hi)
      rw [e] at e1
      cases e1
      exact ⟨b, a, z, (List.getElem?_eq_getElem hi).trans (congrArg some e2), e3, e4, e5⟩
    clear sd
    obtain ⟨bs, lb, hb⟩ := ad
    have lz : (ss.zip bs).length = ys.length := by rw [List.length_zip, lb, ln, Nat.min_self]
    -- what is chosen, by a test
    let G : Bool → (Bool × List Str) × Addr → Option V := fun t p => if p.1.1 = t then some (.ref p.2) else none
    have chosen : ∀ (t : Bool) (H3 : Hp), Same H2 H3 → FrA H3 ((ss.zip bs).filterMap (G t)) (ss.filterMap fun p => if p.1 = t then some p.2 else none) := by
      intro t H3 s3
      have : ∀ (ss : List (Bool × List Str)) (bs : List Addr), bs.length = ss.length → (∀ (i : Nat) k, ss[i]? = some k → ∃ b, bs[i]? = some b ∧ H3 b = some (.tup (k.2.map V.str))) → FrA H3 ((ss.zip bs).filterMap (G t)) (ss.filterMap fun p => if p.1 = t then some p.2 else none) := by
        intro ss
        induction ss with
        | nil => intro bs _ _; exact .nil
        | cons k ss ih =>
          intro bs lb h
          cases bs with
          | nil => cases lb
          | cons b bs =>
            have h0 := h 0 k rfl
            obtain ⟨b', e1, e2⟩ := h0
            cases e1
            have tl := ih bs (by simpa using lb) fun i k e => h (i + 1) k e
            rw [List.zip_cons_cons, List.filterMap_cons, List.filterMap_cons]
            by_cases ht : k.1 = t
            · simp only [G, if_pos ht]
              exact .cons e2 tl
            · simp only [G, if_neg ht]
              exact tl
      refine this ss bs lb fun i k e => ?_
      obtain ⟨b, e1, a, z, e2, e3, e4, e5⟩ := hb i k e
      exact ⟨b, e1, s3 _ _ e4⟩
    have step : ∀ (t : Bool) (i : Nat) (x : V) (H3 : Hp), i < ys.length → Same H2 H3 → ys[i]? = some x → ∃ (a b : Addr) (z : Str), x = .ref a ∧ SqT K H3 a [.str z, .ref b] ∧ ((ss.zip bs)[i]?.bind (G t)) = if decide (z = wClosed) = !t then some (.ref b) else none := by
      intro t i x H3 hi s3 e
      have hk : ss[i]? = some ss[i] := List.getElem?_eq_getElem (by omega)
      obtain ⟨b, e1, a, z, e2, e3, e4, e5⟩ := hb i _ hk
      rw [e] at e2
      cases e2
      refine ⟨a, b, z, rfl, sqt_of (s3 _ _ e3), ?_⟩
      have ez : (ss.zip bs)[i]? = some (ss[i], b) := by rw [List.getElem?_zip_eq_some]; exact ⟨hk, e1⟩
      rw [ez, Option.bind_some, e5]
      show (if (ss[i]).1 = t then some (V.ref b) else none) = _
      cases (ss[i]).1 <;> cases t <;> rfl
    refine lc_sel walk_list (fun i => (ss.zip bs)[i]?.bind (G true)) (sz100 (by omega)) (fun H' s => sql_of (s _ _ f2)) ?_ ?_
    · rintro i x H3 H4 hi hS ⟨e4, hx⟩ R N hR hN
      subst e4
      obtain ⟨a', b', z', rfl, hq, hf⟩ := step true i x H4 hi hS hx
      walk_at "rdx"
      refine ⟨_, hq, rfl, _, _, rfl, _, _, rfl, rfl, rfl, ?_⟩
      rw [hf] at hR hN
      have ed : decide (V.str z' = V.str (Str.ofString "closed")) = decide (z' = wClosed) := by simp
      rw [ed]
      cases hz : decide (z' = wClosed)
      · rw [hz] at hR
        exact iteP rfl (hR _ _ (if_pos rfl) (Same.refl _))
      · rw [hz] at hN
        exact iteN (by simp) (hN _ (if_neg (by simp)) (Same.refl _))
    intro H3 D3 s3 hD3 hL3
    rw [← lz, range_fm] at hL3
    refine ⟨⟨_, sql_of (s3 _ _ f2)⟩, ?_⟩
    refine lc_sel walk_list (fun i => (ss.zip bs)[i]?.bind (G false)) (sz100 (by omega)) (fun H' s => sql_of (s _ _ (s3 _ _ f2))) ?_ ?_
    · rintro i x H5 H4 hi hS ⟨e4, hx⟩ R N hR hN
      subst e4
      obtain ⟨a', b', z', rfl, hq, hf⟩ := step false i x H4 hi (s3.trans hS) hx
      walk_at "rdx"
      refine ⟨_, hq, rfl, _, _, rfl, _, _, rfl, rfl, rfl, ?_⟩
      rw [hf] at hR hN
      have ed : decide (V.str z' = V.str (Str.ofString "closed")) = decide (z' = wClosed) := by simp
      rw [ed]
      cases hz : decide (z' = wClosed)
      · rw [hz] at hN
        exact iteN (by simp) (hN _ (if_neg (by simp)) (Same.refl _))
      · rw [hz] at hR
        exact iteP rfl (hR _ _ (if_pos rfl) (Same.refl _))
    intro H5 D5 s5 hD5 hL5
    rw [← lz, range_fm] at hL5
    refine ⟨by decide, fun p6 hp6 => ?_⟩
    have s6 := same_new (o := .tup [V.ref D3, V.ref D5]) hp6
    have f6 : upd H5 p6 (.tup [V.ref D3, V.ref D5]) p6 = some (.tup [V.ref D3, V.ref D5]) := upd_same
    generalize upd H5 p6 (.tup [V.ref D3, V.ref D5]) = H6 at *
    refine q H6 p6 D3 D5 _ _ ((((s1.trans s2).trans s3).trans s5).trans s6) f6 (s6 _ _ (s5 _ _ hL3)) (s6 _ _ hL5) ?_ ?_
    · exact chosen true H6 ((s3.trans s5).trans s6)
    · have e : typesOf ss = ss.filterMap fun p => if p.1 = false then some p.2 else none := by
        unfold typesOf
        congr 1
        funext p
        cases p.1 <;> rfl
      rw [e]
      exact chosen false H6 ((s3.trans s5).trans s6)
def sidesK (c : Cv) : List (Bool × List Str) := [(decide (c.kd ≠ .closed), c.lf), (decide (c.kd = .open_), c.rt)]
/-- the conversion c at a -/
def cvA (H : Hp) (a : Addr) (c : Cv) : Prop := ∃ l r, H a = some (.tup [.str (wK c.kd), .ref l, .ref r, .int c.rk]) ∧ H l = some (.tup (c.lf.map V.str)) ∧ H r = some (.tup (c.rt.map V.str))
theorem cvA.same {H H' : Hp} {a : Addr} {c : Cv} (h : cvA H a c) (s : Same H H') : cvA H' a c := let ⟨l, r, h1, h2, h3⟩ := h; ⟨l, r, s _ _ h1, s _ _ h2, s _ _ h3⟩
def sp_names_in_conversion : Sp := fun vs H Q _ => ∃ (a : Addr) (c : Cv), vs = [.ref a] ∧ cvA H a c ∧ ∀ H' p f t fs ts, Same H H' → H' p = some (.tup [.ref f, .ref t]) → H' f = some (.lst fs) → H' t = some (.lst ts) → FrA H' fs (frontsOf (sidesK c)) → FrA H' ts (typesOf (sidesK c)) → Q (.ref p) H'
theorem ok_names_in_conversion (T : Tx K mg) : FnOk P w K mg base CX0 1 T.f_names_in_conversion T.d_names_in_conversion ["conversion"] sp_names_in_conversion := by
  refine T.F_names_in_conversion.ok sc_names_in_conversion (fun vs H Q E h => ?_) (fun cdv A outer s H vs Q E hr h => ?_)
  · obtain ⟨a, c, rfl, _⟩ := h
    rfl
  · obtain ⟨a, c, rfl, ⟨l, r, h1, h2, h3⟩, q⟩ := h
    refine ⟨_, (pss_cons (ps_asg (pv 0) (pg_tup (n := 4) rfl (pgs_cons (pg_name (i := 1) sc_names_in_conversion.nd rfl (Or.inl rfl)) (pgs_cons (pg_name (i := 2) sc_names_in_conversion.nd rfl (Or.inl rfl)) (pgs_cons (pg_name (i := 3) sc_names_in_conversion.nd rfl (Or.inl rfl)) (pgs_cons (pg_name (i := 4) sc_names_in_conversion.nd rfl (Or.inl rfl)) pgs_nil))))))
      (pss_cons (ps_set (i := 5) sc_names_in_conversion.nd rfl (Or.inl rfl) (pe_op op_cat (pe_op op_repB (pe_lst (pa_cons (pv 2) pa_nil)) (pe_cmpR op_ne (pv 1) pe_str (nomark _))) (pe_op op_repB (pe_lst (pa_cons (pv 3) pa_nil)) (pe_cmpR op_eq (pv 1) pe_str (nomark _)))))
      (pss_one (ps_ret (pe_tup (pa_cons (pv 5) (pa_cons (pe_op op_cat (pe_op op_repB (pe_lst (pa_cons (pv 2) pa_nil)) (pe_cmpR op_eq (pv 1) pe_str (nomark _))) (pe_op op_repB (pe_lst (pa_cons (pv 3) pa_nil)) (pe_cmpR op_ne (pv 1) pe_str (nomark _)))) pa_nil))))))), ?_⟩
    walk_at "rd"
    walk_at "rdx"
    refine ⟨_, sqt_of h1, rfl, _, _, rfl, _, _, rfl, _, _, rfl, _, _, rfl, rfl, by decide, fun p1 hp1 => ⟨rfl, ?_⟩⟩
    have s1 := same_new (o := .lst [V.ref l]) hp1
    have f1 : upd H p1 (.lst [V.ref l]) p1 = some (.lst [V.ref l]) := upd_same
    generalize upd H p1 (.lst [V.ref l]) = H1 at *
    refine repB f1 fun p2 H2 s2 f2 => ⟨by decide, fun p3 hp3 => ⟨rfl, ?_⟩⟩
    have s3 := same_new (o := .lst [V.ref r]) hp3
    have f3 : upd H2 p3 (.lst [V.ref r]) p3 = some (.lst [V.ref r]) := upd_same
    generalize upd H2 p3 (.lst [V.ref r]) = H3 at *
    refine repB f3 fun p4 H4 s4 f4 => catL (s4 _ _ (s3 _ _ f2)) f4 (by simp only [apply_ite List.length, List.length_cons, List.length_nil]; split <;> split <;> decide) fun p5 H5 s5 f5 => ⟨by decide, fun p6 hp6 => ⟨rfl, ?_⟩⟩
    have s6 := same_new (o := .lst [V.ref l]) hp6
    have f6 : upd H5 p6 (.lst [V.ref l]) p6 = some (.lst [V.ref l]) := upd_same
    generalize upd H5 p6 (.lst [V.ref l]) = H6 at *
    refine repB f6 fun p7 H7 s7 f7 => ⟨by decide, fun p8 hp8 => ⟨rfl, ?_⟩⟩
    have s8 := same_new (o := .lst [V.ref r]) hp8
    have f8 : upd H7 p8 (.lst [V.ref r]) p8 = some (.lst [V.ref r]) := upd_same
    generalize upd H7 p8 (.lst [V.ref r]) = H8 at *
    refine repB f8 fun p9 H9 s9 f9 => catL (s9 _ _ (s8 _ _ f7)) f9 (by simp only [apply_ite List.length, List.length_cons, List.length_nil]; split <;> split <;> decide) fun p10 H10 s10 f10 => ⟨by decide, fun p11 hp11 => ?_⟩
    have s11 := same_new (o := .tup [V.ref p5, V.ref p10]) hp11
    have f11 : upd H10 p11 (.tup [V.ref p5, V.ref p10]) p11 = some (.tup [V.ref p5, V.ref p10]) := upd_same
    generalize upd H10 p11 (.tup [V.ref p5, V.ref p10]) = H11 at *
    have s5e := ((((s6.trans s7).trans s8).trans s9).trans s10).trans s11
    have sA := ((((s1.trans s2).trans s3).trans s4).trans s5).trans s5e
    refine q H11 p11 p5 p10 _ _ sA f11 (s5e _ _ f5) (s11 _ _ f10) ?_ ?_
    · rw [eC, eO]
      obtain ⟨k, lf, rt, rk⟩ := c
      cases k
      · exact .nil
      · exact .cons (sA _ _ h2) (.cons (sA _ _ h3) .nil)
      · exact .cons (sA _ _ h2) .nil
    · rw [eC, eO]
      obtain ⟨k, lf, rt, rk⟩ := c
      cases k
      · exact .cons (sA _ _ h2) (.cons (sA _ _ h3) .nil)
      · exact .nil
      · exact .cons (sA _ _ h3) .nil
end

local macro_rules | `(tactic| walk_at "rdx") => `(tactic| ((try simp only [tFld, gTup, gStar, tJs, tFmt, sFld]); try walk_at "rd"))
section
variable {w : World} {K : PySem.W.Frag} {mg : Str → Option Value} {base : Heap}
/-- conversions and candidates -/
inductive Itm where
  | cv (c : Cv)
  | cd (c : Cd)
def cvOk (c : Cv) : Bool := (decide (1 ≤ c.rk) && decide (c.rk ≤ 9)) && sidesV c.kd true true (c.lf.map V.str) (c.rt.map V.str)
def sidesI : Itm → List (Bool × List Str)
  | .cv c => sidesK c
  | .cd c => sidesC c
def ItmOk : Itm → Prop
  | .cv c => cvOk c = true
  | .cd c => CdOk c
def ItmA (H : Hp) (C a : Addr) : Itm → Prop
  | .cv c => cvA H a c
  | .cd c => Cnd H C a c
theorem ItmA.same {H H' : Hp} {C a : Addr} {it : Itm} (h : ItmA H C a it) (s : Same H H') : ItmA H' C a it := by
  cases it with
  | cv c => exact cvA.same h s
  | cd c => exact Cnd.same h s
/-- a side: its names, how many there may be -/
def sdOk (p : Bool × List Str) : Prop := (∀ w ∈ p.2, isNm w = true) ∧ p.2.length ≤ 5 ∧ (p.1 = false → p.2 ≠ [])
theorem sd_names {o : Bool} {ws : List Str} {lo hi : Int} (h : namesV (ws.map V.str) lo hi = true) (h1 : hi ≤ 5) (h2 : o = false → 1 ≤ lo) : sdOk (o, ws) := by
  obtain ⟨a, b, c⟩ := names_of h
  refine ⟨a, by show ws.length ≤ 5; omega, fun e z => ?_⟩
  have := h2 e
  rw [show ws = [] from z] at b
  simp at b
  omega
theorem sides_ok {it : Itm} (ok : ItmOk it) : (sidesI it).length ≤ 4 ∧ ∀ p ∈ sidesI it, sdOk p := by
  cases it with
  | cv c =>
    have ok : cvOk c = true := ok
    unfold cvOk at ok
    rw [Bool.and_eq_true] at ok
    obtain ⟨k, lf, rt, rk⟩ := c
    have h := ok.2
    refine ⟨(show 2 ≤ 4 by decide), fun p hp => ?_⟩
    rcases List.mem_cons.mp (show p ∈ [(decide (k ≠ .closed), lf), (decide (k = .open_), rt)] from hp) with rfl | hp
    · cases k <;> simp only [sidesV, Bool.true_and, Bool.and_eq_true] at h <;> exact sd_names h.1 (by decide) (by decide)
    · cases List.mem_singleton.mp hp
      cases k <;> simp only [sidesV, Bool.true_and, Bool.and_eq_true] at h
      · exact sd_names h.2.1 (by decide) (by decide)
      · exact sd_names h.2.1 (by decide) (by decide)
      · exact sd_names h.2 (by decide) (by decide)
  | cd c =>
    have ok : CdOk c := ok
    have hi := ok.hi
    refine ⟨by show (c.ps ++ [_]).length ≤ 4; simp; omega, fun p hp => ?_⟩
    rcases List.mem_append.mp (show p ∈ c.ps ++ [_] from hp) with hp | hp
    · have := ok.pt p hp
      obtain ⟨o, ws⟩ := p
      unfold ptOk at this
      cases o
      · exact sd_names this (by decide) (by decide)
      · exact sd_names this (by decide) (by decide)
    · cases List.mem_singleton.mp hp
      have := ok.rs
      unfold rsOk at this
      split at this
      · rename_i e
        rw [e]
        exact sd_names this (by decide) (by decide)
      · rename_i m e
        rw [e]
        rw [Bool.and_eq_true] at this
        exact sd_names this.1 (by decide) (fun z => nomatch z)
theorem fr_mem {ss : List (Bool × List Str)} {ws : List Str} (h : ws ∈ frontsOf ss) : (true, ws) ∈ ss := by
  obtain ⟨p, hp, e⟩ := List.mem_filterMap.mp h
  obtain ⟨o, us⟩ := p
  cases o
  · cases e
  · cases e
    exact hp
theorem ty_mem {ss : List (Bool × List Str)} {ws : List Str} (h : ws ∈ typesOf ss) : (false, ws) ∈ ss := by
  obtain ⟨p, hp, e⟩ := List.mem_filterMap.mp h
  obtain ⟨o, us⟩ := p
  cases o
  · cases e
    exact hp
  · cases e
theorem flat_le {α : Type} {k n : Nat} {f : List α → List α} : ∀ {l : List (List α)}, l.length ≤ n → (∀ ws ∈ l, (f ws).length ≤ k) → (l.flatMap f).length ≤ n * k
  | [], _, _ => Nat.zero_le _
  | x :: l, hl, h => by
    cases n with
    | zero => cases hl
    | succ n =>
      rw [List.flatMap_cons, List.length_append, Nat.succ_mul]
      have h1 := flat_le (n := n) (f := f) (l := l) (Nat.le_of_succ_le_succ hl) fun ws hw => h ws (.tail _ hw)
      have h2 := h x (.head _)
      omega
def mksS (ss : List (Bool × List Str)) : List Str := (frontsOf ss).flatten ++ (typesOf ss).flatMap List.dropLast
def bssS (ss : List (Bool × List Str)) : List Str := (typesOf ss).map fun ws => ws.getLast?.getD Str.empty
def mksI (it : Itm) : List Str := mksS (sidesI it)
def bssI (it : Itm) : List Str := bssS (sidesI it)
def sp_names_in (C : Addr) : Sp := fun vs H Q _ => ∃ (a : Addr) (it : Itm), vs = [.ref a] ∧ ItmA H C a it ∧ ItmOk it ∧ ∀ H' p m b, Same H H' → H' p = some (.tup [.ref m, .ref b]) → H' m = some (.lst ((mksI it).map V.str)) → H' b = some (.lst ((bssI it).map V.str)) → Q (.ref p) H'
theorem ok_names_in (T : Tx K mg) : FnOk P w K mg base CX0 2 T.f_names_in T.d_names_in ["item"] (sp_names_in T.C_Candidate) := by
  refine T.F_names_in.ok sc_names_in (fun vs H Q E h => ?_) (fun cdv A outer s H vs Q E hr h => ?_)
  · obtain ⟨a, it, rfl, _⟩ := h
    rfl
  · obtain ⟨a, it, rfl, ha, ok, q⟩ := h
    refine ⟨_, (pss_cons (ps_asg (pe_ifExp (pt_val (pe_callB call_isi (by rfl) T.n_isinstance (by decide +kernel) (pa_cons (pv 0) (pa_cons (pe_glob (v := .ref T.C_Candidate) (by rfl) T.m_Candidate rfl) pa_nil)))) (pe_call (ok_names_in_candidate T) (hr.mono (by decide)) (by rfl) T.g_names_in_candidate T.F_names_in_candidate.kp T.b_names_in_candidate .nil pass0 (pa_cons (pv 0) pa_nil)) (pe_call (ok_names_in_conversion T) (hr.mono (by decide)) (by rfl) T.g_names_in_conversion T.F_names_in_conversion.kp T.b_names_in_conversion .nil pass0 (pa_cons (pv 0) pa_nil))) (pg_tup (n := 2) rfl (pgs_cons (pg_name (i := 1) sc_names_in.nd rfl (Or.inl rfl)) (pgs_cons (pg_name (i := 2) sc_names_in.nd rfl (Or.inl rfl)) pgs_nil))))
      (pss_cons (ps_set (i := 3) sc_names_in.nd rfl (Or.inl rfl) (pe_op op_cat (pe_lc2 (own := [("front", 4), ("mark", 5)]) (vs1 := [5]) (g := gName 4) (g1 := gName 5) (by rfl) sc_names_in.nd (pi_list (pv 1)) (blkOk_by (own := [("front", 4), ("mark", 5)]) (N := ["item", "fronts", "types", "marks", "front", "mark", "names"]) (sc := defScope s_names_in) (by decide +kernel)) (by decide) (fun _ _ _ _ _ => (pg_name (i := 4) sc_names_in.nd rfl (Or.inl rfl))) (fun _ _ _ _ _ => pts_nil) (fun _ _ _ _ _ => ((pi_tup (pv 4)) : PI _ _ _ (iTup K _))) (fun _ _ _ _ _ => (pg_name (i := 5) sc_names_in.nd rfl (Or.inl rfl))) (fun _ _ _ _ _ => pts_nil) (fun _ _ _ _ _ => (pv 5))) (pe_lc2 (own := [("names", 6), ("mark", 5)]) (vs1 := [5]) (g := gName 6) (g1 := gName 5) (by rfl) sc_names_in.nd (pi_list (pv 2)) (blkOk_by (own := [("names", 6), ("mark", 5)]) (N := ["item", "fronts", "types", "marks", "front", "mark", "names"]) (sc := defScope s_names_in) (by decide +kernel)) (by decide) (fun _ _ _ _ _ => (pg_name (i := 6) sc_names_in.nd rfl (Or.inl rfl))) (fun _ _ _ _ _ => pts_nil) (fun _ _ _ _ _ => ((pi_tup (pe_slice (sl_tupA : SlR _ (rSlA K)) (pv 6) po_none (po_some (pe_un un_neg pe_int)))) : PI _ _ _ (iTup K _))) (fun _ _ _ _ _ => (pg_name (i := 5) sc_names_in.nd rfl (Or.inl rfl))) (fun _ _ _ _ _ => pts_nil) (fun _ _ _ _ _ => (pv 5)))))
      (pss_one (ps_ret (pe_tup (pa_cons (pv 3) (pa_cons (pe_lc (own := [("names", 6)]) (g := gName 6) (by rfl) sc_names_in.nd (pi_list (pv 2)) (blkOk_by (own := [("names", 6)]) (N := ["item", "fronts", "types", "marks", "front", "mark", "names"]) (sc := defScope s_names_in) (by decide +kernel)) (fun _ _ _ _ _ => (pg_name (i := 6) sc_names_in.nd rfl (Or.inl rfl))) (fun _ _ _ _ _ => pts_nil) (fun _ _ _ _ _ => (pe_ix (ix_tup : IxR _ (rIxT K)) (pv 6) (pe_un un_neg pe_int) (fun _ _ => rfl)))) pa_nil))))))), ?_⟩
    obtain ⟨s4, sk⟩ := sides_ok ok
    refine seqN fun N hN => ?_
    have main : ∀ H1 p f t fs ts, Same H H1 → H1 p = some (.tup [.ref f, .ref t]) → H1 f = some (.lst fs) → H1 t = some (.lst ts) → FrA H1 fs (frontsOf (sidesI it)) → FrA H1 ts (typesOf (sidesI it)) → N [some (V.ref a), some (V.ref f), some (V.ref t), none, none, none, none] H1 := by
      intro H1 p f t fs ts s1 _ hf ht ff ft
      have nf : (frontsOf (sidesI it)).length ≤ 4 := Nat.le_trans (List.length_filterMap_le ..) s4
      have nt : (typesOf (sidesI it)).length ≤ 4 := Nat.le_trans (List.length_filterMap_le ..) s4
      have bf : ∀ ws ∈ frontsOf (sidesI it), ws.length ≤ 5 := fun ws h => (sk _ (fr_mem h)).2.1
      have bt : ∀ ws ∈ typesOf (sidesI it), ws.length ≤ 5 ∧ ws ≠ [] := fun ws h => ⟨(sk _ (ty_mem h)).2.1, (sk _ (ty_mem h)).2.2 rfl⟩
      refine hN _ _ ?_
      unfold mksI bssI mksS bssS at q
      generalize frontsOf (sidesI it) = F at *
      generalize typesOf (sidesI it) = Y at *
      have zf : (F.flatMap id).length ≤ 20 := flat_le (k := 5) nf fun ws h => bf ws h
      have zt : (Y.flatMap List.dropLast).length ≤ 20 := flat_le (k := 5) nt fun ws h => by rw [List.length_dropLast]; have := (bt ws h).1; omega
      walk_at "rd"
      simp only [tLc2_eq]
      walk_at "rd"
      refine ⟨⟨_, sql_of hf⟩, lc2_words (f := id) hf ff (small1000 (by omega)) (fun _ => rfl) (fun _ _ => rfl) (fun _ _ => rfl) (fun H2 b ws R _ hb r => ⟨_, rfl, r b H2 (Same.refl _) hb⟩) fun D2 H2 s2 h2 => ?_⟩
      refine ⟨⟨_, sql_of (s2 _ _ ht)⟩, lc2_words (f := List.dropLast) (s2 _ _ ht) (ft.same s2) (small1000 (by omega)) (fun _ => rfl) (fun _ _ => rfl) (fun _ _ => rfl) (fun H3 b ws R hw hb r => ?_) fun D3 H3 s3 h3 => ?_⟩
      · walk_at "rd"
        refine slT hb fun p4 H4 s4 hp4 => r _ _ s4 ?_
        rw [hp4, cut_last, List.map_dropLast]
      · refine catL (s3 _ _ h2) h3 (by rw [List.length_map, List.length_map]; omega) fun p4 H4 s4' h4 => ?_
        refine ⟨⟨_, sql_of (s4' _ _ (s3 _ _ (s2 _ _ ht)))⟩, lc_same walk_list (fun i => .str ((Y[i]?.map fun ws => ws.getLast?.getD Str.empty).getD Str.empty)) (sz100 (by rw [ft.1]; omega)) (fun H' s => sql_of (s _ _ (s4' _ _ (s3 _ _ (s2 _ _ ht))))) ?_ mono_name mono_yes ?_⟩
        · rintro i x H5 H6 hi hS ⟨rfl, hx⟩ R hR
          have hiy : i < Y.length := by rw [← ft.1]; exact hi
          have hY : Y[i]? = some Y[i] := List.getElem?_eq_getElem hiy
          have hm : Y[i] ∈ Y := List.getElem_mem _
          obtain ⟨b, e1, e2⟩ := ft.2 i _ hY
          rw [hx] at e1
          cases e1
          rw [hY] at hR
          generalize Y[i] = ws at *
          have e3 := hS _ _ (s4' _ _ (s3 _ _ (s2 _ _ e2)))
          obtain ⟨z, hz⟩ : ∃ z, ws.getLast? = some z := by
            cases ws with
            | nil => exact absurd rfl (bt _ hm).2
            | cons x ws => exact ⟨_, List.getLast?_cons ..⟩
          walk_at "rd"
          have hR' := hR H6 (Same.refl _)
          simp only [Option.map_some, Option.getD_some, hz] at hR'
          refine ⟨_, _, _, _, rfl, rfl, sqt_of e3, ?_, hR'⟩
          rw [at_last (by simpa using (bt ws hm).2), List.getLast?_map, hz]
          rfl
        · intro H5 D5 s5 hD5 h5
          have e5 : ((List.range ts.length).map fun i => V.str ((Y[i]?.map fun ws => ws.getLast?.getD Str.empty).getD Str.empty)) = (Y.map fun ws => ws.getLast?.getD Str.empty).map V.str := by
            rw [ft.1, List.map_map]
            apply List.ext_getElem
            · simp
            · intro i h1 h2
              have h3 : i < Y.length := by simpa using h2
              simp [h3]
          rw [e5] at h5
          refine ⟨by decide, fun p6 hp6 => ?_⟩
          have s6 := same_new (o := .tup [V.ref p4, V.ref D5]) hp6
          have f6 : upd H5 p6 (.tup [V.ref p4, V.ref D5]) p6 = some (.tup [V.ref p4, V.ref D5]) := upd_same
          generalize upd H5 p6 (.tup [V.ref p4, V.ref D5]) = H6 at *
          refine q H6 p6 p4 D5 (((((s1.trans s2).trans s3).trans s4').trans s5).trans s6) f6 ?_ (s6 _ _ h5)
          rw [s6 _ _ (s5 _ _ h4), ← List.map_append, List.flatMap_id]
    cases it with
    | cv c =>
      walk_at "rd"
      walk_at "rdx"
      obtain ⟨l, r, h1, h2, h3⟩ := id (show cvA H a c from ha)
      refine ⟨_, _, _, _, false, rfl, .own _, .base (.tup h1), T.zt_Candidate, ?_⟩
      walk_at "rd"
      refine ⟨a, c, rfl, ha, fun H1 p f t fs ts s1 hp hf ht ff ft => ⟨_, rfl, _, sqt_of hp, rfl, _, _, rfl, _, _, rfl, rfl, main H1 p f t fs ts s1 hp hf ht ff ft⟩⟩
    | cd c =>
      walk_at "rd"
      walk_at "rdx"
      obtain ⟨dx, pa, ra, ka, fs, hc⟩ := id (show Cnd H T.C_Candidate a c from ha)
      refine ⟨_, _, _, _, true, rfl, .own _, T.tyC hc.at_, kit_same, ?_⟩
      walk_at "rd"
      refine ⟨a, c, rfl, ha, ok, fun H1 p f t fs ts s1 hp hf ht ff ft => ⟨_, rfl, _, sqt_of hp, rfl, _, _, rfl, _, _, rfl, rfl, main H1 p f t fs ts s1 hp hf ht ff ft⟩⟩
end

local macro_rules | `(tactic| walk_at "rdx") => `(tactic| ((try simp only [tFld, gTup, gStar, tJs, tFmt, sFld, tSc_eq]); try walk_at "rd"))
section
variable {w : World} {K : PySem.W.Frag} {mg : Str → Option Value} {base : Heap}
theorem ty_sqt {H : Hp} {a : Addr} {xs : List V} (h : SqT K H a xs) : TyX K H (.ref a) (.type "tuple") := by
  rcases h with (h | ⟨u, h⟩) | ⟨o, its, n, h1, h2, _⟩
  · exact .base (.tup h)
  · exact .fTuple h
  · exact .kTuple h1 h2
theorem isi_sqt {H : Hp} {a : Addr} {xs : List V} {Q : VK} (h : SqT K H a xs) (q : Q (.bl true) H) : rIsi K [.ref a, .ty "tuple"] H Q := ⟨_, .ty "tuple", _, .type "tuple", true, rfl, .ty _, ty_sqt h, kit_ty (by decide +kernel), q⟩
/-- the keys of conversions and candidates -/
def wordsK (ws : List Str) : NestedKey := .tup (ws.map .text)
def cvK (c : Cv) : NestedKey := .tup [.text (wK c.kd), wordsK c.lf, wordsK c.rt]
def ptK (p : Bool × List Str) : NestedKey := .tup [.text (if p.1 then wOpen else wClosed), wordsK p.2]
def cdK (c : Cd) : NestedKey := .tup [.text c.nm, .tup (c.ps.map ptK)]
theorem nk_words {H : Hp} {b : Addr} {ws : List Str} (h : H b = some (.tup (ws.map V.str))) : NkV K H (wordsK ws) (.ref b) := by
  refine .tup (sqt_of h) ?_
  clear h
  induction ws with
  | nil => exact .nil
  | cons w ws ih => exact .cons (.str w) ih
theorem nk_pt {H : Hp} {a : Addr} {p : Bool × List Str} (h : ptA H a p.1 p.2) : NkV K H (ptK p) (.ref a) := by
  obtain ⟨b, h1, h2⟩ := h
  exact .tup (sqt_of h1) (.cons (.str _) (.cons (nk_words h2) .nil))
theorem nk_pts {H : Hp} {a : Addr} {ps : List (Bool × List Str)} (h : ptsA H a ps) : NkV K H (.tup (ps.map ptK)) (.ref a) := by
  obtain ⟨xs, h1, h2, h3⟩ := h
  refine .tup (sqt_of h1) ?_
  clear h1
  induction ps generalizing xs with
  | nil =>
    cases xs with
    | nil => exact .nil
    | cons => cases h2
  | cons p ps ih =>
    cases xs with
    | nil => cases h2
    | cons x xs =>
      obtain ⟨b, e1, e2⟩ := h3 0 p rfl
      cases e1
      exact .cons (nk_pt e2) (ih xs (by simpa using h2) fun i p e => h3 (i + 1) p e)
theorem dep_all {ks : List NestedKey} {n : Nat} (h : ∀ k ∈ ks, k.depth ≤ n) : NestedKey.depthAll ks ≤ n := by
  induction ks with
  | nil => exact Nat.zero_le _
  | cons k ks ih =>
    show max k.depth (NestedKey.depthAll ks) ≤ n
    have h1 := h k (.head _)
    have h2 := ih fun k hk => h k (.tail _ hk)
    omega
theorem dep_tup {ks : List NestedKey} {n : Nat} (h : ∀ k ∈ ks, k.depth ≤ n) : (NestedKey.tup ks).depth ≤ n + 1 := by
  show NestedKey.depthAll ks + 1 ≤ n + 1
  have := dep_all h
  omega
theorem dep_words {ws : List Str} : (wordsK ws).depth ≤ 1 := dep_tup fun k hk => by
  obtain ⟨w, _, rfl⟩ := List.mem_map.mp hk
  exact Nat.le_refl _
theorem dep_cv {c : Cv} : (cvK c).depth ≤ 8 := Nat.le_trans (dep_tup (n := 1) fun k hk => by
  simp only [List.mem_cons, List.not_mem_nil, or_false] at hk
  rcases hk with rfl | rfl | rfl
  · exact Nat.zero_le _
  · exact dep_words
  · exact dep_words) (by decide)
theorem dep_cd {c : Cd} : (cdK c).depth ≤ 8 := Nat.le_trans (dep_tup (n := 3) fun k hk => by
  simp only [List.mem_cons, List.not_mem_nil, or_false] at hk
  rcases hk with rfl | rfl
  · exact Nat.zero_le _
  · refine dep_tup (n := 2) fun k hk => ?_
    obtain ⟨p, _, rfl⟩ := List.mem_map.mp hk
    refine dep_tup (n := 1) fun k hk => ?_
    simp only [List.mem_cons, List.not_mem_nil, or_false] at hk
    rcases hk with rfl | rfl
    · exact Nat.zero_le _
    · exact dep_words) (by decide)
/-- the conversions in the tuple at a -/
def CvsA (K : PySem.W.Frag) (H : Hp) (a : Addr) (cs : List Cv) : Prop := ∃ xs, SqT K H a xs ∧ xs.length = cs.length ∧ ∀ (i : Nat) c, cs[i]? = some c → ∃ b, xs[i]? = some (.ref b) ∧ cvA H b c
def CdsA (K : PySem.W.Frag) (C : Addr) (H : Hp) (a : Addr) (cs : List Cd) : Prop := ∃ xs, SqT K H a xs ∧ xs.length = cs.length ∧ ∀ (i : Nat) c, cs[i]? = some c → ∃ b, xs[i]? = some (.ref b) ∧ Cnd H C b c
theorem CvsA.same {H H' : Hp} {a : Addr} {cs : List Cv} (h : CvsA K H a cs) (s : Same H H') : CvsA K H' a cs := let ⟨xs, h1, h2, h3⟩ := h; ⟨xs, Evl.ex_t s h1, h2, fun i c e => let ⟨b, e1, e2⟩ := h3 i c e; ⟨b, e1, e2.same s⟩⟩
theorem CdsA.same {C : Addr} {H H' : Hp} {a : Addr} {cs : List Cd} (h : CdsA K C H a cs) (s : Same H H') : CdsA K C H' a cs := let ⟨xs, h1, h2, h3⟩ := h; ⟨xs, Evl.ex_t s h1, h2, fun i c e => let ⟨b, e1, e2⟩ := h3 i c e; ⟨b, e1, e2.same s⟩⟩
/-- whether v is a candidate -/
inductive CdIs (C : Addr) (H : Hp) : V → Bool → Prop
  | non : CdIs C H .non false
  | int (i : Int) : CdIs C H (.int i) false
  | str (z : Str) : CdIs C H (.str z) false
  | cd {a : Addr} {c : Cd} (h : Cnd H C a c) : CdIs C H (.ref a) true
theorem CdIs.same {C : Addr} {H H' : Hp} {v : V} {b : Bool} (h : CdIs C H v b) (s : Same H H') : CdIs C H' v b := by
  cases h with
  | non => exact .non
  | int i => exact .int i
  | str z => exact .str z
  | cd h => exact .cd (h.same s)
theorem CvIs.same {H H' : Hp} {v : V} {b : Bool} (h : CvIs H v b) (s : Same H H') : CvIs H' v b := by
  cases h with
  | oth k n => exact .oth (k.same s) n
  | len h n z => exact .len (s _ _ h) n z
  | rank h k n => exact .rank (s _ _ h) (k.same s) n
  | nostr h k k2 n => exact .nostr (s _ _ h) (k.same s) (k2.same s) n
  | word h k n => exact .word (s _ _ h) (k.same s) n
  | sides h k t1 t2 => exact .sides (s _ _ h) (k.same s) (Told.same t1 s) (Told.same t2 s)
theorem int_small9 {m : Nat} (h : m ≤ 9) : intV (.int m) = true := by
  match m, h with
  | 0, _ => decide +kernel
  | 1, _ => decide +kernel
  | 2, _ => decide +kernel
  | 3, _ => decide +kernel
  | 4, _ => decide +kernel
  | 5, _ => decide +kernel
  | 6, _ => decide +kernel
  | 7, _ => decide +kernel
  | 8, _ => decide +kernel
  | 9, _ => decide +kernel
theorem cvA.is {H : Hp} {a : Addr} {c : Cv} (h : cvA H a c) (ok : cvOk c = true) : CvIs H (.ref a) true := by
  have sd := (sides_ok (it := .cv c) ok).2
  obtain ⟨l, r, h1, h2, h3⟩ := h
  have n1 := (sd (decide (c.kd ≠ .closed), c.lf) (.head _)).1
  have n2 := (sd (decide (c.kd = .open_), c.rt) (.tail _ (.head _))).1
  have := CvIs.sides h1 (.int c.rk) (told_st h2 (nm_sz n1)) (told_st h3 (nm_sz n2))
  unfold cvOk at ok
  rw [Bool.and_eq_true, Bool.and_eq_true, decide_eq_true_eq, decide_eq_true_eq] at ok
  have e : inV3 (.int c.rk) 1 9 = true := by
    show (intV (.int c.rk) && (decide ((1 : Int) ≤ c.rk) && decide ((c.rk : Int) ≤ 9))) = true
    rw [int_small9 ok.1.2, decide_eq_true (by omega), decide_eq_true (by omega)]
    rfl
  rw [e, ok.2] at this
  exact this
theorem range_opt {α β : Type} (f : α → β) (d : β) (l : List α) : ((List.range l.length).map fun i => (l[i]?.map f).getD d) = l.map f := by
  apply List.ext_getElem
  · simp
  · intro i h1 h2
    have h3 : i < l.length := by simpa using h2
    simp [h3]
/-- whether v and u are conversions and candidates, without what may not be twice -/
inductive ItsIs (K : PySem.W.Frag) (C : Addr) (H : Hp) : V → V → Bool → Prop
  | notL {v u : V} {t : String} (k : Kn H v t) (n : t ≠ "tuple") : ItsIs K C H v u false
  | notR {a : Addr} {xs : List V} {u : V} {t : String} (h : SqT K H a xs) (k : Kn H u t) (n : t ≠ "tuple") : ItsIs K C H (.ref a) u false
  | many {a b : Addr} {xs ys : List V} (h : SqT K H a xs) (h' : SqT K H b ys) (n : ¬ (xs.length ≤ 16 ∧ ys.length ≤ 16)) : ItsIs K C H (.ref a) (.ref b) false
  | bad {a b : Addr} {xs ys : List V} {f g : Nat → Bool} (h : SqT K H a xs) (h' : SqT K H b ys) (l : xs.length ≤ 16) (l' : ys.length ≤ 16) (cv : ∀ i x, xs[i]? = some x → CvIs H x (f i)) (cd : ∀ i x, ys[i]? = some x → CdIs C H x (g i)) (n : ((List.range xs.length).all f && (List.range ys.length).all g) = false) : ItsIs K C H (.ref a) (.ref b) false
  | ok {a b : Addr} {cvs : List Cv} {cds : List Cd} (h : CvsA K H a cvs) (h' : CdsA K C H b cds) (l : cvs.length ≤ 16) (l' : cds.length ≤ 16) (o : ∀ c ∈ cvs, cvOk c = true) : ItsIs K C H (.ref a) (.ref b) (decide (cvs.map cvK).Nodup && decide (cds.map cdK).Nodup)
def sp_are_items (K : PySem.W.Frag) (C : Addr) : Sp := fun vs H Q _ => ∃ (v u : V) (b : Bool), vs = [v, u] ∧ ItsIs K C H v u b ∧ ∀ H', Same H H' → Q (.bl b) H'
theorem ok_are_items (T : Tx K mg) : FnOk P w K mg base CX0 4 T.f_are_items T.d_are_items ["conversions", "candidates"] (sp_are_items K T.C_Candidate) := by
  refine T.F_are_items.ok sc_are_items (fun vs H Q E h => ?_) (fun cdv A outer s H vs Q E hr h => ?_)
  · obtain ⟨v, u, b, rfl, _⟩ := h
    rfl
  · obtain ⟨v, u, b, rfl, k, q⟩ := h
    refine ⟨_, (pss_cons (ps_if (PW.pt (pw_or (pt_not (pt_val (pe_callB call_isi (by rfl) T.n_isinstance (by decide +kernel) (pa_cons (pv 0) (pa_cons (pe_bltn (v := .ty "tuple") (by rfl) T.n_tuple (by decide +kernel) rfl) pa_nil))))) (pw_or1 (pt_not (pt_val (pe_callB call_isi (by rfl) T.n_isinstance (by decide +kernel) (pa_cons (pv 1) (pa_cons (pe_bltn (v := .ty "tuple") (by rfl) T.n_tuple (by decide +kernel) rfl) pa_nil)))))))) (pss_one (ps_ret pe_bl)) pss_nil)
      (pss_cons (ps_if (PW.pt (pw_or (pt_cmpR op_gt (pe_callB call_lenQ (by rfl) T.n_len (by decide +kernel) (pa_cons (pv 0) pa_nil)) (pe_glob (v := .int (16)) (by rfl) T.m_MAX_CONVERSIONS ⟨_, rfl⟩) (nomark _)) (pw_or1 (pt_cmpR op_gt (pe_callB call_lenQ (by rfl) T.n_len (by decide +kernel) (pa_cons (pv 1) pa_nil)) (pe_glob (v := .int (16)) (by rfl) T.m_MAX_CANDIDATES ⟨_, rfl⟩) (nomark _))))) (pss_one (ps_ret pe_bl)) pss_nil)
      (pss_cons (ps_if (pt_not (pt_val (pe_callB (cr_all rfl) (by rfl) T.n_all (by decide +kernel) (pa_cons (pe_lc (own := [("one", 2)]) (g := gName 2) (by rfl) sc_are_items.nd (pi_tup (pv 0)) (blkOk_by (own := [("one", 2)]) (N := ["conversions", "candidates", "one"]) (sc := defScope s_are_items) (by decide +kernel)) (fun _ _ _ _ _ => (pg_name (i := 2) sc_are_items.nd rfl (Or.inl rfl))) (fun _ _ _ _ _ => pts_nil) (fun _ _ _ _ _ => (pe_call (ok_is_conversion T) (hr.mono (by decide)) (by rfl) T.g_is_conversion T.F_is_conversion.kp T.b_is_conversion .nil pass0 (pa_cons (pv 2) pa_nil)))) pa_nil)))) (pss_one (ps_ret pe_bl)) pss_nil)
      (pss_cons (ps_if (pt_not (pt_val (pe_callB (cr_all rfl) (by rfl) T.n_all (by decide +kernel) (pa_cons (pe_lc (own := [("one", 2)]) (g := gName 2) (by rfl) sc_are_items.nd (pi_tup (pv 1)) (blkOk_by (own := [("one", 2)]) (N := ["conversions", "candidates", "one"]) (sc := defScope s_are_items) (by decide +kernel)) (fun _ _ _ _ _ => (pg_name (i := 2) sc_are_items.nd rfl (Or.inl rfl))) (fun _ _ _ _ _ => pts_nil) (fun _ _ _ _ _ => (pe_callB (call_isi : CallR _ _ (rIsi K)) (by rfl) T.n_isinstance (by decide +kernel) (pa_cons (pv 2) (pa_cons (pe_glob (v := .ref T.C_Candidate) (by rfl) T.m_Candidate rfl) pa_nil))))) pa_nil)))) (pss_one (ps_ret pe_bl)) pss_nil)
      (pss_cons (ps_if (pt_cmpR op_ne (pe_callB (call_lenN : CallR _ _ (rLenN w)) (by rfl) T.n_len (by decide +kernel) (pa_cons (pe_scG (new := fun a => SetNO w a []) (Add := AddN K w) (fun _ _ => setNO_new _ _ _ _) (fun _ _ _ _ => addR_n (u16 hr.units)) (own := [("one", 2)]) (g := gName 2) (by rfl) sc_are_items.nd (pi_tup (pv 0)) (blkOk_by (own := [("one", 2)]) (N := ["conversions", "candidates", "one"]) (sc := defScope s_are_items) (by decide +kernel)) (fun _ _ _ _ _ => (pg_name (i := 2) sc_are_items.nd rfl (Or.inl rfl))) (fun _ _ _ _ _ => pts_nil) (fun _ _ _ _ _ => (pe_slice (sl_tupA : SlR _ (rSlA K)) (pv 2) po_none (po_some pe_int)))) pa_nil)) (pe_callB call_lenQ (by rfl) T.n_len (by decide +kernel) (pa_cons (pv 0) pa_nil)) (nomark _)) (pss_one (ps_ret pe_bl)) pss_nil)
      (pss_one (ps_ret (pe_cmpR op_eq (pe_callB (call_lenN : CallR _ _ (rLenN w)) (by rfl) T.n_len (by decide +kernel) (pa_cons (pe_scG (new := fun a => SetNO w a []) (Add := AddN K w) (fun _ _ => setNO_new _ _ _ _) (fun _ _ _ _ => addR_n (u16 hr.units)) (own := [("one", 2)]) (g := gName 2) (by rfl) sc_are_items.nd (pi_tup (pv 1)) (blkOk_by (own := [("one", 2)]) (N := ["conversions", "candidates", "one"]) (sc := defScope s_are_items) (by decide +kernel)) (fun _ _ _ _ _ => (pg_name (i := 2) sc_are_items.nd rfl (Or.inl rfl))) (fun _ _ _ _ _ => pts_nil) (fun _ _ _ _ _ => (pe_slice (sl_tupA : SlR _ (rSlA K)) (pe_fld (pv 2) rfl : PE _ _ (tFld K _ _)) po_none (po_some pe_int)))) pa_nil)) (pe_callB call_lenQ (by rfl) T.n_len (by decide +kernel) (pa_cons (pv 1) pa_nil)) (nomark _))))))))), ?_⟩
    refine seqN fun N1 hN1 => ?_
    walk_at "rdx"
    -- both are short tuples
    have main : ∀ (a b' : Addr) (xs ys : List V) (f g : Nat → Bool), v = .ref a → u = .ref b' → SqT K H a xs → SqT K H b' ys → xs.length ≤ 16 → ys.length ≤ 16 → (∀ (i : Nat) x, xs[i]? = some x → CvIs H x (f i)) → (∀ (i : Nat) x, ys[i]? = some x → CdIs T.C_Candidate H x (g i)) →
        ((((List.range xs.length).all f && (List.range ys.length).all g) = false ∧ b = false) ∨ (((List.range xs.length).all f && (List.range ys.length).all g) = true ∧ ∃ (cvs : List Cv) (cds : List Cd), CvsA K H a cvs ∧ CdsA K T.C_Candidate H b' cds ∧ cvs.length ≤ 16 ∧ cds.length ≤ 16 ∧ b = (decide (cvs.map cvK).Nodup && decide (cds.map cdK).Nodup))) →
        N1 [some v, some u, none] H := by
      rintro a b' xs ys f g rfl rfl hx hy lx ly cv cd fin
      refine hN1 _ _ ?_
      refine seqN fun N2 hN2 => ?_
      walk_at "rdx"
      refine lenT hx ⟨_, rfl, iteN (by simp; omega) (lenT hy ⟨_, rfl, iteN (by simp; omega) (hN2 _ _ ?_)⟩)⟩
      refine seqN fun N3 hN3 => ?_
      walk_at "rdx"
      refine ⟨⟨_, hx⟩, lc_same walk_tup (fun i => .bl (f i)) (sz100 (by omega)) (fun H' s => Evl.ex_t s hx) ?_ mono_name mono_yes ?_⟩
      · rintro i x H1 H2 hi' hS ⟨rfl, hx'⟩ R hR
        walk_at "rd"
        exact ⟨x, f i, rfl, (cv i x hx').same hS, hR⟩
      intro H3 D3 s3 hD3 hL3
      have e3 : ((List.range xs.length).map fun i => V.bl (f i)) = ((List.range xs.length).map f).map V.bl := by rw [List.map_map]; rfl
      rw [e3] at hL3
      refine ⟨D3, _, rfl, .inl (.inl hL3), ?_⟩
      rw [List.all_map, show (id ∘ f) = f from rfl]
      refine ⟨_, rfl, ite2 (fun h => ?_) (fun h => hN3 _ _ ?_)⟩
      · have hf : (List.range xs.length).all f = false := by simpa using h
        rcases fin with ⟨_, rfl⟩ | ⟨e, _⟩
        · exact q _ s3
        · rw [hf] at e
          cases e
      have hf : (List.range xs.length).all f = true := by simpa using h
      refine seqN fun N4 hN4 => ?_
      walk_at "rdx"
      refine ⟨⟨_, Evl.ex_t s3 hy⟩, lc_same walk_tup (fun i => .bl (g i)) (sz100 (by omega)) (fun H' s => Evl.ex_t s (Evl.ex_t s3 hy)) ?_ mono_name mono_yes ?_⟩
      · rintro i x H1 H2 hi' hS ⟨rfl, hx'⟩ R hR
        walk_at "rd"
        have c := (cd i x hx').same (s3.trans hS)
        generalize g i = gi at *
        cases c with
        | non => exact ⟨_, _, _, _, false, rfl, .own _, .base .non, T.zn_Candidate, hR _ (Same.refl _)⟩
        | int i => exact ⟨_, _, _, _, false, rfl, .own _, .base (.int i), T.zi_Candidate, hR _ (Same.refl _)⟩
        | str z => exact ⟨_, _, _, _, false, rfl, .own _, .base (.str z), T.zs_Candidate, hR _ (Same.refl _)⟩
        | cd h =>
          obtain ⟨dx, pa, ra, ka, fs, hc⟩ := h
          exact ⟨_, _, _, _, true, rfl, .own _, T.tyC hc.at_, kit_same, hR _ (Same.refl _)⟩
      intro H4 D4 s4 hD4 hL4
      have e4 : ((List.range ys.length).map fun i => V.bl (g i)) = ((List.range ys.length).map g).map V.bl := by rw [List.map_map]; rfl
      rw [e4] at hL4
      refine ⟨D4, _, rfl, .inl (.inl hL4), ?_⟩
      rw [List.all_map, show (id ∘ g) = g from rfl]
      rw [hf, Bool.true_and] at fin
      refine ⟨_, rfl, ite2 (fun h => ?_) (fun h => hN4 _ _ ?_)⟩
      · have hg : (List.range ys.length).all g = false := by simpa using h
        rcases fin with ⟨_, rfl⟩ | ⟨e, _⟩
        · exact q _ (s3.trans s4)
        · rw [hg] at e
          cases e
      have hg : (List.range ys.length).all g = true := by simpa using h
      rcases fin with ⟨e, _⟩ | ⟨_, cvs, cds, hcv, hcd, lv, ld, rfl⟩
      · rw [hg] at e
        cases e
      clear hf hg cv cd hL3 hL4 hx hy lx ly
      have s04 := s3.trans s4
      obtain ⟨xs', hx, lx, fx⟩ := hcv
      obtain ⟨ys', hy, ly, fy⟩ := hcd
      refine seqN fun N5 hN5 => ?_
      walk_at "rdx"
      walk_at "rdx"
      have ek : cvs.map cvK = (List.range xs'.length).map fun i => (cvs[i]?.map cvK).getD .none := by rw [lx, range_opt]
      have ed : cds.map cdK = (List.range ys'.length).map fun i => (cds[i]?.map cdK).getD .none := by rw [ly, range_opt]
      rw [ek, ed] at q
      refine ⟨⟨_, Evl.ex_t s04 hx⟩, sc_nest walk_tup (fun i => (cvs[i]?.map cvK).getD .none) (by omega) (fun H' s => Evl.ex_t s (Evl.ex_t s04 hx)) ?_ mono_name mono_yes ?_⟩
      · rintro i x H1 H2 hi' hS ⟨rfl, hx'⟩ R hR
        have hc : i < cvs.length := by omega
        obtain ⟨b, e1, l, r, h1, h2, h3⟩ := fx i _ (List.getElem?_eq_getElem hc)
        rw [hx'] at e1
        cases e1
        rw [List.getElem?_eq_getElem hc] at hR
        generalize cvs[i] = c at *
        have sS := s04.trans hS
        walk_at "rdx"
        refine slT (sS _ _ h1) fun p H5 s5 hp => hR p H5 s5 ⟨.tup (sqt_of (show H5 p = some (.tup [.str (wK c.kd), .ref l, .ref r]) from hp)) (.cons (.str _) (.cons (nk_words (s5 _ _ (sS _ _ h2))) (.cons (nk_words (s5 _ _ (sS _ _ h3))) .nil))), dep_cv⟩
      intro H5 D5 L5 s5 hD5 hL5 k5
      have c5 := k5.count
      refine ⟨_, _, rfl, hL5, lenT (Evl.ex_t (s04.trans s5) hx) ⟨rfl, ?_⟩⟩
      have e5 : (!decide (V.int (L5.length : Int) = V.int (xs'.length : Int))) = !decide ((List.range xs'.length).map fun i => (cvs[i]?.map cvK).getD .none).Nodup := by
        congr 1
        rw [decide_eq_decide, ← c5]
        constructor
        · intro e
          injection e with e
          omega
        · intro e
          rw [e]
      rw [e5]
      refine ite2 (fun h => ?_) (fun h => hN5 _ _ ?_)
      · rw [Bool.not_eq_true'] at h
        rw [h, Bool.false_and] at q
        exact q _ (s04.trans s5)
      have h : decide ((List.range xs'.length).map fun i => (cvs[i]?.map cvK).getD .none).Nodup = true := by simpa using h
      rw [h, Bool.true_and] at q
      walk_at "rdx"
      walk_at "rdx"
      have s05 := s04.trans s5
      refine ⟨⟨_, Evl.ex_t s05 hy⟩, sc_nest walk_tup (fun i => (cds[i]?.map cdK).getD .none) (by omega) (fun H' s => Evl.ex_t s (Evl.ex_t s05 hy)) ?_ mono_name mono_yes ?_⟩
      · rintro i x H1 H2 hi' hS ⟨rfl, hx'⟩ R hR
        have hc : i < cds.length := by omega
        obtain ⟨b, e1, dx, pa, ra, ka, fs, h1⟩ := fy i _ (List.getElem?_eq_getElem hc)
        rw [hx'] at e1
        cases e1
        rw [List.getElem?_eq_getElem hc] at hR
        generalize cds[i] = c at *
        have sS := s05.trans hS
        walk_at "rdx"
        walk_at "rdx"
        refine ⟨_, _, _, sS _ _ h1.at_, T.cl_Candidate, T.no_Candidate_own_key, _, h1.f4, slT (sS _ _ h1.ky) fun p H5 s5 hp => hR p H5 s5 ⟨.tup (sqt_of (show H5 p = some (.tup [.str c.nm, .ref pa]) from hp)) (.cons (.str _) (.cons (nk_pts ((h1.ps.same sS).same s5)) .nil)), dep_cd⟩⟩
      intro H6 D6 L6 s6 hD6 hL6 k6
      have c6 := k6.count
      refine ⟨_, _, rfl, hL6, lenT (Evl.ex_t (s05.trans s6) hy) ⟨rfl, ?_⟩⟩
      have e6 : decide (V.int (L6.length : Int) = V.int (ys'.length : Int)) = decide ((List.range ys'.length).map fun i => (cds[i]?.map cdK).getD .none).Nodup := by
        rw [decide_eq_decide, ← c6]
        constructor
        · intro e
          injection e with e
          omega
        · intro e
          rw [e]
      rw [e6]
      exact q _ (s05.trans s6)
    cases k with
    | notL k n =>
      refine isi_kn k (kit_ntup k n) ?_
      walk_at "rd"
      exact q _ (Same.refl _)
    | notR h k n =>
      refine isi_sqt h ?_
      walk_at "rd"
      refine isi_kn k (kit_ntup k n) ?_
      walk_at "rd"
      exact q _ (Same.refl _)
    | many h h' n =>
      refine isi_sqt h ?_
      walk_at "rd"
      refine isi_sqt h' ?_
      walk_at "rd"
      refine hN1 _ _ (seqN fun N2 hN2 => ?_)
      walk_at "rdx"
      refine lenT h ⟨_, rfl, ite2 (fun _ => q _ (Same.refl _)) (fun e1 => lenT h' ⟨_, rfl, ite2 (fun _ => q _ (Same.refl _)) (fun e2 => absurd ⟨by simp at e1; omega, by simp at e2; omega⟩ n)⟩)⟩
    | bad h h' l l' cv cd n =>
      refine isi_sqt h ?_
      walk_at "rd"
      refine isi_sqt h' ?_
      walk_at "rd"
      exact main _ _ _ _ _ _ rfl rfl h h' l l' cv cd (.inl ⟨n, rfl⟩)
    | ok h h' l l' o =>
      obtain ⟨xs, hx, lx, fx⟩ := id h
      obtain ⟨ys, hy, ly, fy⟩ := id h'
      refine isi_sqt hx ?_
      walk_at "rd"
      refine isi_sqt hy ?_
      walk_at "rd"
      refine main _ _ _ _ (fun _ => true) (fun _ => true) rfl rfl hx hy (by omega) (by omega) (fun i x e => ?_) (fun i x e => ?_) (.inr ⟨by simp, _, _, h, h', l, l', rfl⟩)
      · rename_i cvs cds
        have hi : i < cvs.length := by rw [← lx]; exact (List.getElem?_eq_some_iff.mp e).1
        obtain ⟨b, e1, e2⟩ := fx i _ (List.getElem?_eq_getElem hi)
        rw [e] at e1
        cases e1
        exact e2.is (o _ (List.getElem_mem hi))
      · rename_i cvs cds
        have hi : i < cds.length := by rw [← ly]; exact (List.getElem?_eq_some_iff.mp e).1
        obtain ⟨b, e1, e2⟩ := fy i _ (List.getElem?_eq_getElem hi)
        rw [e] at e1
        cases e1
        exact .cd e2
end

local macro_rules | `(tactic| walk_at "rdx") => `(tactic| ((try simp only [tFld, gTup, gStar, tJs, tFmt, sFld, tSc_eq]); try walk_at "rd"))
section
variable {w : World} {K : PySem.W.Frag} {mg : Str → Option Value} {base : Heap}
/-- names in the tuple v -/
structure Nms (H : Hp) (v : V) (ws : List Str) (lo hi : Int) : Prop where
  at_ : ∃ a, v = .ref a ∧ H a = some (.tup (ws.map V.str))
  ok : namesV (ws.map V.str) lo hi = true
theorem Nms.same {H H' : Hp} {v : V} {ws : List Str} {lo hi : Int} (h : Nms H v ws lo hi) (s : Same H H') : Nms H' v ws lo hi := ⟨let ⟨a, e, h⟩ := h.at_; ⟨a, e, s _ _ h⟩, h.ok⟩
def apartB (ms bs : List Str) : Bool := !ms.any fun m => decide (m ∈ bs)
def withinB (ms bs : List Str) (it : Itm) : Bool := ((mksI it).all fun m => decide (m ∈ ms)) && (bssI it).all fun b => decide (b ∈ bs)
def itemsL (cvs : List Cv) (cds : List Cd) : List Itm := cvs.map .cv ++ cds.map .cd
theorem ItsIs.same {C : Addr} {H H' : Hp} {v u : V} {b : Bool} (h : ItsIs K C H v u b) (s : Same H H') : ItsIs K C H' v u b := by
  cases h with
  | notL k n => exact .notL (k.same s) n
  | notR h k n => exact .notR (Evl.ex_t s h) (k.same s) n
  | many h h' n => exact .many (Evl.ex_t s h) (Evl.ex_t s h') n
  | bad h h' l l' cv cd n => exact .bad (Evl.ex_t s h) (Evl.ex_t s h') l l' (fun i x e => (cv i x e).same s) (fun i x e => (cd i x e).same s) n
  | ok h h' l l' o => exact .ok (h.same s) (h'.same s) l l' o
/-- whether these are the parts of a library -/
inductive LibIs (K : PySem.W.Frag) (C : Addr) (H : Hp) : V → V → V → V → Bool → Prop
  | marks {m b v u : V} {xs : List V} {t : Bool} (h : Told H m xs t) (n : (t && namesV xs 0 8) = false) : LibIs K C H m b v u false
  | bases {m b v u : V} {ms : List Str} {xs : List V} {t : Bool} (hm : Nms H m ms 0 8) (h : Told H b xs t) (n : (t && namesV xs 1 8) = false) : LibIs K C H m b v u false
  | order {m b v u : V} {ms bs : List Str} (hm : Nms H m ms 0 8) (hb : Nms H b bs 1 8) (n : (ascB ms && ascB bs && apartB ms bs) = false) : LibIs K C H m b v u false
  | items {m b v u : V} {ms bs : List Str} (hm : Nms H m ms 0 8) (hb : Nms H b bs 1 8) (h : ItsIs K C H v u false) : LibIs K C H m b v u false
  | full {m b : V} {x y : Addr} {ms bs : List Str} {cvs : List Cv} {cds : List Cd} (hm : Nms H m ms 0 8) (hb : Nms H b bs 1 8) (o : (ascB ms && ascB bs && apartB ms bs) = true) (h : CvsA K H x cvs) (h' : CdsA K C H y cds) (l : cvs.length ≤ 16) (l' : cds.length ≤ 16) (o1 : ∀ c ∈ cvs, cvOk c = true) (o2 : ∀ c ∈ cds, CdOk c) :
      LibIs K C H m b (.ref x) (.ref y) (decide (cvs.map cvK).Nodup && decide (cds.map cdK).Nodup && (itemsL cvs cds).all (withinB ms bs))
theorem flat_words {ws : List Str} : (ws.map V.str).all flatV = true := by
  rw [List.all_map]
  exact List.all_eq_true.mpr fun _ _ => rfl
theorem in_words {z : Str} {ws : List Str} : inV (.str z) (ws.map V.str) = decide (z ∈ ws) := by
  induction ws with
  | nil => rfl
  | cons w ws ih =>
    show (eqV (.str w) (.str z) || inV (.str z) (ws.map V.str)) = _
    rw [ih]
    show ((w == z) || decide (z ∈ ws)) = _
    by_cases e : z = w
    · simp [e]
    · have : (w == z) = false := by simp; exact fun h => e h.symm
      rw [this, Bool.false_or, decide_eq_decide]
      simp [e]
theorem Nms.told {H : Hp} {v : V} {ws : List Str} {lo hi : Int} (h : Nms H v ws lo hi) : Told H v (ws.map V.str) true := by
  obtain ⟨a, rfl, e⟩ := h.at_
  exact told_st e (nm_sz (names_of h.ok).1)
theorem in_t {H : Hp} {a : Addr} {z : Str} {ws : List Str} {Q : VK} (h : H a = some (.tup (ws.map V.str))) (q : Q (.bl (decide (z ∈ ws))) H) : rIn K false (.str z) (.ref a) H Q := by
  refine ⟨a, _, rfl, .inr (sqt_of h), rfl, flat_words, ?_⟩
  show Q (.bl (inV (.str z) (ws.map V.str))) H
  rw [in_words]
  exact q
/-- [x in t for x in l], l and t texts: as a list of truths -/
theorem lc_in {J : It} {i : Nat} {te : TE} {σ : L2.St} {Q : VK} {H1 : Hp} {ws ts : List Str} {G : Hp → Prop} (wk : Walk J (ws.map V.str).length G (YAt (ws.map V.str))) (hG : ∀ H, Same H1 H → G H) (hl : ws.length ≤ 1000)
    (hw : ∀ x, wipe ((wipe σ [i]).set i x) [i] = wipe σ [i]) (ht : ∀ (z : Str) (H : Hp) (R : VK), Same H1 H → R (.bl (decide (z ∈ ts))) H → te ((wipe σ [i]).set i (some (.str z))) H R)
    (q : ∀ D H', Same H1 H' → H' D = some (.lst ((ws.map fun z => decide (z ∈ ts)).map V.bl)) → Q (.ref D) H') : LcB J (gName i) tYes te [i] σ Q H1 := by
  refine lc_same wk (fun n => .bl ((ws[n]?.map fun z => decide (z ∈ ts)).getD false)) (sz100 (by rw [List.length_map]; omega)) hG ?_ mono_name mono_yes ?_
  · rintro n x H H' hn hS ⟨rfl, hx⟩ R hR
    have hn' : n < ws.length := by rw [List.length_map] at hn; exact hn
    rw [List.getElem?_map, List.getElem?_eq_getElem hn'] at hx
    cases hx
    rw [List.getElem?_eq_getElem hn'] at hR
    refine ⟨hw _, rfl, ht _ _ _ hS (hR _ (Same.refl _))⟩
  · intro H D hS hD hL
    have e : ((List.range (ws.map V.str).length).map fun n => V.bl ((ws[n]?.map fun z => decide (z ∈ ts)).getD false)) = (ws.map fun z => decide (z ∈ ts)).map V.bl := by
      rw [List.length_map, ← range_opt (fun z => decide (z ∈ ts)) false, List.map_map]
      rfl
    rw [e] at hL
    exact q D H hS hL
def inv_lib (am ab x y : Addr) (ms bs : List Str) (its : List Itm) (H6 : Hp) : Nat → L2.St → Hp → Prop := fun i σ H' =>
  Same H6 H' ∧ (∃ a4 a5 a6, σ = [some (V.ref am), some (V.ref ab), some (V.ref x), some (V.ref y), a4, a5, a6, none, none, none]) ∧ (its.take i).all (withinB ms bs) = true
def sp_is_library_of (K : PySem.W.Frag) (C : Addr) : Sp := fun vs H Q _ => ∃ (m b v u : V) (r : Bool), vs = [m, b, v, u] ∧ LibIs K C H m b v u r ∧ ∀ H', Same H H' → Q (.bl r) H'
theorem ok_is_library_of (T : Tx K mg) : FnOk P w K mg base CX0 5 T.f_is_library_of T.d_is_library_of ["marks", "bases", "conversions", "candidates"] (sp_is_library_of K T.C_Candidate) := by
  refine T.F_is_library_of.ok sc_is_library_of (fun vs H Q E h => ?_) (fun cdv A outer s H vs Q E hr h => ?_)
  · obtain ⟨m, b, v, u, r, rfl, _⟩ := h
    rfl
  · obtain ⟨m, b, v, u, r, rfl, k, q⟩ := h
    refine ⟨_, (pss_cons (ps_if (PW.pt (pw_or (pt_not (pt_val (pe_call (ok_is_names T) (hr.mono (by decide)) (by rfl) T.g_is_names T.F_is_names.kp T.b_is_names .nil pass0 (pa_cons (pv 0) (pa_cons pe_int (pa_cons (pe_glob (v := .int (8)) (by rfl) T.m_MAX_MARKS ⟨_, rfl⟩) pa_nil)))))) (pw_or1 (pt_not (pt_val (pe_call (ok_is_names T) (hr.mono (by decide)) (by rfl) T.g_is_names T.F_is_names.kp T.b_is_names .nil pass0 (pa_cons (pv 1) (pa_cons pe_int (pa_cons (pe_glob (v := .int (8)) (by rfl) T.m_MAX_BASES ⟨_, rfl⟩) pa_nil))))))))) (pss_one (ps_ret pe_bl)) pss_nil)
      (pss_cons (ps_if (PW.pt (pw_or (pt_not (pt_val (pe_call (ok_is_ascending T) (hr.mono (by decide)) (by rfl) T.g_is_ascending T.F_is_ascending.kp T.b_is_ascending .nil pass0 (pa_cons (pv 0) pa_nil)))) (pw_or (pt_not (pt_val (pe_call (ok_is_ascending T) (hr.mono (by decide)) (by rfl) T.g_is_ascending T.F_is_ascending.kp T.b_is_ascending .nil pass0 (pa_cons (pv 1) pa_nil)))) (pw_or1 (pt_val (pe_callB (cr_any rfl) (by rfl) T.n_any (by decide +kernel) (pa_cons (pe_lc (own := [("name", 7)]) (g := gName 7) (by rfl) sc_is_library_of.nd (pi_tup (pv 0)) (blkOk_by (own := [("name", 7)]) (N := ["marks", "bases", "conversions", "candidates", "item", "own_marks", "own_bases", "name", "mark", "base"]) (sc := defScope s_is_library_of) (by decide +kernel)) (fun _ _ _ _ _ => (pg_name (i := 7) sc_is_library_of.nd rfl (Or.inl rfl))) (fun _ _ _ _ _ => pts_nil) (fun _ _ _ _ _ => (pe_cmpR (op_in_seq : OpR _ _ (rIn K false)) (pv 7) (pv 1) (by rfl)))) pa_nil))))))) (pss_one (ps_ret pe_bl)) pss_nil)
      (pss_cons (ps_if (pt_not (pt_val (pe_call (ok_are_items T) (hr.mono (by decide)) (by rfl) T.g_are_items T.F_are_items.kp T.b_are_items .nil pass0 (pa_cons (pv 2) (pa_cons (pv 3) pa_nil))))) (pss_one (ps_ret pe_bl)) pss_nil)
      (pss_cons (ps_for PassesOwn.never rfl (pi_tup (pe_tup (StX.pa_star (pv 2) (StX.pa_star (pv 3) pa_nil)))) (pg_name (i := 4) sc_is_library_of.nd rfl (Or.inl rfl)) (pss_cons (ps_asg (pe_call (ok_names_in T) (hr.mono (by decide)) (by rfl) T.g_names_in T.F_names_in.kp T.b_names_in .nil pass0 (pa_cons (pv 4) pa_nil)) (pg_tup (n := 2) rfl (pgs_cons (pg_name (i := 5) sc_is_library_of.nd rfl (Or.inl rfl)) (pgs_cons (pg_name (i := 6) sc_is_library_of.nd rfl (Or.inl rfl)) pgs_nil))))
      (pss_one (ps_if (PW.pt (pw_or (pt_not (pt_val (pe_callB (cr_all rfl) (by rfl) T.n_all (by decide +kernel) (pa_cons (pe_lc (own := [("mark", 8)]) (g := gName 8) (by rfl) sc_is_library_of.nd (pi_list (pv 5)) (blkOk_by (own := [("mark", 8)]) (N := ["marks", "bases", "conversions", "candidates", "item", "own_marks", "own_bases", "name", "mark", "base"]) (sc := defScope s_is_library_of) (by decide +kernel)) (fun _ _ _ _ _ => (pg_name (i := 8) sc_is_library_of.nd rfl (Or.inl rfl))) (fun _ _ _ _ _ => pts_nil) (fun _ _ _ _ _ => (pe_cmpR (op_in_seq : OpR _ _ (rIn K false)) (pv 8) (pv 0) (by rfl)))) pa_nil)))) (pw_or1 (pt_not (pt_val (pe_callB (cr_all rfl) (by rfl) T.n_all (by decide +kernel) (pa_cons (pe_lc (own := [("base", 9)]) (g := gName 9) (by rfl) sc_is_library_of.nd (pi_list (pv 6)) (blkOk_by (own := [("base", 9)]) (N := ["marks", "bases", "conversions", "candidates", "item", "own_marks", "own_bases", "name", "mark", "base"]) (sc := defScope s_is_library_of) (by decide +kernel)) (fun _ _ _ _ _ => (pg_name (i := 9) sc_is_library_of.nd rfl (Or.inl rfl))) (fun _ _ _ _ _ => pts_nil) (fun _ _ _ _ _ => (pe_cmpR (op_in_seq : OpR _ _ (rIn K false)) (pv 9) (pv 1) (by rfl)))) pa_nil))))))) (pss_one (ps_ret pe_bl)) pss_nil))))
      (pss_one (ps_ret pe_bl)))))), ?_⟩
    refine seqN fun N1 hN1 => ?_
    walk_at "rdx"
    have rest : ∀ (ms bs : List Str) (H1 : Hp), Same H H1 → Nms H m ms 0 8 → Nms H b bs 1 8 → (((ascB ms && ascB bs && apartB ms bs) = false ∧ r = false) ∨ ((ascB ms && ascB bs && apartB ms bs) = true ∧ ((ItsIs K T.C_Candidate H v u false ∧ r = false) ∨
        ∃ x y cvs cds, v = .ref x ∧ u = .ref y ∧ CvsA K H x cvs ∧ CdsA K T.C_Candidate H y cds ∧ cvs.length ≤ 16 ∧ cds.length ≤ 16 ∧ (∀ c ∈ cvs, cvOk c = true) ∧ (∀ c ∈ cds, CdOk c) ∧ r = (decide (cvs.map cvK).Nodup && decide (cds.map cdK).Nodup && (itemsL cvs cds).all (withinB ms bs))))) → N1 [some m, some b, some v, some u, none, none, none, none, none, none] H1 := by
      intro ms bs H1 s1 hm hb fin
      obtain ⟨am, rfl, fm⟩ := hm.at_
      obtain ⟨ab, rfl, fb⟩ := hb.at_
      have lm : ms.length ≤ 8 := by have := names_of hm.ok; omega
      have lb : bs.length ≤ 8 := by have := names_of hb.ok; omega
      refine hN1 _ _ (seqN fun N2 hN2 => ?_)
      walk_at "rdx"
      have no : ∀ {H'}, Same H H' → (ascB ms && ascB bs && apartB ms bs) = false → Q (.bl false) H' := fun s' e => by
        rcases fin with ⟨_, rfl⟩ | ⟨e', _⟩
        · exact q _ s'
        · rw [e] at e'
          cases e'
      refine ⟨am, ms, rfl, s1 _ _ fm, by omega, fun H2 s2 => ?_⟩
      walk_at "rd"
      refine ite2 (fun h => no (s1.trans s2) (by have : ascB ms = false := by simpa using h
                                                 rw [this, Bool.false_and, Bool.false_and])) (fun h1 => ?_)
      have s02 := s1.trans s2
      refine ⟨ab, bs, rfl, s02 _ _ fb, by omega, fun H3 s3 => ?_⟩
      walk_at "rd"
      refine ite2 (fun h => no (s02.trans s3) (by have : ascB bs = false := by simpa using h
                                                  rw [this, Bool.and_false, Bool.false_and])) (fun h2 => ?_)
      have h1' : ascB ms = true := by simpa using h1
      have h2' : ascB bs = true := by simpa using h2
      rw [h1', h2', Bool.true_and, Bool.true_and] at fin no
      have s03 := s02.trans s3
      refine ⟨⟨_, sqt_of (s03 _ _ fm)⟩, lc_in (ts := bs) walk_tup (fun H' s' => sqt_of (s' _ _ (s03 _ _ fm))) (by omega) (fun _ => rfl) (fun z H' R s' r => ⟨_, rfl, _, rfl, in_t (s' _ _ (s03 _ _ fb)) r⟩) fun D4 H4 s4 h4 => ⟨D4, _, rfl, sql_of h4, ?_⟩⟩
      rw [List.any_map]
      walk_at "rd"
      have s04 := s03.trans s4
      have ea : (ms.any (id ∘ fun z => decide (z ∈ bs))) = !apartB ms bs := by
        unfold apartB
        rw [Bool.not_not]
        rfl
      rw [ea]
      refine ite2 (fun h => no s04 (by simpa using h)) (fun h => hN2 _ _ ?_)
      have h3 : apartB ms bs = true := by simpa using h
      rcases fin with ⟨e, _⟩ | ⟨_, fin⟩
      · rw [h3] at e
        cases e
      refine seqN fun N3 hN3 => ?_
      walk_at "rdx"
      rcases fin with ⟨fi, rfl⟩ | ⟨x, y, cvs, cds, rfl, rfl, hcv, hcd, lv, ld, ov, od, rfl⟩
      · refine ⟨v, u, false, rfl, fi.same s04, fun H5 s5 => ?_⟩
        walk_at "rd"
        exact q _ (s04.trans s5)
      refine ⟨_, _, _, rfl, .ok (hcv.same s04) (hcd.same s04) lv ld ov, fun H5 s5 => ?_⟩
      walk_at "rd"
      have s05 := s04.trans s5
      refine ite2 (fun h => ?_) (fun h => hN3 _ _ (seqN fun N4 hN4 => ?_))
      · have : (decide (cvs.map cvK).Nodup && decide (cds.map cdK).Nodup) = false := by rw [Bool.not_eq_true'] at h; exact h
        rw [this, Bool.false_and] at q
        exact q _ s05
      have hk : (decide (cvs.map cvK).Nodup && decide (cds.map cdK).Nodup) = true := by rw [Bool.not_eq_true', Bool.not_eq_false] at h; exact h
      rw [hk, Bool.true_and] at q
      clear hk h
      walk_at "rdx"
      simp only [StX.tStar]
      walk_at "rdx"
      obtain ⟨xs, hx, lx, fx⟩ := hcv.same s05
      obtain ⟨ys, hy, ly, fy⟩ := hcd.same s05
      refine ⟨_, .inl hx, _, .inl hy, sz100 (by rw [List.length_append]; omega), fun p6 hp6 => ?_⟩
      have s6 := same_new (o := .tup (xs ++ ys)) hp6
      have f6 : upd H5 p6 (.tup (xs ++ ys)) p6 = some (.tup (xs ++ ys)) := upd_same
      generalize upd H5 p6 (.tup (xs ++ ys)) = H6 at *
      have s06 := s05.trans s6
      have lz : (xs ++ ys).length = (itemsL cvs cds).length := by
        unfold itemsL
        rw [List.length_append, List.length_append, List.length_map, List.length_map, lx, ly]
      have at_ : ∀ (i : Nat) it, (itemsL cvs cds)[i]? = some it → ∃ b, (xs ++ ys)[i]? = some (.ref b) ∧ ItmA H6 T.C_Candidate b it ∧ ItmOk it := by
        intro i it e
        unfold itemsL at e
        by_cases hi : i < cvs.length
        · rw [List.getElem?_append_left (by rw [List.length_map]; exact hi), List.getElem?_map, List.getElem?_eq_getElem hi] at e
          cases e
          obtain ⟨b, e1, e2⟩ := fx i _ (List.getElem?_eq_getElem hi)
          refine ⟨b, by rw [List.getElem?_append_left (by omega)]; exact e1, cvA.same e2 s6, ov _ (List.getElem_mem hi)⟩
        · rw [List.getElem?_append_right (by rw [List.length_map]; omega), List.length_map, List.getElem?_map] at e
          have hj : i - cvs.length < cds.length := by
            by_cases hj : i - cvs.length < cds.length
            · exact hj
            · rw [List.getElem?_eq_none (by omega)] at e
              cases e
          rw [List.getElem?_eq_getElem hj] at e
          cases e
          obtain ⟨b, e1, e2⟩ := fy _ _ (List.getElem?_eq_getElem hj)
          refine ⟨b, by rw [List.getElem?_append_right (by omega), lx]; exact e1, Cnd.same e2 s6, od _ (List.getElem_mem hj)⟩
      generalize xs ++ ys = zs at *
      generalize itemsL cvs cds = its at *
      refine ⟨⟨_, sqt_of f6⟩, forB walk_tup (inv_lib am ab x y ms bs its H6) ⟨Same.refl _, ⟨_, _, _, rfl⟩, rfl⟩ (fun i σ H' _ h => sqt_of (h.1 _ _ f6)) ?_ ?_⟩
      · rintro i z σ H7 H8 hi ⟨s7, ⟨a4, a5, a6, rfl⟩, al⟩ ⟨rfl, hz⟩
        have hii : i < its.length := by rw [← lz]; exact hi
        have ei := List.getElem?_eq_getElem hii
        obtain ⟨bz, e1, e2, e3⟩ := at_ i _ ei
        rw [hz] at e1
        cases e1
        have tk : its.take (i + 1) = its.take i ++ [its[i]] := by rw [List.take_add_one, ei]; rfl
        have fl : withinB ms bs its[i] = false → its.all (withinB ms bs) = false := fun h => by
          rw [Bool.eq_false_iff]
          intro h'
          have := List.all_eq_true.mp h' _ (List.getElem_mem hii)
          rw [h] at this
          cases this
        generalize its[i] = it at *
        obtain ⟨sl, so⟩ := sides_ok e3
        have lmk : (mksI it).length ≤ 40 := by
          unfold mksI mksS
          rw [List.length_append]
          have h1 := flat_le (f := id) (n := 4) (k := 5) (l := frontsOf (sidesI it)) (Nat.le_trans (List.length_filterMap_le ..) sl) fun ws h => (so _ (fr_mem h)).2.1
          have h2 := flat_le (f := List.dropLast) (n := 4) (k := 5) (l := typesOf (sidesI it)) (Nat.le_trans (List.length_filterMap_le ..) sl) fun ws h => by rw [List.length_dropLast]; have : ws.length ≤ 5 := (so _ (ty_mem h)).2.1; omega
          rw [List.flatMap_id] at h1
          omega
        have lbs : (bssI it).length ≤ 40 := by
          unfold bssI bssS
          rw [List.length_map]
          have := List.length_filterMap_le (fun p : Bool × List Str => if p.1 then none else some p.2) (sidesI it)
          unfold typesOf
          omega
        walk_at "rdx"
        refine ⟨bz, it, rfl, e2.same s7, e3, fun H9 p9 m9 b9 s9 hp9 hm9 hb9 => ?_⟩
        walk_at "rdx"
        have s09 := (s06.trans s7).trans s9
        refine ⟨_, sqt_of hp9, rfl, _, _, rfl, _, _, rfl, rfl, ?_⟩
        walk_at "rdx"
        refine ⟨⟨_, sql_of hm9⟩, ?_⟩
        refine lc_in (ts := ms) walk_list (fun H' s' => sql_of (s' _ _ hm9)) (by omega) (fun _ => rfl) (fun z H' R s' r => ⟨_, rfl, _, rfl, in_t (s' _ _ (s09 _ _ fm)) r⟩) fun D10 H10 s10 h10 => ⟨D10, _, rfl, sql_of h10, ?_⟩
        rw [List.all_map, show (id ∘ fun z => decide (z ∈ ms)) = fun z => decide (z ∈ ms) from rfl]
        walk_at "rd"
        have s010 := s09.trans s10
        have wb : withinB ms bs it = (((mksI it).all fun m => decide (m ∈ ms)) && (bssI it).all fun b => decide (b ∈ bs)) := rfl
        refine ite2 (fun h => ?_) (fun h => ?_)
        · have h' : ((mksI it).all fun m => decide (m ∈ ms)) = false := by rw [Bool.not_eq_true'] at h; exact h
          rw [h', Bool.false_and] at wb
          rw [fl wb] at q
          exact q _ s010
        have h1 : ((mksI it).all fun m => decide (m ∈ ms)) = true := by rw [Bool.not_eq_true', Bool.not_eq_false] at h; exact h
        refine ⟨⟨_, sql_of (s10 _ _ hb9)⟩, lc_in (ts := bs) walk_list (fun H' s' => sql_of (s' _ _ (s10 _ _ hb9))) (by omega) (fun _ => rfl) (fun z H' R s' r => ⟨_, rfl, _, rfl, in_t (s' _ _ (s010 _ _ fb)) r⟩) fun D11 H11 s11 h11 => ⟨D11, _, rfl, sql_of h11, ?_⟩⟩
        rw [List.all_map, show (id ∘ fun z => decide (z ∈ bs)) = fun z => decide (z ∈ bs) from rfl]
        walk_at "rd"
        refine ite2 (fun h => ?_) (fun h => ?_)
        · have h' : ((bssI it).all fun m => decide (m ∈ bs)) = false := by rw [Bool.not_eq_true'] at h; exact h
          rw [h', Bool.and_false] at wb
          rw [fl wb] at q
          exact q _ (s010.trans s11)
        have h2 : ((bssI it).all fun m => decide (m ∈ bs)) = true := by rw [Bool.not_eq_true', Bool.not_eq_false] at h; exact h
        refine ⟨((s7.trans s9).trans s10).trans s11, ⟨_, _, _, rfl⟩, ?_⟩
        rw [tk, List.all_append, al, List.all_cons, wb, h1, h2]
        rfl
      · rintro σ H7 ⟨s7, ⟨a4, a5, a6, rfl⟩, al⟩
        refine hN4 _ _ ?_
        walk_at "rd"
        rw [lz, List.take_length] at al
        rw [al] at q
        exact q _ (s06.trans s7)
    cases k with
    | marks h n =>
      refine ⟨m, _, _, 0, 8, rfl, by decide, h, fun H1 s1 => ?_⟩
      walk_at "rd"
      rw [n]
      exact iteP rfl (q _ s1)
    | bases hm h n =>
      refine ⟨m, _, _, 0, 8, rfl, by decide, hm.told, fun H1 s1 => ?_⟩
      walk_at "rd"
      rw [hm.ok]
      refine iteN (by simp) ⟨b, _, _, 1, 8, rfl, by decide, Told.same h s1, fun H2 s2 => ?_⟩
      walk_at "rd"
      rw [n]
      exact iteP rfl (q _ (s1.trans s2))
    | order hm hb n =>
      refine ⟨m, _, _, 0, 8, rfl, by decide, hm.told, fun H1 s1 => ?_⟩
      walk_at "rd"
      rw [hm.ok]
      refine iteN (by simp) ⟨b, _, _, 1, 8, rfl, by decide, Told.same hb.told s1, fun H2 s2 => ?_⟩
      walk_at "rd"
      rw [hb.ok]
      exact iteN (by simp) (rest _ _ _ (s1.trans s2) hm hb (.inl ⟨n, rfl⟩))
    | items hm hb h =>
      refine ⟨m, _, _, 0, 8, rfl, by decide, hm.told, fun H1 s1 => ?_⟩
      walk_at "rd"
      rw [hm.ok]
      refine iteN (by simp) ⟨b, _, _, 1, 8, rfl, by decide, Told.same hb.told s1, fun H2 s2 => ?_⟩
      walk_at "rd"
      rw [hb.ok]
      refine iteN (by simp) (rest _ _ _ (s1.trans s2) hm hb ?_)
      rename_i ms bs
      cases e : ascB ms && ascB bs && apartB ms bs
      · exact .inl ⟨rfl, rfl⟩
      · exact .inr ⟨rfl, .inl ⟨h, rfl⟩⟩
    | full hm hb o h h' l l' o1 o2 =>
      refine ⟨m, _, _, 0, 8, rfl, by decide, hm.told, fun H1 s1 => ?_⟩
      walk_at "rd"
      rw [hm.ok]
      refine iteN (by simp) ⟨b, _, _, 1, 8, rfl, by decide, Told.same hb.told s1, fun H2 s2 => ?_⟩
      walk_at "rd"
      rw [hb.ok]
      exact iteN (by simp) (rest _ _ _ (s1.trans s2) hm hb (.inr ⟨o, .inr ⟨_, _, _, _, rfl, rfl, h, h', l, l', o1, o2, rfl⟩⟩))
end

local macro_rules | `(tactic| walk_at "rdx") => `(tactic| ((try simp only [tFld, gTup, gStar, tJs, tFmt, sFld, tSc_eq]); try walk_at "rd"))
section
variable {w : World} {K : PySem.W.Frag} {mg : Str → Option Value} {base : Heap}
/-- a library, by its parts in their orders -/
structure Lb where
  ms : List Str
  bs : List Str
  cv : List Cv
  cd : List Cd
structure LbF (K : PySem.W.Frag) (CL CC : Addr) (H : Hp) (a : Addr) (l : Lb) (dx am ab ac ad : Addr) (fs : List (Str × V)) : Prop where
  at_ : H a = some (.ins CL dx fs)
  f1 : fs.lookup ("own_marks" : Str) = some (.ref am)
  f2 : fs.lookup ("own_bases" : Str) = some (.ref ab)
  f3 : fs.lookup ("own_conversions" : Str) = some (.ref ac)
  f4 : fs.lookup ("own_candidates" : Str) = some (.ref ad)
  f5 : fs.lookup ("named" : Str) = none
  f6 : fs.lookup ("accepts" : Str) = none
  hm : H am = some (.tup (l.ms.map V.str))
  hb : H ab = some (.tup (l.bs.map V.str))
  hc : CvsA K H ac l.cv
  hd : CdsA K CC H ad l.cd
theorem LbF.same {CL CC a dx am ab ac ad : Addr} {H H' : Hp} {l : Lb} {fs : List (Str × V)} (h : LbF K CL CC H a l dx am ab ac ad fs) (s : Same H H') : LbF K CL CC H' a l dx am ab ac ad fs := ⟨s _ _ h.at_, h.f1, h.f2, h.f3, h.f4, h.f5, h.f6, s _ _ h.hm, s _ _ h.hb, h.hc.same s, h.hd.same s⟩
def LbA (K : PySem.W.Frag) (CL CC : Addr) (H : Hp) (a : Addr) (l : Lb) : Prop := ∃ dx am ab ac ad fs, LbF K CL CC H a l dx am ab ac ad fs
theorem LbA.same {CL CC a : Addr} {H H' : Hp} {l : Lb} (h : LbA K CL CC H a l) (s : Same H H') : LbA K CL CC H' a l := let ⟨dx, am, ab, ac, ad, fs, x⟩ := h; ⟨dx, am, ab, ac, ad, fs, x.same s⟩
end

local macro_rules | `(tactic| walk_at "rdx") => `(tactic| ((try simp only [tFld, gTup, gStar, tJs, tFmt, sFld, tSc_eq]); try walk_at "rd"))
section
variable {w : World} {K : PySem.W.Frag} {mg : Str → Option Value} {base : Heap}
/-- the tables of the defs that make lambdas -/
abbrev tabs (T : Tx K mg) : List (Addr × Str) := [(T.P__law_right, ("_law_right" : Str) ++ ".<locals>." ++ "<lambda>"), (T.P_law, ("law" : Str) ++ ".<locals>." ++ "<lambda>"), (T.P_Library___init__, ("Library.__init__" : Str) ++ ".<locals>." ++ "<lambda>")]
theorem tabs_u_law_right (T : Tx K mg) : ∀ p ∈ tabs T, p.1 = T.P__law_right → p.2 = ("_law_right" : Str) ++ ".<locals>." ++ "<lambda>" := by
  intro p hp e
  simp only [tabs, List.mem_cons, List.not_mem_nil, or_false] at hp
  rcases hp with rfl | rfl | rfl
  · rfl
  · exact absurd e.symm T.pn__law_right_law
  · exact absurd e.symm T.pn__law_right_Library___init__
theorem tabs_u_law (T : Tx K mg) : ∀ p ∈ tabs T, p.1 = T.P_law → p.2 = ("law" : Str) ++ ".<locals>." ++ "<lambda>" := by
  intro p hp e
  simp only [tabs, List.mem_cons, List.not_mem_nil, or_false] at hp
  rcases hp with rfl | rfl | rfl
  · exact absurd e T.pn__law_right_law
  · rfl
  · exact absurd e.symm T.pn_law_Library___init__
theorem tabs_u_Library___init__ (T : Tx K mg) : ∀ p ∈ tabs T, p.1 = T.P_Library___init__ → p.2 = ("Library.__init__" : Str) ++ ".<locals>." ++ "<lambda>" := by
  intro p hp e
  simp only [tabs, List.mem_cons, List.not_mem_nil, or_false] at hp
  rcases hp with rfl | rfl | rfl
  · exact absurd e T.pn__law_right_Library___init__
  · exact absurd e T.pn_law_Library___init__
  · rfl
/-- all stays but the tables and what stands at x -/
def Bx (x : Addr) (H H' : Hp) : Prop := ∀ b o, b ≠ x → (∀ ps, o ≠ HO.tbl ps) → H b = some o → H' b = some o
theorem Bx.refl (x : Addr) (H : Hp) : Bx x H H := fun _ _ _ _ h => h
theorem Bx.same {x : Addr} {H H1 H2 : Hp} (g : Bx x H H1) (s : Same H1 H2) : Bx x H H2 := fun b o n z h => s _ _ (g b o n z h)
theorem Bx.ext {x : Addr} {H H1 H2 : Hp} (g : Bx x H H1) (s : LamX.ExtN H1 H2) : Bx x H H2 := fun b o n z h => s _ _ (g b o n z h) z
theorem Bx.mut {x : Addr} {H H1 : Hp} {o : HO} (g : Bx x H H1) : Bx x H (upd H1 x o) := fun b u n z h => by
  rw [upd_ne n]
  exact g b u n z h
section
variable {x : Addr} {H H' : Hp} {CL dx : Addr} {fs : List (Str × V)}
theorem Bx.tup (g : Bx x H H') (hx : H x = some (.ins CL dx fs)) {a : Addr} {xs : List V} (h : H a = some (.tup xs)) : H' a = some (.tup xs) := g _ _ (ne_of h hx (fun e => nomatch e)) (fun ps e => nomatch e) h
theorem Bx.sqt (g : Bx x H H') (hx : H x = some (.ins CL dx fs)) {a : Addr} {xs : List V} (h : SqT K H a xs) : SqT K H' a xs := by
  rcases h with (h | ⟨u, h⟩) | h
  · exact .inl (.inl (g.tup hx h))
  · exact .inl (.inr ⟨u, g _ _ (ne_of h hx (fun e => nomatch e)) (fun ps e => nomatch e) h⟩)
  · exact .inr h
theorem Bx.cvs (g : Bx x H H') (hx : H x = some (.ins CL dx fs)) {a : Addr} {cs : List Cv} (h : CvsA K H a cs) : CvsA K H' a cs := by
  obtain ⟨xs, h1, h2, h3⟩ := h
  refine ⟨xs, g.sqt hx h1, h2, fun i c e => ?_⟩
  obtain ⟨b, e1, l, r, k1, k2, k3⟩ := h3 i c e
  exact ⟨b, e1, l, r, g.tup hx k1, g.tup hx k2, g.tup hx k3⟩
theorem Bx.pts (g : Bx x H H') (hx : H x = some (.ins CL dx fs)) {a : Addr} {ps : List (Bool × List Str)} (h : ptsA H a ps) : ptsA H' a ps := by
  obtain ⟨xs, h1, h2, h3⟩ := h
  refine ⟨xs, g.tup hx h1, h2, fun i p e => ?_⟩
  obtain ⟨b, e1, c, k1, k2⟩ := h3 i p e
  exact ⟨b, e1, c, g.tup hx k1, g.tup hx k2⟩
theorem Bx.cnd (g : Bx x H H') (hx : H x = some (.ins CL dx fs)) (hn : fs.lookup ("own_name" : Str) = none) {C a : Addr} {c : Cd} (h : Cnd H C a c) : Cnd H' C a c := by
  obtain ⟨dx1, pa, ra, ka, fs1, k⟩ := h
  obtain ⟨rb, r1, r2⟩ := k.rs
  refine ⟨dx1, pa, ra, ka, fs1, g _ _ (fun e => ?_) (fun ps e => nomatch e) k.at_, k.f1, k.f2, k.f3, k.f4, g.pts hx k.ps, ⟨rb, g.tup hx r1, g.tup hx r2⟩, g.tup hx k.ky⟩
  have := k.at_
  rw [e, hx] at this
  cases this
  have := k.f1
  rw [hn] at this
  cases this
theorem Bx.cds (g : Bx x H H') (hx : H x = some (.ins CL dx fs)) (hn : fs.lookup ("own_name" : Str) = none) {C a : Addr} {cs : List Cd} (h : CdsA K C H a cs) : CdsA K C H' a cs := by
  obtain ⟨xs, h1, h2, h3⟩ := h
  refine ⟨xs, g.sqt hx h1, h2, fun i c e => ?_⟩
  obtain ⟨b, e1, k⟩ := h3 i c e
  exact ⟨b, e1, g.cnd hx hn k⟩
theorem tabs_ins {T : List (Addr × Str)} {o : HO} (t : LamX.Tabs T H) (hx : H x = some (.ins CL dx fs)) : LamX.Tabs T (upd H x o) := by
  intro p hp
  obtain ⟨ps, h1, h2, h3⟩ := t p hp
  refine ⟨ps, ?_, h2, fun pos cv hc => ?_⟩
  · rw [upd_ne (ne_of h1 hx (fun e => nomatch e))]
    exact h1
  · obtain ⟨c, e, hcO⟩ := h3 pos cv hc
    refine ⟨c, e, ?_⟩
    rw [upd_ne (ne_of hcO hx (fun e => nomatch e))]
    exact hcO
theorem tabs_same {T : List (Addr × Str)} (t : LamX.Tabs T H) (s : Same H H') : LamX.Tabs T H' := fun p hp => (t p hp).ext s
end
/-- the data of a conversion, of a candidate's key -/
def cvN (c : Cv) : NestedKey := .tup [.text (wK c.kd), wordsK c.lf, wordsK c.rt, .num c.rk]
def cvD (c : Cv) : PyData := dOf (cvN c)
def ckD (c : Cd) : PyData := dOf (cdK c)
def sortCv (cs : List Cv) : List Cv := cs.mergeSort (PySem.W.dataLe false cvD)
def sortCd (cs : List Cd) : List Cd := cs.mergeSort (PySem.W.dataLe false ckD)
theorem nk_cv {H : Hp} {a : Addr} {c : Cv} (h : cvA H a c) : NkV K H (cvN c) (.ref a) := by
  obtain ⟨l, r, h1, h2, h3⟩ := h
  exact .tup (sqt_of h1) (.cons (.str _) (.cons (nk_words h2) (.cons (nk_words h3) (.cons (.int _) .nil))))
theorem dep_cvN {c : Cv} : (cvN c).depth ≤ 8 := Nat.le_trans (dep_tup (n := 1) fun k hk => by
  simp only [List.mem_cons, List.not_mem_nil, or_false] at hk
  rcases hk with rfl | rfl | rfl | rfl
  · exact Nat.zero_le _
  · exact dep_words
  · exact dep_words
  · exact Nat.zero_le _) (by decide)
open PySem.W in
theorem alike_words : ∀ xs ys : List Str, alikeAll (dsOf (xs.map NestedKey.text)) (dsOf (ys.map NestedKey.text)) = true
  | [], _ => by rw [List.map_nil, dsOf]; cases dsOf (List.map NestedKey.text _) <;> rfl
  | _ :: _, [] => by rw [List.map_nil, List.map_cons, dsOf, dsOf]; rfl
  | x :: xs, y :: ys => by
    rw [List.map_cons, List.map_cons, dsOf, dsOf]
    show (alike (dOf (.text x)) (dOf (.text y)) && _) = true
    rw [alike_words xs ys]
    rfl
open PySem.W in
theorem alike_cv (c d : Cv) : alike (cvD c) (cvD d) = true := by
  unfold cvD cvN wordsK
  simp only [dOf, dsOf, alike, alikeAll, alike_words, Bool.true_and, Bool.and_true]
open PySem.W in
theorem alike_pt (p q : Bool × List Str) : alike (dOf (ptK p)) (dOf (ptK q)) = true := by
  unfold ptK wordsK
  simp only [dOf, dsOf, alike, alikeAll, alike_words, Bool.true_and, Bool.and_true]
open PySem.W in
theorem alike_pts : ∀ xs ys : List (Bool × List Str), alikeAll (dsOf (xs.map ptK)) (dsOf (ys.map ptK)) = true
  | [], _ => by rw [List.map_nil, dsOf]; cases dsOf (List.map ptK _) <;> rfl
  | _ :: _, [] => by rw [List.map_nil, List.map_cons, dsOf, dsOf]; rfl
  | x :: xs, y :: ys => by
    rw [List.map_cons, List.map_cons, dsOf, dsOf]
    show (alike (dOf (ptK x)) (dOf (ptK y)) && _) = true
    rw [alike_pt, alike_pts xs ys]
    rfl
open PySem.W in
theorem alike_ck (c d : Cd) : alike (ckD c) (ckD d) = true := by
  unfold ckD cdK
  simp only [dOf, dsOf, alike, alikeAll, alike_pts, Bool.true_and, Bool.and_true]
def MadeL (K : PySem.W.Frag) (CL CC : Addr) (H H' : Hp) (x : Addr) (l : Lb) : Prop := Bx x H H' ∧ LbA K CL CC H' x l
def spx_lib (K : PySem.W.Frag) (T : List (Addr × Str)) (CI CL CC : Addr) : Sp := fun vs H Q E => ∃ (x dx : Addr) (m b v u : V) (r : Bool), vs = [.ref x, m, b, v, u] ∧ H x = some (.ins CL dx []) ∧ LamX.Tabs T H ∧ LibIs K CC H m b v u r ∧
  (r = false → ∀ H', Same H H' → E (.ref CI) none H') ∧ (r = true → ∃ (ms bs : List Str) (cvs : List Cv) (cds : List Cd) (y z : Addr), Nms H m ms 0 8 ∧ Nms H b bs 1 8 ∧ v = .ref y ∧ u = .ref z ∧ CvsA K H y cvs ∧ CdsA K CC H z cds ∧ cvs.length ≤ 16 ∧ cds.length ≤ 16 ∧
    ∀ H', MadeL K CL CC H H' x ⟨ms, bs, sortCv cvs, sortCd cds⟩ → LamX.Tabs T H' → Q .non H')
theorem ok_Library___init__ (T : Tx K mg) (TB_Library___init__ : LamX.TabB base mg T.c_Library___init__ T.P_Library___init__) : FnOk P w K mg base (L2.CX P w) 6 T.f_Library___init__ T.d_Library___init__ ["self", "marks", "bases", "conversions", "candidates"] (spx_lib K (tabs T) T.C_InvalidLibrary T.C_Library T.C_Candidate) := by
  refine okXL T.F_Library___init__ T.k_Library___init__ sc_Library___init__ (fun vs H Q E h => ?_) (fun A outer s H vs Q E hr h => ?_)
  · obtain ⟨x, dx, m, b, v, u, r, rfl, _⟩ := h
    rfl
  · obtain ⟨x, dx, m, b, v, u, r, rfl, hx, hT, hl, q0, q1⟩ := h
    refine ⟨_, (pss_cons (ps_if (pt_not (pt_val (pe_call (ok_is_library_of T) (hr.mono (by decide)) (by rfl) T.g_is_library_of T.F_is_library_of.kp T.b_is_library_of .nil pass0 (pa_cons (pv 1) (pa_cons (pv 2) (pa_cons (pv 3) (pa_cons (pv 4) pa_nil))))))) (pss_one (ps_raise rfl (takes_of rfl rfl rfl rfl) (pmk_own PySem.F.excBase_ValueError T.x_InvalidLibrary.ex T.x_InvalidLibrary.g T.x_InvalidLibrary.kp (raises_own T.x_InvalidLibrary.sb T.x_InvalidLibrary.ty) (by rfl)))) pss_nil)
      (pss_cons (ps_fld (pv 0) (pv 1) rfl)
      (pss_cons (ps_fld (pv 0) (pv 2) rfl)
      (pss_cons (ps_fld (pv 0) (pe_callTy call_tupL (by rfl) T.n_tuple (by decide +kernel) (pa_cons (pe_callB (cr_sortD (u16 hr.units)) (by rfl) T.n_sorted (by decide +kernel) (pa_cons (pv 3) pa_nil)) pa_nil)) rfl)
      (pss_cons (ps_fld (pv 0) (pe_callTy call_tupL (by rfl) T.n_tuple (by decide +kernel) (pa_cons (pe_sortKey (T := tabs T) (k := 1) (KeyOf := KeyA K T.C_Candidate "own_key") (pv 4) (by rfl) T.n_sorted TB_Library___init__ rfl (List.mem_cons_of_mem _ (List.mem_cons_of_mem _ (List.mem_cons_self))) (tabs_u_Library___init__ T) (hr.mono (by decide)) (u16 hr.units) rfl rfl rfl rfl rfl (fun _ _ _ _ _ => rfl) (kb_attr2 T.cl_Candidate T.no_Candidate_own_key (fun _ => rfl) rfl)) pa_nil)) rfl)
      (pss_one (ps_fld (pv 0) pe_dnewK rfl))))))), ?_⟩
    walk_at "rd"
    refine ⟨m, b, v, u, r, rfl, hl, fun H1 s1 => ?_⟩
    walk_at "rd"
    refine ite2 (fun e => q0 (by simpa using e) H1 s1) (fun e => ?_)
    obtain ⟨ms, bs, cvs, cds, y, z, hm, hb, rfl, rfl, hcv, hcd, z1, z2, q⟩ := q1 (by simpa using e)
    clear q0 q1 e hl
    obtain ⟨am, rfl, fm⟩ := hm.at_
    obtain ⟨ab, rfl, fb⟩ := hb.at_
    have hx1 := s1 _ _ hx
    have t1 := tabs_same hT s1
    have hcv1 := hcv.same s1
    have hcd1 := hcd.same s1
    have B1 : Bx x H H1 := (Bx.refl x H).same s1
    walk_at "rdx"
    refine ⟨_, _, _, hx1, T.cl_Library, T.no_Library_own_marks, by decide, ?_⟩
    walk_at "rdx"
    refine ⟨_, _, _, upd_same, T.cl_Library, T.no_Library_own_bases, (show 1 < 1000 by decide), ?_⟩
    rw [upd_upd]
    walk_at "rdx"
    have ef2 : putF (Str.ofString "own_bases") (V.ref ab) (putF (Str.ofString "own_marks") (V.ref am) []) = [(Str.ofString "own_marks", V.ref am), (Str.ofString "own_bases", V.ref ab)] := rfl
    rw [ef2]
    have B2 : Bx x H1 (upd H1 x (.ins T.C_Library dx [(Str.ofString "own_marks", V.ref am), (Str.ofString "own_bases", V.ref ab)])) := (Bx.refl x H1).mut
    have t2 := tabs_ins (o := .ins T.C_Library dx [(Str.ofString "own_marks", V.ref am), (Str.ofString "own_bases", V.ref ab)]) t1 hx1
    have hx2 : upd H1 x (.ins T.C_Library dx [(Str.ofString "own_marks", V.ref am), (Str.ofString "own_bases", V.ref ab)]) x = some (.ins T.C_Library dx [(Str.ofString "own_marks", V.ref am), (Str.ofString "own_bases", V.ref ab)]) := upd_same
    generalize upd H1 x (.ins T.C_Library dx [(Str.ofString "own_marks", V.ref am), (Str.ofString "own_bases", V.ref ab)]) = H2 at *
    obtain ⟨xs, hxs, lxs, fxs⟩ := B2.cvs hx1 hcv1
    obtain ⟨L, rfl, rfl, hL⟩ := ex_pairs lxs fxs
    have em : ∀ (α : Type) (key : α → PyData) (L : List (Addr × α)), (L.map fun p => (V.ref p.1, key p.2)).map (·.1) = L.map fun p => V.ref p.1 := fun α key L => by rw [List.map_map]; rfl
    have em2 : ∀ (α : Type) (key : α → PyData) (L : List (Addr × α)), (L.map fun p => (V.ref p.1, key p.2)).map (·.2) = L.map fun p => key p.2 := fun α key L => by rw [List.map_map]; rfl
    refine ⟨y, L.map fun p => (V.ref p.1, cvD p.2), rfl, .inr (by rw [em]; exact hxs), fun p hp => ?_, ?_, ?_, fun p4 hp4 => ?_⟩
    · obtain ⟨p0, hp0, rfl⟩ := List.mem_map.mp hp
      exact ⟨nk_dp (nk_cv (hL p0 hp0)), by rw [show cvD p0.2 = dOf (cvN p0.2) from rfl, dOf_depth]; exact dep_cvN⟩
    · rw [em2]
      exact .of (enc := fun p : Addr × Cv => cvD p.2) fun p q => alike_cv p.2 q.2
    · rw [em2]
      exact .tuples (enc := fun p : Addr × Cv => cvD p.2) fun p => ⟨_, _, rfl⟩
    rw [sort_map (fun p : Addr × Cv => cvD p.2) (fun p => V.ref p.1) L, List.map_map]
    have pm := List.mergeSort_perm L (PySem.W.dataLe false fun p : Addr × Cv => cvD p.2)
    have em3 := sort_snd cvD L
    generalize L.mergeSort (PySem.W.dataLe false fun p : Addr × Cv => cvD p.2) = M at *
    have hM : ∀ p ∈ M, cvA H2 p.1 p.2 := fun p hp => hL p (pm.mem_iff.mp hp)
    have sc : sortCv (L.map (·.2)) = M.map (·.2) := em3.symm
    rw [sc] at q
    have e5 : ((fun x : V × PyData => x.1) ∘ fun x : Addr × Cv => (V.ref x.1, cvD x.2)) = fun p => V.ref p.1 := rfl
    rw [e5]
    have s4 : Same H2 (upd H2 p4 (.lst (M.map fun p => V.ref p.1))) := same_new hp4
    have f4 : upd H2 p4 (.lst (M.map fun p => V.ref p.1)) p4 = some (.lst (M.map fun p => V.ref p.1)) := upd_same
    generalize upd H2 p4 (.lst (M.map fun p => V.ref p.1)) = H4 at *
    refine tupL (sql_of f4) fun p5 hp5 => ?_
    have s5 := same_new (o := .tup (M.map fun p => V.ref p.1)) hp5
    have f5 : upd H4 p5 (.tup (M.map fun p => V.ref p.1)) p5 = some (.tup (M.map fun p => V.ref p.1)) := upd_same
    generalize upd H4 p5 (.tup (M.map fun p => V.ref p.1)) = H5 at *
    have s25 := s4.trans s5
    refine ⟨_, _, _, s25 _ _ hx2, T.cl_Library, T.no_Library_own_conversions, (show 2 < 1000 by decide), ?_⟩
    walk_at "rdx"
    have ef3 : putF (Str.ofString "own_conversions") (V.ref p5) [(Str.ofString "own_marks", V.ref am), (Str.ofString "own_bases", V.ref ab)] = [(Str.ofString "own_marks", V.ref am), (Str.ofString "own_bases", V.ref ab), (Str.ofString "own_conversions", V.ref p5)] := rfl
    rw [ef3]
    have B5 : Bx x H1 H5 := B2.same s25
    have t5 := tabs_same t2 s25
    have hx5 := s25 _ _ hx2
    have B6 : Bx x H1 (upd H5 x (.ins T.C_Library dx [(Str.ofString "own_marks", V.ref am), (Str.ofString "own_bases", V.ref ab), (Str.ofString "own_conversions", V.ref p5)])) := B5.mut
    have B56 : Bx x H5 (upd H5 x (.ins T.C_Library dx [(Str.ofString "own_marks", V.ref am), (Str.ofString "own_bases", V.ref ab), (Str.ofString "own_conversions", V.ref p5)])) := (Bx.refl x H5).mut
    have t6 := tabs_ins (o := .ins T.C_Library dx [(Str.ofString "own_marks", V.ref am), (Str.ofString "own_bases", V.ref ab), (Str.ofString "own_conversions", V.ref p5)]) t5 hx5
    have hx6 : upd H5 x (.ins T.C_Library dx [(Str.ofString "own_marks", V.ref am), (Str.ofString "own_bases", V.ref ab), (Str.ofString "own_conversions", V.ref p5)]) x = some (.ins T.C_Library dx [(Str.ofString "own_marks", V.ref am), (Str.ofString "own_bases", V.ref ab), (Str.ofString "own_conversions", V.ref p5)]) := upd_same
    generalize upd H5 x (.ins T.C_Library dx [(Str.ofString "own_marks", V.ref am), (Str.ofString "own_bases", V.ref ab), (Str.ofString "own_conversions", V.ref p5)]) = H6 at *
    have hcv5 : CvsA K H5 p5 (M.map (·.2)) := by
      obtain ⟨g1, g2⟩ := of_pairs (R := fun b c => cvA H2 b c) hM
      exact ⟨_, sqt_of f5, g1, fun i c e => let ⟨b, e1, e2⟩ := g2 i c e; ⟨b, e1, cvA.same e2 s25⟩⟩
    have hcv6 := B56.cvs hx5 hcv5
    clear hcv5 f5 f4 hM sc em3 pm hL hxs lxs fxs
    simp only [tSortK]
    walk_at "rdx"
    refine ⟨t6, fun H7 eN t7 => ?_⟩
    have B7 : Bx x H1 H7 := B6.ext eN
    have hx7 := eN _ _ hx6 (fun ps e => nomatch e)
    have hcv7 : CvsA K H7 p5 (M.map (·.2)) := ((Bx.refl x H6).ext eN).cvs hx6 hcv6
    obtain ⟨ys, hys, lys, fys⟩ := B7.cds hx1 rfl hcd1
    obtain ⟨N, rfl, rfl, hN⟩ := ex_pairs lys fys
    refine ⟨N.map fun p => (V.ref p.1, ckD p.2), .inr (by rw [em]; exact hys), fun p hp => ?_, ?_, ?_, fun p8 hp8 => ?_⟩
    · obtain ⟨p0, hp0, rfl⟩ := List.mem_map.mp hp
      obtain ⟨dx1, pa, ra, ka, fs1, k⟩ := hN p0 hp0
      refine ⟨⟨p0.1, dx1, ka, fs1, _, [.text p0.2.nm, .tup (p0.2.ps.map ptK)], rfl, k.at_, k.f4, k.ky, (show 2 < 3 by decide), .cons (.str _) (.cons (nk_pts k.ps) .nil), rfl⟩, ?_⟩
      rw [show ckD p0.2 = dOf (cdK p0.2) from rfl, dOf_depth]
      exact dep_cd
    · rw [em2]
      exact .of (enc := fun p : Addr × Cd => ckD p.2) fun p q => alike_ck p.2 q.2
    · rw [em2]
      exact .tuples (enc := fun p : Addr × Cd => ckD p.2) fun p => ⟨_, _, rfl⟩
    rw [sort_map (fun p : Addr × Cd => ckD p.2) (fun p => V.ref p.1) N, List.map_map]
    have pm := List.mergeSort_perm N (PySem.W.dataLe false fun p : Addr × Cd => ckD p.2)
    have em3 := sort_snd ckD N
    generalize N.mergeSort (PySem.W.dataLe false fun p : Addr × Cd => ckD p.2) = O at *
    have hO : ∀ p ∈ O, Cnd H7 T.C_Candidate p.1 p.2 := fun p hp => hN p (pm.mem_iff.mp hp)
    have sc : sortCd (N.map (·.2)) = O.map (·.2) := em3.symm
    rw [sc] at q
    have e8 : ((fun x : V × PyData => x.1) ∘ fun x : Addr × Cd => (V.ref x.1, ckD x.2)) = fun p => V.ref p.1 := rfl
    rw [e8]
    have s8 : Same H7 (upd H7 p8 (.lst (O.map fun p => V.ref p.1))) := same_new hp8
    have f8 : upd H7 p8 (.lst (O.map fun p => V.ref p.1)) p8 = some (.lst (O.map fun p => V.ref p.1)) := upd_same
    generalize upd H7 p8 (.lst (O.map fun p => V.ref p.1)) = H8 at *
    refine tupL (sql_of f8) fun p9 hp9 => ?_
    have s9 := same_new (o := .tup (O.map fun p => V.ref p.1)) hp9
    have f9 : upd H8 p9 (.tup (O.map fun p => V.ref p.1)) p9 = some (.tup (O.map fun p => V.ref p.1)) := upd_same
    generalize upd H8 p9 (.tup (O.map fun p => V.ref p.1)) = H9 at *
    have s79 := s8.trans s9
    have hx9 := s79 _ _ hx7
    refine ⟨_, _, _, hx9, T.cl_Library, T.no_Library_own_candidates, (show 3 < 1000 by decide), ?_⟩
    walk_at "rdx"
    have ef4 : putF (Str.ofString "own_candidates") (V.ref p9) [(Str.ofString "own_marks", V.ref am), (Str.ofString "own_bases", V.ref ab), (Str.ofString "own_conversions", V.ref p5)] = [(Str.ofString "own_marks", V.ref am), (Str.ofString "own_bases", V.ref ab), (Str.ofString "own_conversions", V.ref p5), (Str.ofString "own_candidates", V.ref p9)] := rfl
    rw [ef4]
    have hcd9 : CdsA K T.C_Candidate H9 p9 (O.map (·.2)) := by
      obtain ⟨g1, g2⟩ := of_pairs (R := fun b c => Cnd H7 T.C_Candidate b c) hO
      exact ⟨_, sqt_of f9, g1, fun i c e => let ⟨b, e1, e2⟩ := g2 i c e; ⟨b, e1, Cnd.same e2 s79⟩⟩
    have t9 := tabs_same t7 s79
    have hcv9 := hcv7.same s79
    have fm9 : H9 am = some (.tup (ms.map V.str)) := s79 _ _ (B7.tup hx1 (s1 _ _ fm))
    have fb9 : H9 ab = some (.tup (bs.map V.str)) := s79 _ _ (B7.tup hx1 (s1 _ _ fb))
    have BA : Bx x H H9 := fun b o n1 n2 h => s79 _ _ (B7 b o n1 n2 (s1 _ _ h))
    clear hO sc em3 pm hN hys lys fys f8 f9 hcv7 hcv6 hcd1 hcv1 B7 B6 B5 B2 B56
    intro p10 hp10
    have hA : upd H9 x (.ins T.C_Library dx [(Str.ofString "own_marks", V.ref am), (Str.ofString "own_bases", V.ref ab), (Str.ofString "own_conversions", V.ref p5), (Str.ofString "own_candidates", V.ref p9)]) x = some (.ins T.C_Library dx [(Str.ofString "own_marks", V.ref am), (Str.ofString "own_bases", V.ref ab), (Str.ofString "own_conversions", V.ref p5), (Str.ofString "own_candidates", V.ref p9)]) := upd_same
    have tA := tabs_ins (o := .ins T.C_Library dx [(Str.ofString "own_marks", V.ref am), (Str.ofString "own_bases", V.ref ab), (Str.ofString "own_conversions", V.ref p5), (Str.ofString "own_candidates", V.ref p9)]) t9 hx9
    have BB : Bx x H9 (upd H9 x (.ins T.C_Library dx [(Str.ofString "own_marks", V.ref am), (Str.ofString "own_bases", V.ref ab), (Str.ofString "own_conversions", V.ref p5), (Str.ofString "own_candidates", V.ref p9)])) := (Bx.refl x H9).mut
    generalize upd H9 x (.ins T.C_Library dx [(Str.ofString "own_marks", V.ref am), (Str.ofString "own_bases", V.ref ab), (Str.ofString "own_conversions", V.ref p5), (Str.ofString "own_candidates", V.ref p9)]) = HA at *
    have sB := same_new (o := .dK []) hp10
    have fB : upd HA p10 (.dK []) p10 = some (.dK []) := upd_same
    generalize upd HA p10 (.dK []) = HB at *
    have hB := sB _ _ hA
    refine ⟨_, _, _, hB, T.cl_Library, T.no_Library_own_tables, (show 4 < 1000 by decide), ?_⟩
    have ef5 : putF (Str.ofString "own_tables") (V.ref p10) [(Str.ofString "own_marks", V.ref am), (Str.ofString "own_bases", V.ref ab), (Str.ofString "own_conversions", V.ref p5), (Str.ofString "own_candidates", V.ref p9)] = [(Str.ofString "own_marks", V.ref am), (Str.ofString "own_bases", V.ref ab), (Str.ofString "own_conversions", V.ref p5), (Str.ofString "own_candidates", V.ref p9), (Str.ofString "own_tables", V.ref p10)] := rfl
    rw [ef5]
    have g : Bx x H9 (upd HB x (.ins T.C_Library dx [(Str.ofString "own_marks", V.ref am), (Str.ofString "own_bases", V.ref ab), (Str.ofString "own_conversions", V.ref p5), (Str.ofString "own_candidates", V.ref p9), (Str.ofString "own_tables", V.ref p10)])) := (BB.same sB).mut
    refine q _ ⟨fun b o n1 n2 h => g b o n1 n2 (BA b o n1 n2 h), dx, am, ab, p5, p9, _, upd_same, rfl, rfl, rfl, rfl, rfl, rfl, g.tup hx9 fm9, g.tup hx9 fb9, g.cvs hx9 hcv9, g.cds hx9 rfl hcd9⟩ (tabs_ins (tabs_same tA sB) hB)
end

local macro_rules | `(tactic| walk_at "rdx") => `(tactic| ((try simp only [tFld, gTup, gStar, tJs, tFmt, sFld, tMake, tMakeL]); try walk_at "rd"))
section
variable {w : World} {K : PySem.W.Frag} {mg : Str → Option Value} {base : Heap}
/-- marks and a base -/
def tyIn (ms bs ws : List Str) : Prop := ∃ xs z, ws = xs ++ [z] ∧ (∀ m ∈ xs, m ∈ ms) ∧ z ∈ bs
theorem ex_in {P : Str → Prop} {zs : List V} (h : ∀ (i : Nat) y, zs[i]? = some y → ∃ w, y = V.str w ∧ P w) : ∃ ws : List Str, zs = ws.map V.str ∧ ∀ w ∈ ws, P w := by
  induction zs with
  | nil => exact ⟨[], rfl, fun w hw => nomatch hw⟩
  | cons z zs ih =>
    obtain ⟨w, rfl, hw⟩ := h 0 z rfl
    obtain ⟨ws, rfl, k⟩ := ih fun i y e => h (i + 1) y e
    exact ⟨w :: ws, rfl, fun x hx => (List.mem_cons.mp hx).elim (fun e => e ▸ hw) fun q => k x q⟩
theorem names_to {ws : List Str} {lo hi : Int} (h : ∀ w ∈ ws, isNm w = true) (h1 : lo ≤ ws.length) (h2 : (ws.length : Int) ≤ hi) : namesV (ws.map V.str) lo hi = true := by
  unfold namesV
  rw [List.length_map, decide_eq_true h1, decide_eq_true h2]
  simp only [Bool.true_and]
  rw [List.all_eq_true]
  intro x hx
  obtain ⟨w, hw, rfl⟩ := List.mem_map.mp hx
  exact h w hw
theorem tyIn.nm {ms bs ws : List Str} (h : tyIn ms bs ws) (h1 : ∀ w ∈ ms, isNm w = true) (h2 : ∀ w ∈ bs, isNm w = true) : (∀ w ∈ ws, isNm w = true) ∧ 1 ≤ ws.length := by
  obtain ⟨xs, z, rfl, h3, h4⟩ := h
  refine ⟨fun w hw => ?_, by simp⟩
  rcases List.mem_append.mp hw with hw | hw
  · exact h1 w (h3 w hw)
  · rw [List.mem_singleton.mp hw]
    exact h2 z h4
def sideIn (ms bs : List Str) (p : Bool × List Str) : Prop := if p.1 = true then ∀ m ∈ p.2, m ∈ ms else tyIn ms bs p.2
theorem within_sides {ms bs : List Str} {it : Itm} (h : ∀ p ∈ sidesI it, sideIn ms bs p) : withinB ms bs it = true := by
  unfold withinB
  rw [Bool.and_eq_true, List.all_eq_true, List.all_eq_true]
  refine ⟨fun m hm => decide_eq_true ?_, fun b hb => decide_eq_true ?_⟩
  · unfold mksI mksS at hm
    rcases List.mem_append.mp hm with hm | hm
    · obtain ⟨ws, hw, hm⟩ := List.mem_flatten.mp hm
      have := h _ (fr_mem hw)
      unfold sideIn at this
      rw [if_pos rfl] at this
      exact this m hm
    · obtain ⟨ws, hw, hm⟩ := List.mem_flatMap.mp hm
      have := h _ (ty_mem hw)
      unfold sideIn at this
      rw [if_neg (by simp)] at this
      obtain ⟨xs, z, e, h3, h4⟩ := this
      have e : ws = xs ++ [z] := e
      subst e
      rw [List.dropLast_concat] at hm
      exact h3 m hm
  · unfold bssI bssS at hb
    obtain ⟨ws, hw, rfl⟩ := List.mem_map.mp hb
    have := h _ (ty_mem hw)
    unfold sideIn at this
    rw [if_neg (by simp)] at this
    obtain ⟨xs, z, e, h3, h4⟩ := this
    have e : ws = xs ++ [z] := e
    subst e
    rw [List.getLast?_concat]
    exact h4
/-- what the law calls a conversion: one over the marks and bases, or None -/
def CvDrawn (H : Hp) (ms bs : List Str) (v : V) : Prop := v = .non ∨ ∃ (a : Addr) (c : Cv), v = .ref a ∧ cvA H a c ∧ cvOk c = true ∧ withinB ms bs (.cv c) = true
theorem ex_pts {H : Hp} {ms bs : List Str} : ∀ {ys : List V}, (∀ (i : Nat) y, ys[i]? = some y → ∃ (t : Bool × List Str) (b : Addr), y = .ref b ∧ ptA H b t.1 t.2 ∧ (ptOk t = true ∧ sideIn ms bs t)) →
    ∃ ps : List (Bool × List Str), ps.length = ys.length ∧ (∀ p ∈ ps, ptOk p = true ∧ sideIn ms bs p) ∧ ∀ (i : Nat) p, ps[i]? = some p → ∃ b, ys[i]? = some (.ref b) ∧ ptA H b p.1 p.2
  | [], _ => ⟨[], rfl, (fun p h => nomatch h), (fun i p h => nomatch h)⟩
  | y :: ys, h => by
    obtain ⟨t, b, rfl, h1, h2⟩ := h 0 y rfl
    obtain ⟨ps, e, k1, k2⟩ := ex_pts (ys := ys) fun i y hy => h (i + 1) y hy
    refine ⟨t :: ps, by simp [e], fun p hp => ?_, fun i p hp => ?_⟩
    · rcases List.mem_cons.mp hp with rfl | hp
      · exact h2
      · exact k1 p hp
    · cases i with
      | zero =>
        cases hp
        exact ⟨b, rfl, h1⟩
      | succ i => exact k2 i p hp
def intsR (n : Nat) : List V := (List.range n).map fun i : Nat => V.int i
theorem intsR_len {n : Nat} : (intsR n).length = n := by simp [intsR]
theorem walkR {n : Nat} : Walk (Itr 0 n) (intsR n).length (fun _ => True) (YAt (intsR n)) := by
  rw [intsR_len]
  refine walk_range.mono (fun _ _ => trivial) fun i H x H' hi _ y => ⟨y.1, ?_⟩
  rw [y.2]
  simp [intsR, hi]
theorem ne_ints {H : Hp} {a b : Addr} {ns : List Nat} {Q : VK} (ha : H a = some (.lst (ns.map fun n : Nat => V.int n))) (hb : H b = some (.lst [])) (hn : ∀ n ∈ ns, n < 3) (q : Q (.bl (!decide (ns = []))) H) : rNeD K (.ref a) (.ref b) H Q := by
  have g1 : Gd (.list (ns.map fun n : Nat => PyData.int n)) 1 (ns.length * (1 + 2) + 3) := by
    have := Gd.list (ds := ns.map fun n : Nat => PyData.int n) (k := 0) (n := 1) fun d hd => by
      obtain ⟨n, hn', rfl⟩ := List.mem_map.mp hd
      have hn3 := hn n hn'
      refine Gd.int ?_ ?_
      · show n.log2 < 1920
        have := Nat.log2_le_self n
        omega
      · have := numT_len hn3
        unfold numT at this
        omega
    rw [List.length_map] at this
    exact this
  have g2 : Gd (.list []) 1 3 := Gd.list (ds := []) (k := 0) (n := 0) fun d hd => absurd hd (by simp)
  refine ⟨.list (ns.map fun n : Nat => PyData.int n), .list [], .lst (sql_of ha) (dp_map (by simp) fun i n hn => ⟨V.int n, by simp [hn], .int _⟩), .lst (sql_of hb) .nil, g1.shaped (by decide), g2.shaped (by decide), ?_⟩
  have e : PyData.eqv (.list (ns.map fun n : Nat => PyData.int n)) (.list []) = decide (ns = []) := by
    cases ns with
    | nil => simp [PyData.eqv, PyData.eqvAll]
    | cons n r => simp [PyData.eqv, PyData.eqvAll]
  rw [e]
  exact q
def openAt (ps : List (Bool × List Str)) : V → Bool
  | .int i => (ps.map (·.1)).getD i.toNat false
  | _ => false
theorem filt_ints {n : Nat} {P : V → Bool} : (intsR n).filter P = ((List.range n).filter fun i : Nat => P (V.int i)).map fun i : Nat => V.int i := by
  unfold intsR
  rw [List.filter_map]
  rfl
end

set_option pp.maxSteps 3500

local macro_rules | `(tactic| walk_at "rdx") => `(tactic| ((try simp only [tFld, gTup, gStar, tJs, tFmt, sFld, tSc_eq, tDNewN, sDPutN, iKeysN, tDGetN, tLockE]); try walk_at "rd"))
section
variable {w : World} {K : PySem.W.Frag} {mg : Str → Option Value} {base : Heap}
theorem cvA.smt {H H' : Hp} {a : Addr} {c : Cv} (st : SmT H H') (h : cvA H a c) : cvA H' a c := let ⟨l, r, h1, h2, h3⟩ := h; ⟨l, r, st _ _ h1, st _ _ h2, st _ _ h3⟩
theorem cdT.smt {H H' : Hp} {a : Addr} {c : Cd} (st : SmT H H') (h : cdT H a c) : cdT H' a c := by
  obtain ⟨pa, ra, h1, ⟨xs, h2, h3, h4⟩, b, h5, h6⟩ := h
  refine ⟨pa, ra, st _ _ h1, ⟨xs, st _ _ h2, h3, fun i p e => ?_⟩, b, st _ _ h5, st _ _ h6⟩
  obtain ⟨b, e1, b2, e2, e3⟩ := h4 i p e
  exact ⟨b, e1, b2, st _ _ e2, st _ _ e3⟩
theorem CvDrawn.smt {H H' : Hp} {ms bs : List Str} {v : V} (st : SmT H H') (h : CvDrawn H ms bs v) : CvDrawn H' ms bs v := by
  rcases h with h | ⟨a, c, h1, h2, h3, h4⟩
  · exact .inl h
  · exact .inr ⟨a, c, h1, cvA.smt st h2, h3, h4⟩
/-- all but D stays -/
def SB (D : Addr) (H H' : Hp) : Prop := ∀ b o, b ≠ D → H b = some o → H' b = some o
theorem SB.of {D : Addr} {H H' : Hp} (s : Same H H') : SB D H H' := fun b o _ h => s b o h
theorem SB.same {D : Addr} {H H1 H2 : Hp} (g : SB D H H1) (s : Same H1 H2) : SB D H H2 := fun b o n h => s b o (g b o n h)
theorem SB.mut {D : Addr} {H H1 : Hp} {o : HO} (g : SB D H H1) : SB D H (upd H1 D o) := fun b u n h => by
  rw [upd_ne n]
  exact g b u n h
theorem SB.smt {D : Addr} {H H' : Hp} {φ : Heap → Prop} (g : SB D H H') (h : H D = some (.ext φ)) : SmT H H' := fun a xs e => g a _ (ne_of e h fun z => nomatch z) e
theorem smt_ext {D : Addr} {H : Hp} {φ : Heap → Prop} {o : HO} (h : H D = some (.ext φ)) : SmT H (upd H D o) := fun a xs e => by
  rw [upd_ne (ne_of e h fun z => nomatch z)]
  exact e
theorem keyAt_ext {D b : Addr} {H : Hp} {φ : Heap → Prop} {o : HO} {k : NestedKey} (h : H D = some (.ext φ)) (q : KeyAt K H k b) : KeyAt K (upd H D o) k b := q.mono fun a xs t => sqt_ext h t
theorem keyAt_same {b : Addr} {H H' : Hp} {k : NestedKey} (s : Same H H') (q : KeyAt K H k b) : KeyAt K H' k b := q.mono fun a xs t => Evl.ex_t s t
theorem ex_list {α : Type} {f : α → V} {P : α → Prop} : ∀ {ys : List V}, (∀ y ∈ ys, ∃ x, y = f x ∧ P x) → ∃ L : List α, ys = L.map f ∧ ∀ x ∈ L, P x
  | [], _ => ⟨[], rfl, fun x h => nomatch h⟩
  | y :: ys, h => by
    obtain ⟨x, rfl, hx⟩ := h y (.head _)
    obtain ⟨L, rfl, k⟩ := ex_list (ys := ys) fun z hz => h z (.tail _ hz)
    exact ⟨x :: L, rfl, fun z hz => (List.mem_cons.mp hz).elim (fun e => e ▸ hx) fun q => k z q⟩
theorem Gr.sb {d p : Addr} {H H1 H2 : Hp} (g : Gr d H H1) (s : SB p H1 H2) (hp : H p = none) (ne : p ≠ d) : Gr d H H2 := by
  refine ⟨g.pre, fun a o n h => s a o (ne_of_none h hp) (g.keep a o n h), ?_⟩
  obtain ⟨x, y, z, q⟩ := g.dice
  exact ⟨x, y, z, s _ _ ne.symm q⟩
theorem ent_pairs {α : Type} {R : Addr → α → Prop} {key : α → NestedKey} : ∀ {L : Ents}, (∀ e ∈ L, ∃ (a : Addr) (c : α), e.2.2 = .ref a ∧ R a c ∧ e.1 = key c) → ∃ M : List (Addr × α), L.map (·.2.2) = M.map (fun p => V.ref p.1) ∧ L.map (·.1) = M.map (fun p => key p.2) ∧ ∀ p ∈ M, R p.1 p.2
  | [], _ => ⟨[], rfl, rfl, fun p h => nomatch h⟩
  | e :: L, h => by
    obtain ⟨a, c, h1, h2, h3⟩ := h e (.head _)
    obtain ⟨M, e1, e2, e3⟩ := ent_pairs (L := L) fun x hx => h x (.tail _ hx)
    refine ⟨(a, c) :: M, by rw [List.map_cons, e1, h1]; rfl, by rw [List.map_cons, e2, h3]; rfl, fun p hp => ?_⟩
    rcases List.mem_cons.mp hp with rfl | hp
    · exact h2
    · exact e3 p hp
/-- the conversions by their keys -/
def EntCv (K : PySem.W.Frag) (H : Hp) (ms bs : List Str) (L : Ents) : Prop := (L.map (·.1)).Nodup ∧ ∀ e ∈ L, KeyAt K H e.1 e.2.1 ∧ ∃ (a : Addr) (c : Cv), e.2.2 = .ref a ∧ cvA H a c ∧ (cvOk c = true ∧ withinB ms bs (.cv c) = true) ∧ e.1 = cvK c
def EntCd (K : PySem.W.Frag) (H : Hp) (ms bs ns : List Str) (L : Ents) : Prop := (L.map (·.1)).Nodup ∧ ∀ e ∈ L, KeyAt K H e.1 e.2.1 ∧ ∃ (a : Addr) (c : Cd), e.2.2 = .ref a ∧ cdT H a c ∧ (CdOk c ∧ withinB ms bs (.cd c) = true ∧ c.nm ∈ ns) ∧ e.1 = cdK c
theorem gr_sqt {d : Addr} {H H' : Hp} (g : Gr d H H') {a : Addr} {xs : List V} (h : SqT K H a xs) : SqT K H' a xs := by
  obtain ⟨x, y, z, q⟩ := g.pre
  rcases h with (h | ⟨u, h⟩) | h
  · exact .inl (.inl (g.keep _ _ (ne_of h q fun z => nomatch z) h))
  · exact .inl (.inr ⟨u, g.keep _ _ (ne_of h q fun z => nomatch z) h⟩)
  · exact .inr h
theorem keyAt_gr {d b : Addr} {H H' : Hp} {k : NestedKey} (g : Gr d H H') (q : KeyAt K H k b) : KeyAt K H' k b := q.mono fun a xs t => gr_sqt g t
theorem sortTx {H : Hp} {l : Addr} {ws : List Str} {Q : VK} (h : H l = some (.lst (ws.map V.str))) (q : ∀ p, H p = none → Q (.ref p) (upd H p (.lst ((sortZ ws).map V.str)))) : rSortD K [.ref l] H Q := by
  have e1 : (ws.map fun z => (V.str z, PyData.str z)).map (·.1) = ws.map V.str := by rw [List.map_map]; rfl
  have e2 : (ws.map fun z => (V.str z, PyData.str z)).map (·.2) = ws.map PyData.str := by rw [List.map_map]; rfl
  refine ⟨l, ws.map fun z => (V.str z, PyData.str z), rfl, .inl (by rw [e1]; exact sql_of h), fun p hp => ?_, ?_, ?_, fun p hp => ?_⟩
  · obtain ⟨z, _, rfl⟩ := List.mem_map.mp hp
    exact ⟨.str z, Nat.zero_le _⟩
  · rw [e2]
    exact .of (enc := PyData.str) fun _ _ => rfl
  · rw [e2]
    exact .others (enc := PyData.str) fun b => ⟨(fun z => nomatch z), (fun xs z => nomatch z)⟩
  · rw [sort_map PyData.str V.str ws, List.map_map]
    have := q p hp
    unfold sortZ at this
    rw [show leZ = PySem.W.dataLe false PyData.str from (PySem.W.dataLe_str (fun z : Str => z)).symm] at this
    exact this
end

local macro_rules | `(tactic| walk_at "rdx") => `(tactic| ((try simp only [tFld, gTup, gStar, tJs, tFmt, sFld, tSc_eq, tDNewN, sDPutN, iKeysN, tDGetN, tDGet, tLockE, tMake, tMakeK]); try walk_at "rd"))
section
variable {w : World} {K : PySem.W.Frag} {mg : Str → Option Value} {base : Heap}
theorem u1 {a : Nat} (h : a + 64 < cLine) : a + 1 < cLine := by omega
/-- all but lists and tables stays -/
def SmX (H H' : Hp) : Prop := ∀ b o, (∀ l, o ≠ .lst l) → (∀ ps, o ≠ .tbl ps) → H b = some o → H' b = some o
theorem SmX.of {H H' : Hp} (s : Same H H') : SmX H H' := fun b o _ _ h => s _ _ h
theorem SmX.lst {H : Hp} {D : Addr} {l l' : List V} (h : H D = some (.lst l)) : SmX H (upd H D (.lst l')) := fun b o n _ e => by
  rw [upd_ne]
  · exact e
  · intro z
    rw [z, h] at e
    cases e
    exact n _ rfl
theorem SmX.trans {H H1 H2 : Hp} (a : SmX H H1) (b : SmX H1 H2) : SmX H H2 := fun p o n n2 h => b _ _ n n2 (a _ _ n n2 h)
theorem SmX.smt {H H' : Hp} (a : SmX H H') : SmT H H' := fun b xs h => a b _ (fun _ e => nomatch e) (fun _ e => nomatch e) h
theorem ptsA.smt {H H' : Hp} {a : Addr} {ps : List (Bool × List Str)} (st : SmT H H') (h : ptsA H a ps) : ptsA H' a ps := by
  obtain ⟨xs, h2, h3, h4⟩ := h
  refine ⟨xs, st _ _ h2, h3, fun i p e => ?_⟩
  obtain ⟨b, e1, b2, e2, e3⟩ := h4 i p e
  exact ⟨b, e1, b2, st _ _ e2, st _ _ e3⟩
theorem rsA.smt {H H' : Hp} {a : Addr} {ws : List Str} {t : Option Nat} (st : SmT H H') (h : rsA H a ws t) : rsA H' a ws t := let ⟨b, h1, h2⟩ := h; ⟨b, st _ _ h1, st _ _ h2⟩
theorem Cnd.smx {H H' : Hp} {C a : Addr} {c : Cd} (st : SmX H H') (h : Cnd H C a c) : Cnd H' C a c := by
  obtain ⟨dx, pa, ra, ka, fs, k⟩ := h
  exact ⟨dx, pa, ra, ka, fs, st _ _ (fun _ e => nomatch e) (fun _ e => nomatch e) k.at_, k.f1, k.f2, k.f3, k.f4, k.ps.smt st.smt, k.rs.smt st.smt, st.smt _ _ k.ky⟩
section
variable {J : It} {n : Nat} {G : Hp → Prop} {Y : Nat → Hp → V → Hp → Prop} {g : TG} {tt : TT} {te : TE} {vs : List Nat} {σ : L2.St} {H1 : Hp} {Q : VK}
theorem lc_monX (w : Walk J n G Y) (P : Nat → V → Hp → Prop) (hP : ∀ i y H H', SmX H H' → P i y H → P i y H') (hn : n ≤ sizeLine) (hG : ∀ H, Same H1 H → G H)
    (hs : ∀ i x H H', i < n → Same H1 H → Y i H x H' → ∀ R : VK, (∀ y H4, Same H H4 → P i y H4 → R y H4) →
      g x (wipe σ vs) H' fun σ2 H2 => wipe σ2 vs = wipe σ vs ∧ tt σ2 H2 fun b H3 => b = true ∧ te σ2 H3 R)
    (mono : ∀ (x : V) (σ' : L2.St) (H' : Hp) (A B : L2.St → Hp → Prop), (∀ s h, A s h → B s h) → g x σ' H' A → g x σ' H' B)
    (monoT : ∀ (σ' : L2.St) (H' : Hp) (A B : Bool → Hp → Prop), (∀ b h, A b h → B b h) → tt σ' H' A → tt σ' H' B)
    (hd : ∀ H D ys, Same H1 H → H1 D = none → ys.length = n → (∀ (i : Nat) y, ys[i]? = some y → P i y H) → H D = some (.lst ys) → Q (.ref D) H) : LcB J g tt te vs σ Q H1 := by
  intro D hD
  refine lc_it w (fun i H => Same H1 H ∧ ∃ ys, ys.length = i ∧ (∀ (j : Nat) y, ys[j]? = some y → P j y H) ∧ H D = some (.lst ys)) ⟨same_new hD, [], rfl, (fun j y h => nomatch h), upd_same⟩
    (fun i H _ h => hG H h.1) ?_ (fun H h => let ⟨hS, ys, hl, hp, hL⟩ := h; hd H D ys hS hD hl hp hL)
  rintro i x H H' hi ⟨hS, ys, hl, hp, hL⟩ hy
  have := hs i x H H' hi hS hy
    (fun y H4 => ∃ acc, H4 D = some (.lst acc) ∧ acc.length < sizeLine ∧
      (Same H1 (upd H4 D (.lst (acc ++ [y]))) ∧ ∃ zs, zs.length = i + 1 ∧ (∀ (j : Nat) z, zs[j]? = some z → P j z (upd H4 D (.lst (acc ++ [y])))) ∧ upd H4 D (.lst (acc ++ [y])) D = some (.lst zs)))
    (fun y H4 s4 py => ⟨ys, s4 _ _ hL, by rw [hl]; omega, same_mut (hS.trans s4) hD, ys ++ [y], by rw [List.length_append, hl]; rfl, fun j z hz => ?_, upd_same⟩)
  · refine mono _ _ _ _ _ ?_ this
    rintro s h ⟨e, h2⟩
    refine ⟨e, monoT _ _ _ _ ?_ h2⟩
    rintro b h3 ⟨rfl, h4⟩
    rw [if_pos rfl]
    exact h4
  · have st : SmX H4 (upd H4 D (.lst (ys ++ [y]))) := SmX.lst (s4 _ _ hL)
    by_cases hj : j < i
    · rw [List.getElem?_append_left (by omega)] at hz
      exact hP _ _ _ _ ((SmX.of s4).trans st) (hp j z hz)
    · have e : j = i := by
        have := (List.getElem?_eq_some_iff.mp hz).1
        rw [List.length_append, hl] at this
        simp at this
        omega
      subst e
      rw [List.getElem?_append_right (by omega), hl, Nat.sub_self] at hz
      cases hz
      exact hP _ _ _ _ st py
end
theorem asc_sorted : ∀ {ws : List Str}, (ws.Pairwise fun x y => leZ x y = true) → ws.Nodup → ascB ws = true
  | [], _, _ => rfl
  | [_], _, _ => rfl
  | x :: y :: l, hp, hn => by
    have h1 := (List.pairwise_cons.mp hp).1 y (.head _)
    have h2 := (List.nodup_cons.mp hn).1
    have ih := asc_sorted (ws := y :: l) (List.pairwise_cons.mp hp).2 (List.nodup_cons.mp hn).2
    show (decide (x.cps.toList < y.cps.toList) && ascB (y :: l)) = true
    rw [ih, Bool.and_true]
    by_cases h : x.cps.toList < y.cps.toList
    · exact decide_eq_true h
    · have h3 : leZ y x = true := decide_eq_true (List.not_lt.mp h)
      exact absurd (leZ_anti h1 h3 ▸ List.mem_cons_self) h2
theorem sortZ_mem {ws : List Str} {z : Str} : z ∈ sortZ ws ↔ z ∈ ws := (sortZ_perm ws).mem_iff
/-- the marks and the bases that are drawn -/
structure SdOk (ms bs : List Str) : Prop where
  nm : ∀ w ∈ ms, isNm w = true
  nb : ∀ w ∈ bs, isNm w = true
  lm : ms.length ≤ 8
  lb : bs.length ≤ 8
  lo : 1 ≤ bs.length
  dm : ms.Nodup
  db : bs.Nodup
  ap : ∀ m ∈ ms, m ∉ bs
theorem namesV_of {ws : List Str} {lo hi : Int} (h : ∀ w ∈ ws, isNm w = true) (l : lo ≤ ws.length) (l' : (ws.length : Int) ≤ hi) : namesV (ws.map V.str) lo hi = true := by
  unfold namesV
  rw [List.length_map, decide_eq_true l, decide_eq_true l', List.all_map]
  exact List.all_eq_true.mpr h
theorem SdOk.sort {ms bs : List Str} (h : SdOk ms bs) : SdOk (sortZ ms) (sortZ bs) :=
  ⟨fun w hw => h.nm w (sortZ_mem.mp hw), fun w hw => h.nb w (sortZ_mem.mp hw), by rw [(sortZ_perm ms).length_eq]; exact h.lm, by rw [(sortZ_perm bs).length_eq]; exact h.lb, by rw [(sortZ_perm bs).length_eq]; exact h.lo,
    (sortZ_perm ms).nodup_iff.mpr h.dm, (sortZ_perm bs).nodup_iff.mpr h.db, fun m hm z => h.ap m (sortZ_mem.mp hm) (sortZ_mem.mp z)⟩
theorem SdOk.nms {ms bs : List Str} {H : Hp} {a : Addr} (h : SdOk ms bs) (e : H a = some (.tup (ms.map V.str))) : Nms H (.ref a) ms 0 8 := ⟨⟨a, rfl, e⟩, namesV_of h.nm (by omega) (by have := h.lm; omega)⟩
theorem SdOk.nbs {ms bs : List Str} {H : Hp} {a : Addr} (h : SdOk ms bs) (e : H a = some (.tup (bs.map V.str))) : Nms H (.ref a) bs 1 8 := ⟨⟨a, rfl, e⟩, namesV_of h.nb (by have := h.lo; omega) (by have := h.lb; omega)⟩
theorem SdOk.ordS {ms bs : List Str} (h : SdOk ms bs) : (ascB (sortZ ms) && ascB (sortZ bs) && apartB (sortZ ms) (sortZ bs)) = true := by
  rw [asc_sorted (sortZ_le ms) h.sort.dm, asc_sorted (sortZ_le bs) h.sort.db]
  show apartB _ _ = true
  unfold apartB
  rw [Bool.not_eq_true', List.any_eq_false]
  exact fun m hm z => h.sort.ap m hm (of_decide_eq_true z)
theorem LibIs.same {C : Addr} {H H' : Hp} {m b v u : V} {r : Bool} (h : LibIs K C H m b v u r) (s : Same H H') : LibIs K C H' m b v u r := by
  cases h with
  | marks h n => exact .marks (Told.same h s) n
  | bases hm h n => exact .bases (hm.same s) (Told.same h s) n
  | order hm hb n => exact .order (hm.same s) (hb.same s) n
  | items hm hb h => exact .items (hm.same s) (hb.same s) (h.same s)
  | full hm hb o h h' l l' o1 o2 => exact .full (hm.same s) (hb.same s) o (h.same s) (h'.same s) l l' o1 o2
theorem born {H : Hp} {x dx C : Addr} (hx : H x = none) (hdx : H dx = none) : Same H (upd (upd H dx (.own x)) x (.ins C dx [])) := by
  intro b o e
  rw [upd_ne (ne_of_none e hx), upd_ne (ne_of_none e hdx)]
  exact e
/-- Library(..) of parts that are fine -/
theorem lib_ok {T : List (Addr × Str)} {CI CL CC : Addr} {H : Hp} {m b : V} {y z : Addr} {ms bs : List Str} {cvs : List Cv} {cds : List Cd} {R : Addr → Hp → Prop} {E : XK} (t : LamX.Tabs T H) (hm : Nms H m ms 0 8) (hb : Nms H b bs 1 8) (o : (ascB ms && ascB bs && apartB ms bs) = true)
    (hc : CvsA K H y cvs) (hd : CdsA K CC H z cds) (l : cvs.length ≤ 16) (l' : cds.length ≤ 16) (o1 : ∀ c ∈ cvs, cvOk c = true) (o2 : ∀ c ∈ cds, CdOk c) (n1 : (cvs.map cvK).Nodup) (n2 : (cds.map cdK).Nodup) (wi : ∀ it ∈ itemsL cvs cds, withinB ms bs it = true)
    (q : ∀ x H', LamX.ExtN H H' → LamX.Tabs T H' → LbA K CL CC H' x ⟨ms, bs, sortCv cvs, sortCd cds⟩ → R x H') :
    ∀ x dx, H x = none → H dx = none → dx ≠ x → spx_lib K T CI CL CC [.ref x, m, b, .ref y, .ref z] (upd (upd H dx (.own x)) x (.ins CL dx [])) (fun v H2 => v = .non ∧ R x H2) E := by
  intro x dx hx hdx ne
  have s1 := born (C := CL) hx hdx
  have hl := LibIs.full (hm.same s1) (hb.same s1) o (hc.same s1) (hd.same s1) l l' o1 o2
  rw [decide_eq_true n1, decide_eq_true n2, List.all_eq_true.mpr wi] at hl
  exact ⟨x, dx, m, b, .ref y, .ref z, true, rfl, upd_same, tabs_same t s1, hl, (fun e => nomatch e), fun _ => ⟨ms, bs, cvs, cds, y, z, hm.same s1, hb.same s1, rfl, rfl, hc.same s1, hd.same s1, l, l', fun H' md tb => ⟨rfl, q x H' (fun a o e n => md.1 a o (ne_of_none e hx) n (s1 _ _ e)) tb md.2⟩⟩⟩
end

local macro_rules | `(tactic| walk_at "rdx") => `(tactic| ((try simp only [tFld, gTup, gStar, tJs, tFmt, sFld, tMake, tMakeL, tDGet]); try walk_at "rd"))
section
variable {w : World} {K : PySem.W.Frag} {mg : Str → Option Value} {base : Heap}
def sp_mixed : Sp := fun vs H Q _ => ∃ (d l : Addr) (xs : List V), vs = [.ref d, .ref l] ∧ Dc H d ∧ l ≠ d ∧ H l = some (.lst xs) ∧ xs.length ≤ 1000 ∧
  ∀ p H' (ys : List V), Gr d H H' → H p = none → p ≠ d → H' p = some (.lst ys) → ys.Perm xs → Q (.ref p) H'
def inv_mixed (d l0 l p : Addr) (xs : List V) (H : Hp) : Nat → L2.St → Hp → Prop := fun i σ H' =>
  ∃ (x4 : Option V) (ls fs : List V), σ = [some (.ref d), some (.ref l0), some (.ref l), some (.ref p), x4] ∧ Gr d H H' ∧ H' l = some (.lst ls) ∧ H' p = some (.lst fs) ∧ ls.length + i = xs.length ∧ fs.length = i ∧ (ls ++ fs).Perm xs
theorem take_outV {ls fs : List V} {j : Nat} (h : j < ls.length) : (ls.eraseIdx j ++ (fs ++ [ls[j]])).Perm (ls ++ fs) := by
  have h1 : (ls[j] :: ls.eraseIdx j).Perm ls := L2.erase_perm ls j _ (List.getElem?_eq_getElem h)
  have h2 : (ls.eraseIdx j ++ (fs ++ [ls[j]])).Perm ((ls[j] :: ls.eraseIdx j) ++ fs) := by
    rw [← List.append_assoc]
    exact List.perm_append_singleton _ _
  exact h2.trans (h1.append_right fs)
theorem ok_law_mixed (T : Tx K mg) : FnOk P w K mg base CX0 2 T.f__law_mixed T.d__law_mixed ["_law_reel", "_law_items"] sp_mixed := by
  refine T.F__law_mixed.ok sc_law_mixed (fun vs H Q E h => ?_) (fun cdv A outer s H vs Q E hr h => ?_)
  · obtain ⟨d, l, xs, rfl, _⟩ := h
    rfl
  · obtain ⟨d, l0, xs, rfl, hd, nl0, hl0, hz, q⟩ := h
    refine ⟨_, (pss_cons (ps_par (i := 2) (j := 3) (by rfl) sc_law_mixed.nd rfl rfl (by decide) rfl rfl (pa_cons (pe_callTy call_list_of (by rfl) T.n_list (by decide +kernel) (pa_cons (pv 1) pa_nil)) (pa_cons (pe_lst pa_nil) pa_nil)) (by rfl))
      (pss_cons (ps_for PassesOwn.never rfl (pi_range1 (by rfl) T.n_range (pa_cons (pe_callB call_lenQ (by rfl) T.n_len (by decide +kernel) (pa_cons (pv 1) pa_nil)) pa_nil)) (pg_name (i := 4) sc_law_mixed.nd rfl (Or.inl rfl)) (pss_one (ps_expr (pe_bm PySem.F.plainAttrs_list PySem.F.slot_list_append PySem.F.type_list_append mt_append (pv 3) (pa_cons (pe_bm PySem.F.plainAttrs_list PySem.F.slot_list_pop PySem.F.type_list_pop mt_popAt (pv 2) (pa_cons (pe_call (ok_law_spin T) (hr.mono (by decide)) (by rfl) T.g__law_spin T.F__law_spin.kp T.b__law_spin .nil pass0 (pa_cons (pv 0) (pa_cons (pe_callB call_lenQ (by rfl) T.n_len (by decide +kernel) (pa_cons (pv 2) pa_nil)) pa_nil))) pa_nil)) pa_nil)))))
      (pss_one (ps_ret (pv 3))))), ?_⟩
    walk_at "rd"
    refine ⟨_, .inl (sql_of hl0), fun l hl => ⟨by decide, ?_⟩⟩
    have s1 := same_new (o := .lst xs) hl
    have f1 : upd H l (.lst xs) l = some (.lst xs) := upd_same
    generalize upd H l (.lst xs) = H1 at *
    intro p hp
    have s2 := same_new (o := .lst []) hp
    have f2 : upd H1 p (.lst []) p = some (.lst []) := upd_same
    generalize upd H1 p (.lst []) = H2 at *
    have s02 := s1.trans s2
    have g2 := Gr.same hd s02
    have nl : l ≠ d := hd.ne hl
    have hp0 : H p = none := (Gr.same hd s1).back hp
    have np : p ≠ d := hd.ne hp0
    have npl : p ≠ l := fun e => by
      rw [e, f1] at hp
      cases hp
    refine lenL (sql_of (s02 _ _ hl0)) ⟨_, rfl, by omega, by omega, ?_⟩
    rw [Int.toNat_natCast]
    refine forB walk_range (inv_mixed d l0 l p xs H) ?_ (fun _ _ _ _ _ => trivial) ?_ ?_
    · exact ⟨none, xs, [], rfl, g2, s2 _ _ f1, f2, by omega, rfl, by rw [List.append_nil]⟩
    · rintro i x σ Ha Hb hi ⟨x4, ls, fs, rfl, g, h1, h2, e1, e2, pm⟩ ⟨rfl, rfl⟩
      walk_at "rd"
      refine ⟨tyl (sql_of h2), tyl (sql_of h1), lenL (sql_of h1) ?_⟩
      refine ⟨d, _, rfl, by omega, by omega, g.dice, fun r x y w r0 r1 => ?_⟩
      obtain ⟨j, rfl⟩ := Int.eq_ofNat_of_zero_le r0
      have hj : j < ls.length := by omega
      have g3 : Gr d Hb (upd Hb d (.lst [.int x, .int y, .int w])) := Gr.roll g.dice
      refine ⟨l, ls, _, j, ls[j], rfl, rfl, g3.keep _ _ nl h1, by omega, by omega, seqIx hj, List.getElem?_eq_getElem hj, ?_⟩
      refine ⟨p, fs, ls[j], rfl, rfl, ?_, sz100' (by omega), ?_⟩
      · rw [upd_ne npl]
        exact g3.keep _ _ np h2
      · refine ⟨_, ls.eraseIdx j, fs ++ [ls[j]], rfl, ((g.trans g3).mut hl nl).mut hp0 np, ?_, upd_same, ?_, ?_, (take_outV hj).trans pm⟩
        · rw [upd_ne npl.symm, upd_same]
        · rw [List.length_eraseIdx, if_pos hj]
          omega
        · rw [List.length_append, e2]
          rfl
    · rintro σ Ha ⟨x4, ls, fs, rfl, g, h1, h2, e1, e2, pm⟩
      walk_at "rd"
      have e0 : ls = [] := List.length_eq_zero_iff.mp (by omega)
      rw [e0, List.nil_append] at pm
      exact q p Ha fs g hp0 np h2 pm
def pool : List Str := ["a", "b", "box", "list", "opt", "int", "text", "float", "marks", "bases", "value", "call", "drop", "open"].map Str.ofString
def pool2 : List Str := ["closed", "tooth", "given", "zzzzzzzz", "q", "gift"].map Str.ofString
theorem pool_nm : ∀ z ∈ pool ++ pool2, isNm z = true := by decide +kernel
theorem pool_nd : (pool ++ pool2).Nodup := by decide +kernel
def sp_words : Sp := fun vs H Q _ => ∃ (d : Addr) (k : Nat), vs = [.ref d, .int k] ∧ Dc H d ∧ k ≤ 20 ∧
  ∀ p H' (ws : List Str), Gr d H H' → H p = none → p ≠ d → H' p = some (.lst (ws.map V.str)) → (∀ z ∈ ws, isNm z = true) → ws.Nodup → ws.length = k → Q (.ref p) H'
theorem perm_strs {ys : List V} {ws : List Str} (h : ys.Perm (ws.map V.str)) : ∃ us : List Str, ys = us.map V.str ∧ us.Perm ws := by
  obtain ⟨us, e, _⟩ := ex_list (f := V.str) (P := fun _ => True) (ys := ys) fun y hy => by
    obtain ⟨z, _, e⟩ := List.mem_map.mp (h.mem_iff.mp hy)
    exact ⟨z, e.symm, trivial⟩
  subst e
  refine ⟨us, rfl, ?_⟩
  have h2 := h.map fun v => match v with | .str z => z | _ => Str.empty
  rw [List.map_map, List.map_map] at h2
  have e : ((fun v => match v with | V.str z => z | _ => Str.empty) ∘ V.str) = id := by funext z; rfl
  rw [e, List.map_id, List.map_id] at h2
  exact h2
theorem ok_law_words (T : Tx K mg) : FnOk P w K mg base CX0 3 T.f__law_words T.d__law_words ["_law_reel", "_law_size"] sp_words := by
  refine T.F__law_words.ok sc_law_words (fun vs H Q E h => ?_) (fun cdv A outer s H vs Q E hr h => ?_)
  · obtain ⟨d, k, rfl, _⟩ := h
    rfl
  · obtain ⟨d, k, rfl, hd, hk, q⟩ := h
    refine ⟨_, (pss_cons (ps_set (i := 2) sc_law_words.nd rfl (Or.inl rfl) (pe_lst (pa_cons pe_str (pa_cons pe_str (pa_cons pe_str (pa_cons pe_str (pa_cons pe_str (pa_cons pe_str (pa_cons pe_str (pa_cons pe_str (pa_cons pe_str (pa_cons pe_str (pa_cons pe_str (pa_cons pe_str (pa_cons pe_str (pa_cons pe_str pa_nil))))))))))))))))
      (pss_one (ps_ret (pe_slice sl_list (pe_call (ok_law_mixed T) (hr.mono (by decide)) (by rfl) T.g__law_mixed T.F__law_mixed.kp T.b__law_mixed .nil pass0 (pa_cons (pv 0) (pa_cons (pe_op op_cat (pv 2) (pe_lst (pa_cons pe_str (pa_cons pe_str (pa_cons pe_str (pa_cons pe_str (pa_cons pe_str (pa_cons pe_str pa_nil)))))))) pa_nil))) po_none (po_some (pv 1)))))), ?_⟩
    walk_at "rd"
    refine ⟨by decide, fun p1 hp1 => ⟨by decide, ?_⟩⟩
    have ep : ∀ p, upd H p (.lst [V.str (Str.ofString "a"), V.str (Str.ofString "b"), V.str (Str.ofString "box"), V.str (Str.ofString "list"), V.str (Str.ofString "opt"), V.str (Str.ofString "int"), V.str (Str.ofString "text"), V.str (Str.ofString "float"), V.str (Str.ofString "marks"), V.str (Str.ofString "bases"), V.str (Str.ofString "value"), V.str (Str.ofString "call"), V.str (Str.ofString "drop"), V.str (Str.ofString "open")]) = upd H p (.lst (pool.map V.str)) := fun p => rfl
    rw [ep]
    have s1 := same_new (o := .lst (pool.map V.str)) hp1
    have f1 : upd H p1 (.lst (pool.map V.str)) p1 = some (.lst (pool.map V.str)) := upd_same
    generalize upd H p1 (.lst (pool.map V.str)) = H1 at *
    intro p2 hp2
    have ep2 : ∀ p, upd H1 p (.lst [V.str (Str.ofString "closed"), V.str (Str.ofString "tooth"), V.str (Str.ofString "given"), V.str (Str.ofString "zzzzzzzz"), V.str (Str.ofString "q"), V.str (Str.ofString "gift")]) = upd H1 p (.lst (pool2.map V.str)) := fun p => rfl
    rw [ep2]
    have s2 := same_new (o := .lst (pool2.map V.str)) hp2
    have f2 : upd H1 p2 (.lst (pool2.map V.str)) p2 = some (.lst (pool2.map V.str)) := upd_same
    generalize upd H1 p2 (.lst (pool2.map V.str)) = H2 at *
    refine Lv.catL (s2 _ _ f1) f2 (by decide) fun p3 hp3 => ?_
    rw [← List.map_append]
    have s3 := same_new (o := .lst ((pool ++ pool2).map V.str)) hp3
    have f3 : upd H2 p3 (.lst ((pool ++ pool2).map V.str)) p3 = some (.lst ((pool ++ pool2).map V.str)) := upd_same
    generalize upd H2 p3 (.lst ((pool ++ pool2).map V.str)) = H3 at *
    have s03 := (s1.trans s2).trans s3
    have g3 := Gr.same hd s03
    refine ⟨d, p3, _, rfl, g3.dice, (Gr.same hd (s1.trans s2)).dice.ne hp3, f3, by decide, fun p4 H4 ys g4 hp4 n4 h4 pm => ?_⟩
    obtain ⟨us, rfl, pu⟩ := perm_strs pm
    refine ⟨p4, us.map V.str, rfl, sql_of h4, fun p5 hp5 => ?_⟩
    have lu := pu.length_eq
    have l20 : (pool ++ pool2).length = 20 := by decide
    rw [cut_to, ← List.map_take]
    have s5 := same_new (o := .lst ((us.take k).map V.str)) hp5
    have f5 : upd H4 p5 (.lst ((us.take k).map V.str)) p5 = some (.lst ((us.take k).map V.str)) := upd_same
    generalize upd H4 p5 (.lst ((us.take k).map V.str)) = H5 at *
    have g5 := (g3.trans g4).trans (Gr.same g4.dice s5)
    refine q p5 H5 (us.take k) g5 ((g3.trans g4).back hp5) (hd.ne ((g3.trans g4).back hp5)) f5 (fun z hz => pool_nm z (pu.mem_iff.mp (List.mem_of_mem_take hz))) ?_ (by rw [List.length_take]; omega)
    exact (List.take_sublist k us).nodup (pu.nodup_iff.mpr pool_nd)
abbrev keyM : L2.Key := .inr (Str.ofString "marks")
abbrev keyB : L2.Key := .inr (Str.ofString "bases")
abbrev keyR : L2.Key := .inr (Str.ofString "rules")
abbrev keyO : L2.Key := .inr (Str.ofString "offers")
/-- a dict of marks and bases -/
structure SpF (H : Hp) (p : Addr) (ms bs : List Str) (am ab : Addr) : Prop where
  at_ : H p = some (.dK [(keyM, .ref am), (keyB, .ref ab)])
  hm : H am = some (.tup (ms.map V.str))
  hb : H ab = some (.tup (bs.map V.str))
theorem gr_dK {d p : Addr} {H H' : Hp} {l : List (L2.Key × V)} (g : Gr d H H') (h : H p = some (.dK l)) : H' p = some (.dK l) := by
  obtain ⟨x, y, z, hd⟩ := g.pre
  exact g.keep _ _ (fun e => by rw [e, hd] at h; cases h) h
theorem SpF.gr {d p am ab : Addr} {H H' : Hp} {ms bs : List Str} (h : SpF H p ms bs am ab) (g : Gr d H H') : SpF H' p ms bs am ab := ⟨gr_dK g h.at_, SmT.gr g _ _ h.hm, SmT.gr g _ _ h.hb⟩
/-- the names that are drawn from -/
structure NmOk (ms bs : List Str) : Prop where
  nm : ∀ z ∈ ms, isNm z = true
  nb : ∀ z ∈ bs, isNm z = true
  lm : ms.length ≤ 8
  lb : bs.length ≤ 8
  lo : 1 ≤ bs.length
theorem pick_t {H : Hp} {d p : Addr} {ws : List Str} {Q : VK} {E : XK} (hd : Dc H d) (h : H p = some (.tup (ws.map V.str))) (lo : 1 ≤ ws.length) (hi : ws.length ≤ 100) (q : ∀ z H', z ∈ ws → Gr d H H' → Q (.str z) H') : sp_pickA K [.ref d, .ref p] H Q E :=
  .inr ⟨d, p, ws.map V.str, rfl, hd, sqt_of h, (fun e => by have := congrArg List.length e; simp at this; subst this; simp at lo), by rw [List.length_map]; omega, fun y H' hy g => by
    obtain ⟨z, hz, rfl⟩ := List.mem_map.mp hy
    exact q z H' hz g⟩
/-- one of some new items -/
theorem pick_n {H : Hp} {d p : Addr} {xs : List V} {Q : VK} {E : XK} (hd : Dc H d) (hp : H p = none) (hne : xs ≠ []) (hl : xs.length < 1073741824) (q : ∀ y H', y ∈ xs → Gr d H H' → Q y H') : sp_pickA K [.ref d, .ref p] (upd H p (.lst xs)) Q E :=
  .inl (pick_new hd hp hne hl q)
def sp_front : Sp := fun vs H Q _ => ∃ (d p am ab : Addr) (k : Int) (ms bs : List Str), vs = [.ref d, .ref p, .int k] ∧ Dc H d ∧ SpF H p ms bs am ab ∧ NmOk ms bs ∧ 0 ≤ k ∧ k ≤ 4 ∧
  ∀ a H' (ws : List Str), Gr d H H' → H' a = some (.tup (ws.map V.str)) → (∀ z ∈ ws, z ∈ ms) → (ws.length : Int) ≤ k → Q (.ref a) H'
theorem ok_law_front (T : Tx K mg) : FnOk P w K mg base CX0 3 T.f__law_front T.d__law_front ["_law_reel", "_law_spec", "_law_most"] sp_front := by
  refine T.F__law_front.ok sc_law_front (fun vs H Q E h => ?_) (fun cdv A outer s H vs Q E hr h => ?_)
  · obtain ⟨d, p, am, ab, k, ms, bs, rfl, _⟩ := h
    rfl
  · obtain ⟨d, p, am, ab, k, ms, bs, rfl, hd, hs, nk, k0, k1, q⟩ := h
    refine ⟨_, (pss_cons (ps_set (i := 3) sc_law_front.nd rfl (Or.inl rfl) (pe_ifExp (pt_cmpR (op_neD hr.units) (pe_dget (u1 hr.units) (pv 1) pe_str (fun _ _ => rfl)) (pe_tup pa_nil) (nomark _)) (pe_call (ok_law_spin T) (hr.mono (by decide)) (by rfl) T.g__law_spin T.F__law_spin.kp T.b__law_spin .nil pass0 (pa_cons (pv 0) (pa_cons (pe_op op_add (pv 2) pe_int) pa_nil))) pe_int))
      (pss_one (ps_ret (pe_callTy call_tupL (by rfl) T.n_tuple (by decide +kernel) (pa_cons (pe_lc (own := [("_law_turn", 4)]) (g := gName 4) (by rfl) sc_law_front.nd (pi_range1 (by rfl) T.n_range (pa_cons (pv 3) pa_nil)) (blkOk_by (own := [("_law_turn", 4)]) (N := ["_law_reel", "_law_spec", "_law_most", "_law_size", "_law_turn"]) (sc := defScope s_law_front) (by decide +kernel)) (fun _ _ _ _ _ => (pg_name (i := 4) sc_law_front.nd rfl (Or.inl rfl))) (fun _ _ _ _ _ => pts_nil) (fun _ _ _ _ _ => (pe_call (ok_law_pick T) (hr.mono (by decide)) (by rfl) T.g__law_pick T.F__law_pick.kp T.b__law_pick .nil pass0 (pa_cons (pv 0) (pa_cons (pe_dget (u1 hr.units) (pv 1) pe_str (fun _ _ => rfl)) pa_nil))))) pa_nil))))), ?_⟩
    walk_at "rd"
    walk_at "rdx"
    refine ⟨.ref am, DGet.k (k := keyM) hs.at_, by decide, fun p1 hp1 => ?_⟩
    have s1 := same_new (o := .tup []) hp1
    have f1 : upd H p1 (.tup []) p1 = some (.tup []) := upd_same
    generalize upd H p1 (.tup []) = H1 at *
    have g1 := Gr.same hd s1
    have h1 := hs.gr g1
    refine neT (ys := []) (sqt_of h1.hm) (sqt_of f1) (fun z hz => pl_of (nk.nm z hz)) (fun _ h => nomatch h) ⟨_, rfl, ?_⟩
    have fin : ∀ (n : Nat) H2 σ, Gr d H H2 → (n : Int) ≤ k → (n ≠ 0 → 1 ≤ ms.length) → σ = [some (V.ref d), some (V.ref p), some (V.int k), some (V.int n), none] →
        LcB (Itr 0 n) (gName 4) tYes (tCall (sp_pickA K) [] E0 (tCons (tVar 0) (tCons (tDGet (tVar 1) (tC (V.str (Str.ofString "marks")))) tNil))) [4] σ (fun x H1 => rTupL K [x] H1 Q) H2 := by
      intro n H2 σ g2 hn h0 hσ
      subst hσ
      refine lc_gr walk_range (fun _ y => ∃ z, y = V.str z ∧ z ∈ ms) (sz100 (by omega)) g2.dice (fun _ _ => trivial) ?_ mono_name mono_yes ?_
      · rintro i2 x2 H5 H6 hi2 g6 ⟨rfl, rfl⟩ R hR
        walk_at "rdx"
        walk_at "rdx"
        have h6 := hs.gr (g2.trans g6)
        refine ⟨.ref am, DGet.k (k := keyM) h6.at_, ?_⟩
        exact pick_t g6.dice h6.hm (h0 (by omega)) (by have := nk.lm; omega) fun z H8 hz g8 => hR _ _ ⟨z, rfl, hz⟩ g8
      intro H5 D zs g5 hD nD hzl hzs hL5
      obtain ⟨xs, rfl, hxs⟩ := ex_in hzs
      rw [List.length_map] at hzl
      have g25 := g2.trans g5
      refine tupL (sql_of hL5) fun p3 hp3 => ?_
      have s9 := same_new (o := .tup (xs.map V.str)) hp3
      have f9 : upd H5 p3 (.tup (xs.map V.str)) p3 = some (.tup (xs.map V.str)) := upd_same
      generalize upd H5 p3 (.tup (xs.map V.str)) = H9 at *
      exact q p3 H9 xs (g25.trans (Gr.same g25.dice s9)) f9 hxs (by omega)
    by_cases hn : ms = []
    · rw [decide_eq_true hn]
      exact iteF ⟨by decide, by decide, fin 0 H1 _ g1 (by omega) (fun h => absurd rfl h) rfl⟩
    · rw [decide_eq_false hn]
      have hl : 1 ≤ ms.length := List.length_pos_iff.mpr hn
      refine iteT (roll_new g1.dice (by omega) (by omega) fun r H2 r0 r1 g2 => ⟨r, rfl, by omega, by omega, ?_⟩)
      obtain ⟨n, rfl⟩ : ∃ n : Nat, r = (n : Int) := ⟨r.toNat, by omega⟩
      exact fin n H2 _ (g1.trans g2) (by omega) (fun _ => hl) rfl
def sp_type84 : Sp := fun vs H Q _ => ∃ (d p am ab : Addr) (k : Int) (ms bs : List Str), vs = [.ref d, .ref p, .int k] ∧ Dc H d ∧ SpF H p ms bs am ab ∧ NmOk ms bs ∧ 0 ≤ k ∧ k ≤ 4 ∧
  ∀ a H' (ws : List Str), Gr d H H' → H' a = some (.tup (ws.map V.str)) → tyIn ms bs ws → (ws.length : Int) ≤ k + 1 → Q (.ref a) H'
theorem ok_law_type (T : Tx K mg) : FnOk P w K mg base CX0 4 T.f__law_type T.d__law_type ["_law_reel", "_law_spec", "_law_most"] sp_type84 := by
  refine T.F__law_type.ok sc_law_type (fun vs H Q E h => ?_) (fun cdv A outer s H vs Q E hr h => ?_)
  · obtain ⟨d, p, am, ab, k, ms, bs, rfl, _⟩ := h
    rfl
  · obtain ⟨d, p, am, ab, k, ms, bs, rfl, hd, hs, nk, k0, k1, q⟩ := h
    refine ⟨_, (pss_one (ps_ret (pe_op op_catA (pe_call (ok_law_front T) (hr.mono (by decide)) (by rfl) T.g__law_front T.F__law_front.kp T.b__law_front .nil pass0 (pa_cons (pv 0) (pa_cons (pv 1) (pa_cons (pv 2) pa_nil)))) (pe_tup (pa_cons (pe_call (ok_law_pick T) (hr.mono (by decide)) (by rfl) T.g__law_pick T.F__law_pick.kp T.b__law_pick .nil pass0 (pa_cons (pv 0) (pa_cons (pe_dget (u1 hr.units) (pv 1) pe_str (fun _ _ => rfl)) pa_nil))) pa_nil))))), ?_⟩
    walk_at "rd"
    walk_at "rdx"
    refine ⟨d, p, am, ab, k, ms, bs, rfl, hd, hs, nk, k0, k1, fun a H1 ws g1 h1 i1 l1 => ?_⟩
    walk_at "rdx"
    have k2 := hs.gr g1
    refine ⟨.ref ab, DGet.k (k := keyB) k2.at_, pick_t g1.dice k2.hb nk.lo (by have := nk.lb; omega) fun z H2 hz g2 => ⟨by decide, fun p3 hp3 => ?_⟩⟩
    have s3 := same_new (o := .tup [V.str z]) hp3
    have f3 : upd H2 p3 (.tup [V.str z]) p3 = some (.tup [V.str z]) := upd_same
    generalize upd H2 p3 (.tup [V.str z]) = H3 at *
    refine catT (s3 _ _ (SmT.gr g2 _ _ h1)) f3 (sz100 (by simp; omega)) fun p4 H4 s4 f4 => ?_
    have e1 : ws.map V.str ++ [V.str z] = (ws ++ [z]).map V.str := by simp
    rw [e1] at f4
    have g12 := g1.trans g2
    exact q p4 H4 (ws ++ [z]) (g12.trans (Gr.same g12.dice (s3.trans s4))) f4 ⟨ws, z, rfl, i1, hz⟩ (by rw [List.length_append, List.length_singleton]; omega)
end

local macro_rules | `(tactic| walk_at "rdx") => `(tactic| ((try simp only [tFld, gTup, gStar, tJs, tFmt, sFld, tMake, tMakeL, tDGet]); try walk_at "rd"))
section
variable {w : World} {K : PySem.W.Frag} {mg : Str → Option Value} {base : Heap}
def sp_rule : Sp := fun vs H Q _ => ∃ (d p am ab : Addr) (ms bs : List Str), vs = [.ref d, .ref p] ∧ Dc H d ∧ SpF H p ms bs am ab ∧ NmOk ms bs ∧ ∀ v H', Gr d H H' → CvDrawn H' ms bs v → Q v H'
theorem ok_law_rule (T : Tx K mg) : FnOk P w K mg base CX0 5 T.f__law_rule T.d__law_rule ["_law_reel", "_law_spec"] sp_rule := by
  refine T.F__law_rule.ok sc_law_rule (fun vs H Q E h => ?_) (fun cdv A outer s H vs Q E hr h => ?_)
  · obtain ⟨d, p, am, ab, ms, bs, rfl, _⟩ := h
    rfl
  · obtain ⟨d, p, am, ab, ms, bs, rfl, hd, hs, nk, q⟩ := h
    refine ⟨_, (pss_cons (ps_set (i := 2) sc_law_rule.nd rfl (Or.inl rfl) (pe_call (ok_law_pick T) (hr.mono (by decide)) (by rfl) T.g__law_pick T.F__law_pick.kp T.b__law_pick .nil pass0 (pa_cons (pv 0) (pa_cons (pe_lst (pa_cons pe_int (pa_cons pe_int (pa_cons pe_int (pa_cons pe_int (pa_cons pe_int pa_nil)))))) pa_nil))))
      (pss_cons (ps_set (i := 3) sc_law_rule.nd rfl (Or.inl rfl) (pe_call (ok_law_pick T) (hr.mono (by decide)) (by rfl) T.g__law_pick T.F__law_pick.kp T.b__law_pick .nil pass0 (pa_cons (pv 0) (pa_cons (pe_lst (pa_cons pe_str (pa_cons pe_str (pa_cons pe_str (pa_cons pe_str pa_nil))))) pa_nil))))
      (pss_cons (ps_if (pt_cmpR op_eq (pv 3) pe_str (nomark _)) (pss_one (ps_set (i := 4) sc_law_rule.nd rfl (Or.inl rfl) (pe_tup (pa_cons (pv 3) (pa_cons (pe_call (ok_law_type T) (hr.mono (by decide)) (by rfl) T.g__law_type T.F__law_type.kp T.b__law_type .nil pass0 (pa_cons (pv 0) (pa_cons (pv 1) (pa_cons pe_int pa_nil)))) (pa_cons (pe_call (ok_law_type T) (hr.mono (by decide)) (by rfl) T.g__law_type T.F__law_type.kp T.b__law_type .nil pass0 (pa_cons (pv 0) (pa_cons (pv 1) (pa_cons pe_int pa_nil)))) (pa_cons (pv 2) pa_nil))))))) (pss_one (ps_if (pt_cmpR op_eq (pv 3) pe_str (nomark _)) (pss_one (ps_set (i := 4) sc_law_rule.nd rfl (Or.inl rfl) (pe_tup (pa_cons (pv 3) (pa_cons (pe_call (ok_law_front T) (hr.mono (by decide)) (by rfl) T.g__law_front T.F__law_front.kp T.b__law_front .nil pass0 (pa_cons (pv 0) (pa_cons (pv 1) (pa_cons pe_int pa_nil)))) (pa_cons (pe_call (ok_law_front T) (hr.mono (by decide)) (by rfl) T.g__law_front T.F__law_front.kp T.b__law_front .nil pass0 (pa_cons (pv 0) (pa_cons (pv 1) (pa_cons pe_int pa_nil)))) (pa_cons (pv 2) pa_nil))))))) (pss_one (ps_set (i := 4) sc_law_rule.nd rfl (Or.inl rfl) (pe_tup (pa_cons (pv 3) (pa_cons (pe_call (ok_law_front T) (hr.mono (by decide)) (by rfl) T.g__law_front T.F__law_front.kp T.b__law_front .nil pass0 (pa_cons (pv 0) (pa_cons (pv 1) (pa_cons pe_int pa_nil)))) (pa_cons (pe_call (ok_law_type T) (hr.mono (by decide)) (by rfl) T.g__law_type T.F__law_type.kp T.b__law_type .nil pass0 (pa_cons (pv 0) (pa_cons (pv 1) (pa_cons pe_int pa_nil)))) (pa_cons (pv 2) pa_nil))))))))))
      (pss_one (ps_ret (pe_ifExp (pt_cmpR (op_neD hr.units) (pe_ix ix_tup (pv 4) pe_int (fun _ _ => rfl)) (pe_ix ix_tup (pv 4) pe_int (fun _ _ => rfl)) (nomark _)) (pv 4) pe_non)))))), ?_⟩
    refine seqN fun N1 hN1 => ?_
    walk_at "rd"
    walk_at "rdx"
    refine ⟨by decide, fun p1 hp1 => pick_n hd hp1 (by simp) (by simp) fun y H1 hy g1 => hN1 _ _ ?_⟩
    clear hN1
    obtain ⟨k, rfl, k1, k9⟩ : ∃ k : Nat, y = .int k ∧ 1 ≤ k ∧ k ≤ 9 := by
      simp only [List.mem_cons, List.not_mem_nil, or_false] at hy
      rcases hy with h | h | h | h | h
      · exact ⟨1, h, by decide, by decide⟩
      · exact ⟨1, h, by decide, by decide⟩
      · exact ⟨2, h, by decide, by decide⟩
      · exact ⟨3, h, by decide, by decide⟩
      · exact ⟨9, h, by decide, by decide⟩
    refine seqN fun N2 hN2 => ?_
    walk_at "rd"
    walk_at "rdx"
    refine ⟨by decide, fun p2 hp2 => pick_n g1.dice hp2 (by simp) (by simp) fun y2 H2 hy2 g2 => hN2 _ _ ?_⟩
    clear hN2
    obtain ⟨kd, rfl⟩ : ∃ kd : Kd, y2 = .str (wK kd) := by
      simp only [List.mem_cons, List.not_mem_nil, or_false] at hy2
      rcases hy2 with h | h | h | h
      · exact ⟨.closed, h⟩
      · exact ⟨.open_, h⟩
      · exact ⟨.closed, h⟩
      · exact ⟨.drop, h⟩
    have gA := g1.trans g2
    have nmM := nk.nm
    have nmB := nk.nb
    refine seqN fun N3 hN3 => ?_
    have fin : ∀ (a1 a2 a3 : Addr) (ws us : List Str) (H4 : Hp), Gr d H H4 → H4 a1 = some (.tup (ws.map V.str)) → H4 a2 = some (.tup (us.map V.str)) → (∀ z ∈ ws, isNm z = true) → (∀ z ∈ us, isNm z = true) → (ws ≠ us → sidesV kd true true (ws.map V.str) (us.map V.str) = true) → sideIn ms bs (decide (kd ≠ .closed), ws) → sideIn ms bs (decide (kd = .open_), us) →
        H4 a3 = some (.tup [.str (wK kd), .ref a1, .ref a2, .int k]) → N3 [some (.ref d), some (.ref p), some (.int k), some (.str (wK kd)), some (.ref a3)] H4 := by
      intro a1 a2 a3 ws us H4 g4 h1 h2 n1 n2 ok i1 i2 h3
      refine hN3 _ _ ?_
      walk_at "rd"
      walk_at "rdx"
      refine ixt_nat (j := 1) (sqt_of h3) rfl (ixt_nat (j := 2) (sqt_of h3) rfl ?_)
      refine neT (sqt_of h1) (sqt_of h2) (fun w hw => pl_of (n1 w hw)) (fun w hw => pl_of (n2 w hw)) ⟨_, rfl, ite2 (fun e => ?_) (fun e => q _ _ g4 (.inl rfl))⟩
      have ne : ws ≠ us := by simpa using e
      refine q _ _ g4 (.inr ⟨a3, ⟨kd, ws, us, k⟩, rfl, ⟨a1, a2, h3, h1, h2⟩, ?_, within_sides fun t ht => ?_⟩)
      · show ((decide (1 ≤ k) && decide (k ≤ 9)) && sidesV kd true true (ws.map V.str) (us.map V.str)) = true
        rw [ok ne, decide_eq_true k1, decide_eq_true k9]
        rfl
      · rcases List.mem_cons.mp (show t ∈ [(decide (kd ≠ .closed), ws), (decide (kd = .open_), us)] from ht) with rfl | ht
        · exact i1
        · rw [List.mem_singleton.mp ht]
          exact i2
    clear hN3
    walk_at "rd"
    walk_at "rdx"
    cases kd with
    | closed =>
      refine ⟨rfl, iteP (by decide) ⟨d, p, am, ab, 2, ms, bs, rfl, g2.dice, hs.gr gA, nk, by decide, by decide, fun a1 H4 ws g4 h1 t1 l1 => ?_⟩⟩
      have gB := gA.trans g4
      refine ⟨d, p, am, ab, 1, ms, bs, rfl, g4.dice, hs.gr gB, nk, by decide, by decide, fun a2 H5 us g5 h2 t2 l2 => ⟨by decide, fun a3 ha3 => ?_⟩⟩
      have gC := gB.trans g5
      have s6 := same_new (o := .tup [V.str (wK .closed), V.ref a1, V.ref a2, V.int k]) ha3
      have f6 : upd H5 a3 (.tup [V.str (wK .closed), V.ref a1, V.ref a2, V.int k]) a3 = some (.tup [V.str (wK .closed), V.ref a1, V.ref a2, V.int k]) := upd_same
      generalize upd H5 a3 (.tup [V.str (wK .closed), V.ref a1, V.ref a2, V.int k]) = H6 at *
      obtain ⟨n1, m1⟩ := t1.nm nmM nmB
      obtain ⟨n2, m2⟩ := t2.nm nmM nmB
      refine fin a1 a2 a3 ws us H6 (gC.trans (Gr.same gC.dice s6)) (s6 _ _ (SmT.gr g5 _ _ h1)) (s6 _ _ h2) n1 n2 (fun ne => ?_) t1 t2 f6
      show (true && namesV (ws.map V.str) 1 5 && (true && namesV (us.map V.str) 1 5 && !decide (ws.map V.str = us.map V.str))) = true
      rw [names_to n1 (by omega) (by omega), names_to n2 (by omega) (by omega), strs_eq, decide_eq_false ne]
      rfl
    | open_ =>
      refine ⟨rfl, iteN (by decide) ⟨rfl, iteP (by decide) ⟨d, p, am, ab, 2, ms, bs, rfl, g2.dice, hs.gr gA, nk, by decide, by decide, fun a1 H4 ws g4 h1 t1 l1 => ?_⟩⟩⟩
      have gB := gA.trans g4
      refine ⟨d, p, am, ab, 1, ms, bs, rfl, g4.dice, hs.gr gB, nk, by decide, by decide, fun a2 H5 us g5 h2 t2 l2 => ⟨by decide, fun a3 ha3 => ?_⟩⟩
      have gC := gB.trans g5
      have s6 := same_new (o := .tup [V.str (wK .open_), V.ref a1, V.ref a2, V.int k]) ha3
      have f6 : upd H5 a3 (.tup [V.str (wK .open_), V.ref a1, V.ref a2, V.int k]) a3 = some (.tup [V.str (wK .open_), V.ref a1, V.ref a2, V.int k]) := upd_same
      generalize upd H5 a3 (.tup [V.str (wK .open_), V.ref a1, V.ref a2, V.int k]) = H6 at *
      have n1 : ∀ z ∈ ws, isNm z = true := fun z hz => nmM z (t1 z hz)
      have n2 : ∀ z ∈ us, isNm z = true := fun z hz => nmM z (t2 z hz)
      refine fin a1 a2 a3 ws us H6 (gC.trans (Gr.same gC.dice s6)) (s6 _ _ (SmT.gr g5 _ _ h1)) (s6 _ _ h2) n1 n2 (fun ne => ?_) t1 t2 f6
      show (true && namesV (ws.map V.str) 0 2 && (true && namesV (us.map V.str) 0 3 && !decide (ws.map V.str = us.map V.str))) = true
      rw [names_to n1 (by omega) (by omega), names_to n2 (by omega) (by omega), strs_eq, decide_eq_false ne]
      rfl
    | drop =>
      refine ⟨rfl, iteN (by decide) ⟨rfl, iteN (by decide) ⟨d, p, am, ab, 2, ms, bs, rfl, g2.dice, hs.gr gA, nk, by decide, by decide, fun a1 H4 ws g4 h1 t1 l1 => ?_⟩⟩⟩
      have gB := gA.trans g4
      refine ⟨d, p, am, ab, 1, ms, bs, rfl, g4.dice, hs.gr gB, nk, by decide, by decide, fun a2 H5 us g5 h2 t2 l2 => ⟨by decide, fun a3 ha3 => ?_⟩⟩
      have gC := gB.trans g5
      have s6 := same_new (o := .tup [V.str (wK .drop), V.ref a1, V.ref a2, V.int k]) ha3
      have f6 : upd H5 a3 (.tup [V.str (wK .drop), V.ref a1, V.ref a2, V.int k]) a3 = some (.tup [V.str (wK .drop), V.ref a1, V.ref a2, V.int k]) := upd_same
      generalize upd H5 a3 (.tup [V.str (wK .drop), V.ref a1, V.ref a2, V.int k]) = H6 at *
      have n1 : ∀ z ∈ ws, isNm z = true := fun z hz => nmM z (t1 z hz)
      obtain ⟨n2, m2⟩ := t2.nm nmM nmB
      refine fin a1 a2 a3 ws us H6 (gC.trans (Gr.same gC.dice s6)) (s6 _ _ (SmT.gr g5 _ _ h1)) (s6 _ _ h2) n1 n2 (fun ne => ?_) t1 t2 f6
      show (true && namesV (ws.map V.str) 0 2 && (true && namesV (us.map V.str) 1 5)) = true
      rw [names_to n1 (by omega) (by omega), names_to n2 (by omega) (by omega)]
      rfl
theorem ptA.smt {H H' : Hp} {a : Addr} {o : Bool} {ws : List Str} (st : SmT H H') (h : ptA H a o ws) : ptA H' a o ws := let ⟨b, h1, h2⟩ := h; ⟨b, st _ _ h1, st _ _ h2⟩
def PtL (H : Hp) (ms bs : List Str) (ys : List V) : Prop := ∀ (j : Nat) y, ys[j]? = some y → ∃ (t : Bool × List Str) (b : Addr), y = .ref b ∧ ptA H b t.1 t.2 ∧ (ptOk t = true ∧ sideIn ms bs t)
theorem PtL.smt {H H' : Hp} {ms bs : List Str} {ys : List V} (st : SmT H H') (h : PtL H ms bs ys) : PtL H' ms bs ys := fun j y e => let ⟨t, b, h1, h2, h3⟩ := h j y e; ⟨t, b, h1, h2.smt st, h3⟩
theorem PtL.snoc {H : Hp} {ms bs : List Str} {ys : List V} {t : Bool × List Str} {b : Addr} (h : PtL H ms bs ys) (h1 : ptA H b t.1 t.2) (h2 : ptOk t = true) (h3 : sideIn ms bs t) : PtL H ms bs (ys ++ [.ref b]) := by
  intro j y e
  by_cases hj : j < ys.length
  · rw [List.getElem?_append_left hj] at e
    exact h j y e
  · rw [List.getElem?_append_right (by omega)] at e
    have e0 : j - ys.length = 0 := by
      have := (List.getElem?_eq_some_iff.mp e).1
      simp at this
      omega
    rw [e0] at e
    cases e
    exact ⟨t, b, rfl, h1, h2, h3⟩
def inv_off (d p n pt : Addr) (ms bs : List Str) (H : Hp) : Nat → L2.St → Hp → Prop := fun i σ H' =>
  ∃ (x4 : Option V) (ys : List V), σ = [some (.ref d), some (.ref p), some (.ref n), some (.ref pt), x4, none, none, none] ∧ Gr d H H' ∧ H' pt = some (.lst ys) ∧ ys.length = i ∧ PtL H' ms bs ys
def sp_offer : Sp := fun vs H Q _ => ∃ (d p am ab n : Addr) (ms bs ns : List Str), vs = [.ref d, .ref p, .ref n] ∧ Dc H d ∧ SpF H p ms bs am ab ∧ NmOk ms bs ∧ Wd H d n ns ∧
  ∀ a H' c, Gr d H H' → cdT H' a c → CdOk c → withinB ms bs (.cd c) = true → c.nm ∈ ns → Q (.ref a) H'
theorem ok_law_offer (T : Tx K mg) : FnOk P w K mg base CX0 5 T.f__law_offer T.d__law_offer ["_law_reel", "_law_spec", "_law_names"] sp_offer := by
  refine T.F__law_offer.ok sc_law_offer (fun vs H Q E h => ?_) (fun cdv A outer s H vs Q E hr h => ?_)
  · obtain ⟨d, p, am, ab, n, ms, bs, ns, rfl, _⟩ := h
    rfl
  · obtain ⟨d, p, am, ab, n, ms, bs, ns, rfl, hd, hs, nk, hn, q⟩ := h
    refine ⟨_, (pss_cons (ps_set (i := 3) sc_law_offer.nd rfl (Or.inr rfl) (pe_lst pa_nil))
      (pss_cons (ps_for PassesOwn.never rfl (pi_range1 (by rfl) T.n_range (pa_cons (pe_call (ok_law_pick T) (hr.mono (by decide)) (by rfl) T.g__law_pick T.F__law_pick.kp T.b__law_pick .nil pass0 (pa_cons (pv 0) (pa_cons (pe_lst (pa_cons pe_int (pa_cons pe_int (pa_cons pe_int (pa_cons pe_int (pa_cons pe_int (pa_cons pe_int pa_nil))))))) pa_nil))) pa_nil)) (pg_name (i := 4) sc_law_offer.nd rfl (Or.inl rfl)) (pss_one (ps_if (pt_cmpR op_eq (pe_call (ok_law_spin T) (hr.mono (by decide)) (by rfl) T.g__law_spin T.F__law_spin.kp T.b__law_spin .nil pass0 (pa_cons (pv 0) (pa_cons pe_int pa_nil))) pe_int (nomark _)) (pss_one (ps_expr (pe_bm PySem.F.plainAttrs_list PySem.F.slot_list_append PySem.F.type_list_append mt_append (pv 3) (pa_cons (pe_tup (pa_cons pe_str (pa_cons (pe_call (ok_law_front T) (hr.mono (by decide)) (by rfl) T.g__law_front T.F__law_front.kp T.b__law_front .nil pass0 (pa_cons (pv 0) (pa_cons (pv 1) (pa_cons pe_int pa_nil)))) pa_nil))) pa_nil)))) (pss_one (ps_expr (pe_bm PySem.F.plainAttrs_list PySem.F.slot_list_append PySem.F.type_list_append mt_append (pv 3) (pa_cons (pe_tup (pa_cons pe_str (pa_cons (pe_call (ok_law_type T) (hr.mono (by decide)) (by rfl) T.g__law_type T.F__law_type.kp T.b__law_type .nil pass0 (pa_cons (pv 0) (pa_cons (pv 1) (pa_cons pe_int pa_nil)))) pa_nil))) pa_nil)))))))
      (pss_cons (ps_setLc (i := 5) (own := [("_law_at", 7)]) (g := gName 7) (by rfl) sc_law_offer.nd rfl rfl (sw_true rfl rfl rfl (by decide +kernel)) (pi_range1 (by rfl) T.n_range (pa_cons (pe_callB call_lenQ (by rfl) T.n_len (by decide +kernel) (pa_cons (pv 3) pa_nil)) pa_nil)) (blkOk_by (own := [("_law_at", 7)]) (N := ["_law_reel", "_law_spec", "_law_names", "_law_patterns", "_law_turn", "_law_fronts", "_law_end", "_law_at"]) (sc := defScope s_law_offer) (by decide +kernel)) (fun _ _ _ _ _ => (pg_name (i := 7) sc_law_offer.nd rfl (Or.inl rfl))) (fun _ _ _ _ _ => (pts_one (pt_cmpR op_eq (pe_ix (ix_tup : IxR _ (rIxT K)) (pe_ix (ix_list : IxR _ (rIxL K)) (pv 3) (pv 7) (fun _ _ => rfl)) pe_int (fun _ _ => rfl)) pe_str (nomark _)))) (fun _ _ _ _ _ => (pv 7)))
      (pss_cons (ps_set (i := 6) sc_law_offer.nd rfl (Or.inl rfl) (pe_tup (pa_cons pe_str (pa_cons (pe_call (ok_law_type T) (hr.mono (by decide)) (by rfl) T.g__law_type T.F__law_type.kp T.b__law_type .nil pass0 (pa_cons (pv 0) (pa_cons (pv 1) (pa_cons pe_int pa_nil)))) pa_nil))))
      (pss_cons (ps_if (PW.pt (pw_and (pt_cmpR (op_neD hr.units) (pv 5) (pe_lst pa_nil) (nomark _)) (pw_and1 (pt_cmpR op_eq (pe_call (ok_law_spin T) (hr.mono (by decide)) (by rfl) T.g__law_spin T.F__law_spin.kp T.b__law_spin .nil pass0 (pa_cons (pv 0) (pa_cons pe_int pa_nil))) pe_int (nomark _))))) (pss_one (ps_set (i := 6) sc_law_offer.nd rfl (Or.inl rfl) (pe_tup (pa_cons pe_str (pa_cons (pe_call (ok_law_front T) (hr.mono (by decide)) (by rfl) T.g__law_front T.F__law_front.kp T.b__law_front .nil pass0 (pa_cons (pv 0) (pa_cons (pv 1) (pa_cons pe_int pa_nil)))) (pa_cons (pe_call (ok_law_pick T) (hr.mono (by decide)) (by rfl) T.g__law_pick T.F__law_pick.kp T.b__law_pick .nil pass0 (pa_cons (pv 0) (pa_cons (pv 5) pa_nil))) pa_nil)))))) pss_nil)
      (pss_one (ps_ret (pe_tup (pa_cons (pe_call (ok_law_pick T) (hr.mono (by decide)) (by rfl) T.g__law_pick T.F__law_pick.kp T.b__law_pick .nil pass0 (pa_cons (pv 0) (pa_cons (pv 2) pa_nil))) (pa_cons (pe_callTy call_tupL (by rfl) T.n_tuple (by decide +kernel) (pa_cons (pv 3) pa_nil)) (pa_cons (pv 6) pa_nil))))))))))), ?_⟩
    refine seqN fun N1 hN1 => ?_
    walk_at "rd"
    walk_at "rdx"
    refine ⟨by decide, fun pt hpt => hN1 _ _ ?_⟩
    clear hN1
    have npt : pt ≠ d := hd.ne hpt
    have s1 := same_new (o := .lst []) hpt
    have f1 : upd H pt (.lst []) pt = some (.lst []) := upd_same
    generalize upd H pt (.lst []) = H1 at *
    have g1 := Gr.same hd s1
    refine seqN fun N2 hN2 => ?_
    walk_at "rd"
    walk_at "rdx"
    refine ⟨by decide, fun p2 hp2 => pick_n g1.dice hp2 (by simp) (by simp) fun y H2 hy g2 => ?_⟩
    obtain ⟨k, rfl, k1, k3⟩ : ∃ k : Nat, y = .int k ∧ 1 ≤ k ∧ k ≤ 3 := by
      simp only [List.mem_cons, List.not_mem_nil, or_false] at hy
      rcases hy with h | h | h | h | h | h
      · exact ⟨1, h, by decide, by decide⟩
      · exact ⟨2, h, by decide, by decide⟩
      · exact ⟨1, h, by decide, by decide⟩
      · exact ⟨1, h, by decide, by decide⟩
      · exact ⟨2, h, by decide, by decide⟩
      · exact ⟨3, h, by decide, by decide⟩
    have g12 := g1.trans g2
    refine ⟨_, rfl, by omega, by omega, ?_⟩
    rw [Int.toNat_natCast]
    refine forB walk_range (inv_off d p n pt ms bs H) ⟨none, [], rfl, g12, g2.keep _ _ npt f1, rfl, fun j y e => nomatch e⟩ (fun _ _ _ _ _ => trivial) ?_ ?_
    · rintro i x σ Ha Hb hi ⟨x4, ys, rfl, g, hL, ll, pl⟩ ⟨rfl, rfl⟩
      walk_at "rd"
      walk_at "rdx"
      have hsb := hs.gr g
      refine roll_new g.dice (by decide) (by decide) fun r H3 _ _ g3 => ⟨rfl, ite2 (fun hz => ?_) (fun hz => ?_)⟩
      · refine ⟨tyl (sql_of (g3.keep _ _ npt hL)), d, p, am, ab, 2, ms, bs, rfl, g3.dice, hsb.gr g3, nk, by decide, by decide, fun a H4 ws g4 h4 i4 l4 => ⟨by decide, fun b hb => ?_⟩⟩
        have s5 := same_new (o := .tup [V.str (Str.ofString "open"), V.ref a]) hb
        have f5 : upd H4 b (.tup [V.str (Str.ofString "open"), V.ref a]) b = some (.tup [V.str (Str.ofString "open"), V.ref a]) := upd_same
        generalize upd H4 b (.tup [V.str (Str.ofString "open"), V.ref a]) = H5 at *
        have g35 := (g3.trans g4).trans (Gr.same g4.dice s5)
        refine ⟨pt, ys, _, rfl, rfl, g35.keep _ _ npt hL, sz100' (by omega), _, ys ++ [V.ref b], rfl, (g.trans g35).mut hpt npt, upd_same, by rw [List.length_append, ll]; rfl, ?_⟩
        have st := SmT.lst (l' := ys ++ [V.ref b]) (g35.keep _ _ npt hL)
        refine PtL.snoc (t := (true, ws)) ((pl.smt (SmT.gr g35)).smt st) (ptA.smt st ⟨a, f5, s5 _ _ h4⟩) ?_ (by unfold sideIn; rw [if_pos rfl]; exact i4)
        show namesV (ws.map V.str) 0 3 = true
        exact names_to (fun z hz => nk.nm z (i4 z hz)) (by omega) (by omega)
      · refine ⟨tyl (sql_of (g3.keep _ _ npt hL)), d, p, am, ab, 1, ms, bs, rfl, g3.dice, hsb.gr g3, nk, by decide, by decide, fun a H4 ws g4 h4 i4 l4 => ⟨by decide, fun b hb => ?_⟩⟩
        have s5 := same_new (o := .tup [V.str (Str.ofString "closed"), V.ref a]) hb
        have f5 : upd H4 b (.tup [V.str (Str.ofString "closed"), V.ref a]) b = some (.tup [V.str (Str.ofString "closed"), V.ref a]) := upd_same
        generalize upd H4 b (.tup [V.str (Str.ofString "closed"), V.ref a]) = H5 at *
        have g35 := (g3.trans g4).trans (Gr.same g4.dice s5)
        refine ⟨pt, ys, _, rfl, rfl, g35.keep _ _ npt hL, sz100' (by omega), _, ys ++ [V.ref b], rfl, (g.trans g35).mut hpt npt, upd_same, by rw [List.length_append, ll]; rfl, ?_⟩
        have st := SmT.lst (l' := ys ++ [V.ref b]) (g35.keep _ _ npt hL)
        refine PtL.snoc (t := (false, ws)) ((pl.smt (SmT.gr g35)).smt st) (ptA.smt st ⟨a, f5, s5 _ _ h4⟩) ?_ (by unfold sideIn; rw [if_neg (by simp)]; exact i4)
        show namesV (ws.map V.str) 1 5 = true
        obtain ⟨n1, n2⟩ := i4.nm nk.nm nk.nb
        exact names_to n1 (by omega) (by omega)
    rintro σ H3 ⟨x4, ys, rfl, g3, hL, ll, pl⟩
    refine hN2 _ _ ?_
    clear hN2
    obtain ⟨ps, pl2, pok, pp⟩ := ex_pts pl
    refine seqN fun N3 hN3 => ?_
    walk_at "rd"
    walk_at "rdx"
    refine lenL (sql_of hL) ⟨_, rfl, by omega, by omega, ?_⟩
    rw [Int.toNat_natCast]
    refine lc_filt (walkR (n := ys.length)) (openAt ps) (sz100 (by rw [intsR_len]; omega)) (fun _ _ => trivial) ?_ ?_
    · intro x H' hx s' C C' h1 h2
      obtain ⟨i, hi, rfl⟩ := List.mem_map.mp hx
      have hi' : i < ps.length := by
        have := List.mem_range.mp hi
        omega
      have ep : ps[i]? = some ps[i] := List.getElem?_eq_getElem hi'
      obtain ⟨b1, e1, b2, e2, e3⟩ := pp i _ ep
      walk_at "rd"
      refine ixl_nat (sql_of (s' _ _ hL)) e1 (ixt_nat (j := 0) (sqt_of (s' _ _ e2)) rfl ⟨rfl, ?_⟩)
      have e4 : openAt ps (V.int i) = ps[i].1 := by
        show (ps.map (·.1)).getD i false = _
        simp [List.getD, ep]
      rw [e4] at h1 h2
      cases hb : ps[i].1 with
      | true => exact h1 hb _ (Same.refl _)
      | false => exact h2 hb _ (Same.refl _)
    intro H4 D2 s4 hD2 fD2
    rw [filt_ints] at fD2
    have plen : ((List.range ys.length).filter (fun i : Nat => openAt ps (V.int i))).length < 1073741824 := Nat.lt_of_le_of_lt (List.length_filter_le ..) (by rw [List.length_range]; omega)
    have pm : ∀ i ∈ (List.range ys.length).filter (fun i : Nat => openAt ps (V.int i)), i < 3 ∧ (ps.map (·.1)).getD i false = true := by
      intro i hi
      have h := List.mem_filter.mp hi
      have := List.mem_range.mp h.1
      exact ⟨by omega, h.2⟩
    generalize (List.range ys.length).filter (fun i : Nat => openAt ps (V.int i)) = places at *
    have nD2 : D2 ≠ d := g3.dice.ne hD2
    have g4 := g3.trans (Gr.same g3.dice s4)
    have hL4 := s4 _ _ hL
    have pp4 : ∀ (i : Nat) t, ps[i]? = some t → ∃ b, ys[i]? = some (V.ref b) ∧ ptA H4 b t.1 t.2 := fun i t e => let ⟨b, e1, e2⟩ := pp i t e; ⟨b, e1, e2.same s4⟩
    refine hN3 _ _ ?_
    clear hN3 pp pl hL
    refine seqN fun N4 hN4 => ?_
    walk_at "rd"
    walk_at "rdx"
    refine ⟨d, p, am, ab, 1, ms, bs, rfl, g4.dice, hs.gr g4, nk, by decide, by decide, fun a5 H5 ws g5 h5 ty5 l5 => ⟨by decide, fun p6 hp6 => hN4 _ _ ?_⟩⟩
    clear hN4
    have s6 := same_new (o := .tup [V.str (Str.ofString "closed"), V.ref a5]) hp6
    have f6 : upd H5 p6 (.tup [V.str (Str.ofString "closed"), V.ref a5]) p6 = some (.tup [V.str (Str.ofString "closed"), V.ref a5]) := upd_same
    generalize upd H5 p6 (.tup [V.str (Str.ofString "closed"), V.ref a5]) = H6 at *
    have g46 := g5.trans (Gr.same g5.dice s6)
    have rc : rsA H6 p6 ws none := ⟨a5, s6 _ _ h5, f6⟩
    have oc : rsOk ps (ws, none) = true := by
      show namesV (ws.map V.str) 1 5 = true
      obtain ⟨n1, n2⟩ := ty5.nm nk.nm nk.nb
      exact names_to n1 (by omega) (by omega)
    have sc : sideIn ms bs ((none : Option Nat).isSome, ws) := by
      unfold sideIn
      rw [if_neg (by simp)]
      exact ty5
    refine seqN fun N5 hN5 => ?_
    have fin : ∀ (ra : Addr) (r : List Str × Option Nat) H8, Gr d H4 H8 → rsA H8 ra r.1 r.2 → rsOk ps r = true → sideIn ms bs (r.2.isSome, r.1) →
        N5 [some (.ref d), some (.ref p), some (.ref n), some (.ref pt), x4, some (.ref D2), some (.ref ra), none] H8 := by
      intro ra r H8 g8 hr8 ok8 si8
      refine hN5 _ _ ?_
      walk_at "rd"
      walk_at "rdx"
      refine .inl (pick_w g8.dice (hn.gr (g4.trans g8)) fun w H9 nw mw g9 => ?_)
      have g89 := g8.trans g9
      refine tupL (sql_of (g89.keep _ _ npt hL4)) fun pa hpa => ⟨by decide, ?_⟩
      have s10 := same_new (o := .tup ys) hpa
      have f10 : upd H9 pa (.tup ys) pa = some (.tup ys) := upd_same
      generalize upd H9 pa (.tup ys) = H10 at *
      intro p3 hp3
      have s11 := same_new (o := .tup [.str w, .ref pa, .ref ra]) hp3
      have f11 : upd H10 p3 (.tup [.str w, .ref pa, .ref ra]) p3 = some (.tup [.str w, .ref pa, .ref ra]) := upd_same
      generalize upd H10 p3 (.tup [.str w, .ref pa, .ref ra]) = H11 at *
      have s9 := s10.trans s11
      have gb := g89.trans (Gr.same g89.dice s9)
      refine q p3 H11 ⟨w, ps, r⟩ (g4.trans gb) ⟨pa, ra, f11, ⟨ys, s11 _ _ f10, by show ys.length = ps.length; omega, fun i t e => ?_⟩, ?_⟩ ⟨nw, by show 1 ≤ ps.length; omega, by show ps.length ≤ 3; omega, fun p hp => (pok p hp).1, ok8⟩ (within_sides fun p hp => ?_) mw
      · obtain ⟨b, e1, e2⟩ := pp4 i t e
        exact ⟨b, e1, e2.smt (SmT.gr gb)⟩
      · obtain ⟨b, k1, k2⟩ := hr8
        exact ⟨b, s9 _ _ (SmT.gr g9 _ _ k1), s9 _ _ (SmT.gr g9 _ _ k2)⟩
      · rcases List.mem_append.mp (show p ∈ ps ++ [(r.2.isSome, r.1)] from hp) with hp | hp
        · exact (pok p hp).2
        · rw [List.mem_singleton.mp hp]
          exact si8
    clear hN5
    walk_at "rd"
    walk_at "rdx"
    refine ⟨by decide, fun p7 hp7 => ?_⟩
    have s7 := same_new (o := .lst []) hp7
    have f7 : upd H6 p7 (.lst []) p7 = some (.lst []) := upd_same
    generalize upd H6 p7 (.lst []) = H7 at *
    have g7 := g46.trans (Gr.same g46.dice s7)
    refine ne_ints (g7.keep _ _ nD2 fD2) f7 (fun i hi => (pm i hi).1) ⟨_, rfl, ?_⟩
    by_cases hn0 : places = []
    · rw [decide_eq_true hn0]
      exact iteF (fin p6 (ws, none) H7 g7 (rc.same s7) oc sc)
    · rw [decide_eq_false hn0]
      refine iteT (roll_new g7.dice (by decide) (by decide) fun r2 H8 _ _ g8 => ⟨rfl, ite2 (fun h => ?_) (fun h => ?_)⟩)
      · have g78 := g7.trans g8
        refine ⟨d, p, am, ab, 1, ms, bs, rfl, g8.dice, hs.gr (g4.trans g78), nk, by decide, by decide, fun p9 H9 ws9 g9 hp9 nm9 l9 => ?_⟩
        have g79 := g78.trans g9
        refine .inl ⟨d, _, rfl, g9.dice, .inl ⟨D2, _, rfl, nD2, sql_of (g79.keep _ _ nD2 fD2), by simpa using hn0, ?_, fun y H10 hy g10 => ⟨by decide, fun p11 hp11 => ?_⟩⟩⟩
        · rw [List.length_map]
          exact plen
        · obtain ⟨i, hi, rfl⟩ := List.mem_map.mp hy
          have s11 := same_new (o := .tup [V.str (Str.ofString "tail"), V.ref p9, V.int i]) hp11
          have f11 : upd H10 p11 (.tup [V.str (Str.ofString "tail"), V.ref p9, V.int i]) p11 = some (.tup [V.str (Str.ofString "tail"), V.ref p9, V.int i]) := upd_same
          generalize upd H10 p11 (.tup [V.str (Str.ofString "tail"), V.ref p9, V.int i]) = H11 at *
          have ga := g79.trans g10
          refine fin p11 (ws9, some i) H11 (ga.trans (Gr.same ga.dice s11)) ⟨p9, s11 _ _ (SmT.gr g10 _ _ hp9), f11⟩ ?_ (by show (if true = true then _ else _); rw [if_pos rfl]; exact nm9)
          show (namesV (ws9.map V.str) 0 3 && (ps.map (·.1)).getD i false) = true
          rw [(pm i hi).2, names_to (fun w hw => nk.nm w (nm9 w hw)) (by omega) (by omega)]
          rfl
      · have rc8 := (rc.same s7).smt (SmT.gr g8)
        exact fin p6 (ws, none) H8 (g7.trans g8) rc8 oc sc
end

local macro_rules | `(tactic| walk_at "rdx") => `(tactic| ((try simp only [tFld, gTup, gStar, tJs, tFmt, sFld, tSc_eq, tDNewN, sDPutN, iKeysN, tDGetN, tLockE, tDGet, LiI.tListItems]); try walk_at "rd"))
section
variable {w : World} {K : PySem.W.Frag} {mg : Str → Option Value} {base : Heap}
def inv_f1 (P : Program) (w : World) (K : PySem.W.Frag) (d p n : Addr) (k : Int) (p1 p2 : Addr) (ms bs : List Str) (H : Hp) : Nat → L2.St → Hp → Prop := fun i σ H' =>
  (∃ y6 y7 : Option V, σ = [some (.ref d), some (.ref p), some (.ref n), some (.int k), some (.ref p1), some (.ref p2), y6, y7, none, none, none]) ∧ Gr d H H' ∧ H' p2 = some (DicNO P w p2 []) ∧ ∃ L : Ents, H' p1 = some (DicNO P w p1 L) ∧ L.length ≤ i ∧ EntCv K H' ms bs L
def inv_f2 (P : Program) (w : World) (K : PySem.W.Frag) (d p n : Addr) (k : Int) (p1 p2 : Addr) (ms bs ns : List Str) (L1 : Ents) (H : Hp) : Nat → L2.St → Hp → Prop := fun i σ H' =>
  (∃ y6 y7 y8 : Option V, σ = [some (.ref d), some (.ref p), some (.ref n), some (.int k), some (.ref p1), some (.ref p2), y6, y7, y8, none, none]) ∧ Gr d H H' ∧ H' p1 = some (DicNO P w p1 L1) ∧ EntCv K H' ms bs L1 ∧ ∃ L : Ents, H' p2 = some (DicNO P w p2 L) ∧ L.length ≤ i ∧ EntCd K H' ms bs ns L
/-- what the law calls a library's spec -/
structure Pn where
  ms : List Str
  bs : List Str
  cv : List Cv
  it : List Cd
structure PnF (H : Hp) (d p : Addr) (pl : Pn) (am ab lr lo : Addr) (M : List (Addr × Cv)) (I : List (Addr × Cd)) : Prop where
  at_ : H p = some (.dK [(keyM, .ref am), (keyB, .ref ab), (keyR, .ref lr), (keyO, .ref lo)])
  nr : lr ≠ d
  no : lo ≠ d
  hm : H am = some (.tup (pl.ms.map V.str))
  hb : H ab = some (.tup (pl.bs.map V.str))
  hr : H lr = some (.lst (M.map fun p => V.ref p.1))
  ho : H lo = some (.lst (I.map fun p => V.ref p.1))
  er : pl.cv = M.map (·.2)
  ei : pl.it = I.map (·.2)
  kr : ∀ p ∈ M, cvA H p.1 p.2
  ki : ∀ p ∈ I, cdT H p.1 p.2
theorem PnF.gr {d p am ab lr lo : Addr} {H H' : Hp} {pl : Pn} {M : List (Addr × Cv)} {I : List (Addr × Cd)} (h : PnF H d p pl am ab lr lo M I) (g : Gr d H H') : PnF H' d p pl am ab lr lo M I :=
  ⟨gr_dK g h.at_, h.nr, h.no, SmT.gr g _ _ h.hm, SmT.gr g _ _ h.hb, g.keep _ _ h.nr h.hr, g.keep _ _ h.no h.ho, h.er, h.ei, fun p hp => cvA.smt (SmT.gr g) (h.kr p hp), fun p hp => cdT.smt (SmT.gr g) (h.ki p hp)⟩
def PnA (H : Hp) (d p : Addr) (pl : Pn) : Prop := ∃ am ab lr lo M I, PnF H d p pl am ab lr lo M I
/-- what is drawn over the marks ms, the bases bs and the names ns -/
structure PnOk (ms bs ns : List Str) (pl : Pn) : Prop where
  em : pl.ms = ms
  eb : pl.bs = bs
  lc : pl.cv.length ≤ 6
  cv : ∀ c ∈ pl.cv, cvOk c = true ∧ withinB ms bs (.cv c) = true
  nc : (pl.cv.map cvK).Nodup
  li : pl.it.length ≤ 6
  it : ∀ c ∈ pl.it, CdOk c ∧ withinB ms bs (.cd c) = true ∧ c.nm ∈ ns
  ni : (pl.it.map cdK).Nodup
theorem gr_ext {d a : Addr} {H H' : Hp} {φ : Heap → Prop} (g : Gr d H H') (h : H a = some (.ext φ)) : H' a = some (.ext φ) := by
  obtain ⟨x, y, z, hd⟩ := g.pre
  exact g.keep _ _ (fun e => by rw [e, hd] at h; cases h) h
def sp_filled : Sp := fun vs H Q _ => ∃ (d p am ab n : Addr) (k : Int) (ms bs ns : List Str), vs = [.ref d, .ref p, .ref n, .int k] ∧ Dc H d ∧ SpF H p ms bs am ab ∧ NmOk ms bs ∧ Wd H d n ns ∧ 0 ≤ k ∧ k ≤ 6 ∧
  ∀ a H' pl am' ab' lr lo M I, Gr d H H' → PnF H' d a pl am' ab' lr lo M I → H lo = none → lr ≠ lo → PnOk ms bs ns pl → Q (.ref a) H'
theorem ok_law_filled (T : Tx K mg) : FnOk P w K mg base CX0 6 T.f__law_filled T.d__law_filled ["_law_reel", "_law_spec", "_law_names", "_law_size"] sp_filled := by
  refine T.F__law_filled.ok sc_law_filled (fun vs H Q E h => ?_) (fun cdv A outer s H vs Q E hr h => ?_)
  · obtain ⟨d, p, am, ab, n, k, ms, bs, ns, rfl, _⟩ := h
    rfl
  · obtain ⟨d, p, am, ab, n, k, ms, bs, ns, rfl, hd, hs, nk, hn, k0, k6, q⟩ := h
    refine ⟨_, (pss_cons (ps_asg (pe_tup (pa_cons pe_dnewN (pa_cons pe_dnewN pa_nil))) (pg_tup (n := 2) rfl (pgs_cons (pg_name (i := 4) sc_law_filled.nd rfl (Or.inr rfl)) (pgs_cons (pg_name (i := 5) sc_law_filled.nd rfl (Or.inr rfl)) pgs_nil))))
      (pss_cons (ps_for PassesOwn.never rfl (pi_range1 (by rfl) T.n_range (pa_cons (pe_call (ok_law_spin T) (hr.mono (by decide)) (by rfl) T.g__law_spin T.F__law_spin.kp T.b__law_spin .nil pass0 (pa_cons (pv 0) (pa_cons (pe_op op_add (pv 3) pe_int) pa_nil))) pa_nil)) (pg_name (i := 6) sc_law_filled.nd rfl (Or.inl rfl)) (pss_cons (ps_set (i := 7) sc_law_filled.nd rfl (Or.inl rfl) (pe_call (ok_law_rule T) (hr.mono (by decide)) (by rfl) T.g__law_rule T.F__law_rule.kp T.b__law_rule .nil pass0 (pa_cons (pv 0) (pa_cons (pv 1) pa_nil))))
      (pss_one (ps_if (pt_cmpR op_notN (pv 7) pe_non (nomark _)) (pss_one (ps_dputN (u16 hr.units) (pv 4) (pe_slice sl_tupA (pv 7) po_none (po_some pe_int)) (pv 7) rfl)) pss_nil))))
      (pss_cons (ps_for PassesOwn.never rfl (pi_range1 (by rfl) T.n_range (pa_cons (pe_call (ok_law_spin T) (hr.mono (by decide)) (by rfl) T.g__law_spin T.F__law_spin.kp T.b__law_spin .nil pass0 (pa_cons (pv 0) (pa_cons (pe_op op_add (pv 3) pe_int) pa_nil))) pa_nil)) (pg_name (i := 6) sc_law_filled.nd rfl (Or.inl rfl)) (pss_cons (ps_set (i := 8) sc_law_filled.nd rfl (Or.inl rfl) (pe_call (ok_law_offer T) (hr.mono (by decide)) (by rfl) T.g__law_offer T.F__law_offer.kp T.b__law_offer .nil pass0 (pa_cons (pv 0) (pa_cons (pv 1) (pa_cons (pv 2) pa_nil)))))
      (pss_one (ps_dputN (u16 hr.units) (pv 5) (pe_slice sl_tupA (pv 8) po_none (po_some pe_int)) (pv 8) rfl))))
      (pss_cons (ps_set (i := 9) sc_law_filled.nd rfl (Or.inl rfl) (pe_disp (pps_cons pe_str (pe_lock (pe_lc (own := [("_law_one", 10)]) (g := gName 10) (by rfl) sc_law_filled.nd (pi_keysN (pv 4)) (blkOk_by (own := [("_law_one", 10)]) (N := ["_law_reel", "_law_spec", "_law_names", "_law_size", "_law_rules", "_law_offers", "_law_turn", "_law_rule_here", "_law_offer_here", "_law_rows", "_law_one"]) (sc := defScope s_law_filled) (by decide +kernel)) (fun _ _ _ _ _ => (pg_name (i := 10) sc_law_filled.nd rfl (Or.inl rfl))) (fun _ _ _ _ _ => pts_nil) (fun _ _ _ _ _ => ((pe_dgetN (u16 hr.units) (pv 4) (pv 10) (fun _ _ => rfl)) : PE _ _ (tDGetN P w K _ _))))) (pps_cons pe_str (pe_lock (pe_lc (own := [("_law_one", 10)]) (g := gName 10) (by rfl) sc_law_filled.nd (pi_keysN (pv 5)) (blkOk_by (own := [("_law_one", 10)]) (N := ["_law_reel", "_law_spec", "_law_names", "_law_size", "_law_rules", "_law_offers", "_law_turn", "_law_rule_here", "_law_offer_here", "_law_rows", "_law_one"]) (sc := defScope s_law_filled) (by decide +kernel)) (fun _ _ _ _ _ => (pg_name (i := 10) sc_law_filled.nd rfl (Or.inl rfl))) (fun _ _ _ _ _ => pts_nil) (fun _ _ _ _ _ => ((pe_dgetN (u16 hr.units) (pv 5) (pv 10) (fun _ _ => rfl)) : PE _ _ (tDGetN P w K _ _))))) pps_nil)) (by rfl) (by rfl) (fun z => by cases z) (by decide)))
      (pss_one (ps_ret (pe_callTy (call_dictPs rfl) (by rfl) T.n_dict (by decide +kernel) (pa_cons (pe_op op_cat (LiI.pe_listItems rfl (pv 1) (by rfl) T.n_list (by decide +kernel)) (LiI.pe_listItems rfl (pv 9) (by rfl) T.n_list (by decide +kernel))) pa_nil)))))))), ?_⟩
    refine seqN fun N1 hN1 => ?_
    walk_at "rd"
    walk_at "rdx"
    intro p1 hp1
    have ne1 : p1 ≠ d := hd.ne hp1
    have s1 := same_new (o := DicNO P w p1 []) hp1
    have f1 : upd H p1 (DicNO P w p1 []) p1 = some (DicNO P w p1 []) := upd_same
    generalize upd H p1 (DicNO P w p1 []) = H1 at *
    intro p2 hp2
    have g1 := Gr.same hd s1
    have hp20 : H p2 = none := g1.back hp2
    have ne2 : p2 ≠ d := hd.ne hp20
    have n12 : p1 ≠ p2 := fun e => by
      rw [← e, f1] at hp2
      cases hp2
    have s2 := same_new (o := DicNO P w p2 []) hp2
    have f2 : upd H1 p2 (DicNO P w p2 []) p2 = some (DicNO P w p2 []) := upd_same
    generalize upd H1 p2 (DicNO P w p2 []) = H2 at *
    refine ⟨by decide, fun p3 hp3 => ?_⟩
    have s3 := same_new (o := .tup [V.ref p1, V.ref p2]) hp3
    have f3 : upd H2 p3 (.tup [V.ref p1, V.ref p2]) p3 = some (.tup [V.ref p1, V.ref p2]) := upd_same
    generalize upd H2 p3 (.tup [V.ref p1, V.ref p2]) = H3 at *
    refine ⟨_, sqt_of f3, rfl, _, _, rfl, _, _, rfl, rfl, hN1 _ _ ?_⟩
    clear hN1
    have g3 := Gr.same hd ((s1.trans s2).trans s3)
    have f13 := (s2.trans s3) _ _ f1
    have f23 := s3 _ _ f2
    clear f1 f2 f3
    refine seqN fun N2 hN2 => ?_
    walk_at "rd"
    walk_at "rdx"
    refine roll_new g3.dice (by omega) (by omega) fun r H4 r0 r1 g4 => ⟨r, rfl, by omega, by omega, ?_⟩
    refine forB walk_range (inv_f1 P w K d p n k p1 p2 ms bs H) ⟨⟨_, _, rfl⟩, g3.trans g4, gr_ext g4 f23, [], gr_ext g4 f13, Nat.le_refl _, List.nodup_nil, fun e h => nomatch h⟩ (fun _ _ _ _ _ => trivial) ?_ ?_
    · rintro i x σ Ha Hb hi ⟨⟨y6, y7, rfl⟩, g, h2, L, hL, ll, nd, ent⟩ ⟨rfl, rfl⟩
      walk_at "rd"
      walk_at "rdx"
      refine ⟨d, p, am, ab, ms, bs, rfl, g.dice, hs.gr g, nk, fun v H5 g5 cv => ?_⟩
      have hL5 := gr_ext g5 hL
      have h25 := gr_ext g5 h2
      have ent5 : ∀ e ∈ L, KeyAt K H5 e.1 e.2.1 ∧ ∃ (a : Addr) (c : Cv), e.2.2 = .ref a ∧ cvA H5 a c ∧ (cvOk c = true ∧ withinB ms bs (.cv c) = true) ∧ e.1 = cvK c := fun e he => by
        obtain ⟨h1, a, c, h3, h4, h5⟩ := ent e he
        exact ⟨keyAt_gr g5 h1, a, c, h3, cvA.smt (SmT.gr g5) h4, h5⟩
      rcases cv with rfl | ⟨a, c, rfl, k1, k2, k3⟩
      · exact iteN (by simp) ⟨⟨_, _, rfl⟩, g.trans g5, h25, L, hL5, by omega, nd, ent5⟩
      · refine iteP (by simp) ?_
        obtain ⟨l1, r1', j1, j2, j3⟩ := id k1
        walk_at "rdx"
        refine slT j1 fun p6 H6 s6 hp6 => ?_
        have hp6' : H6 p6 = some (.tup [.str (wK c.kd), .ref l1, .ref r1']) := hp6
        have ka : KeyAt K H6 (cvK c) p6 := ⟨.tup (sqt_of hp6') (.cons (.str _) (.cons (nk_words (s6 _ _ j2)) (.cons (nk_words (s6 _ _ j3)) .nil))), dep_cv⟩
        have hL6 := s6 _ _ hL5
        have gH := (g.trans g5).trans (Gr.same g5.dice s6)
        refine ⟨L, cvK c, p6, rfl, hL6, fun e he => keyAt_same s6 (ent5 e he).1, ka, sz100' (by omega), ⟨_, _, rfl⟩, gH.mut hp1 ne1, ?_, _, upd_same, Nat.le_trans (putE_len ..) (by omega), putE_nd nd, fun e he => ?_⟩
        · rw [upd_ne n12.symm]
          exact s6 _ _ h25
        rcases putE_mem he with he | ⟨e1, e2, e3⟩
        · obtain ⟨h1, a', c', h2, h3, h4⟩ := ent5 e he
          exact ⟨keyAt_ext hL6 (keyAt_same s6 h1), a', c', h2, cvA.smt (smt_ext hL6) (cvA.same h3 s6), h4⟩
        · refine ⟨?_, a, c, e2, cvA.smt (smt_ext hL6) (cvA.same k1 s6), ⟨k2, k3⟩, e1⟩
          rw [e1]
          rcases e3 with e3 | ⟨u, e3⟩
          · rw [e3]
            exact keyAt_ext hL6 ka
          · exact keyAt_ext hL6 (keyAt_same s6 (ent5 _ e3).1)
    rintro σ H5 ⟨⟨y6, y7, rfl⟩, g5, h25, L1, hL1, ll1, ent1⟩
    have ll6 : L1.length ≤ 6 := by omega
    refine hN2 _ _ ?_
    clear hN2
    refine seqN fun N3 hN3 => ?_
    walk_at "rd"
    walk_at "rdx"
    refine roll_new g5.dice (by omega) (by omega) fun r' H6 r0' r1' g6 => ⟨r', rfl, by omega, by omega, ?_⟩
    have ent16 : EntCv K H6 ms bs L1 := ⟨ent1.1, fun e he => by
      obtain ⟨h1, a, c, h3, h4, h5⟩ := ent1.2 e he
      exact ⟨keyAt_gr g6 h1, a, c, h3, cvA.smt (SmT.gr g6) h4, h5⟩⟩
    refine forB walk_range (inv_f2 P w K d p n k p1 p2 ms bs ns L1 H) ⟨⟨_, _, _, rfl⟩, g5.trans g6, gr_ext g6 hL1, ent16, [], gr_ext g6 h25, Nat.le_refl _, List.nodup_nil, fun e h => nomatch h⟩ (fun _ _ _ _ _ => trivial) ?_ ?_
    · rintro i x σ Ha Hb hi ⟨⟨y6, y7, y8, rfl⟩, g, h1, en1, L, hL, ll, nd, ent⟩ ⟨rfl, rfl⟩
      walk_at "rd"
      walk_at "rdx"
      refine ⟨d, p, am, ab, n, ms, bs, ns, rfl, g.dice, hs.gr g, nk, hn.gr g, fun a H7 c g7 ct ok wi nm' => ?_⟩
      obtain ⟨pa, ra, j1, j2, j3⟩ := id ct
      have hL7 := gr_ext g7 hL
      walk_at "rdx"
      refine slT j1 fun p6 H8 s8 hp6 => ?_
      have hp6' : H8 p6 = some (.tup [.str c.nm, .ref pa]) := hp6
      have ka : KeyAt K H8 (cdK c) p6 := ⟨.tup (sqt_of hp6') (.cons (.str _) (.cons (nk_pts (j2.same s8)) .nil)), dep_cd⟩
      have hL8 := s8 _ _ hL7
      have gH := (g.trans g7).trans (Gr.same g7.dice s8)
      refine ⟨L, cdK c, p6, rfl, hL8, fun e he => keyAt_same s8 (keyAt_gr g7 (ent e he).1), ka, sz100' (by omega), ⟨_, _, _, rfl⟩, gH.mut hp20 ne2, ?_, ⟨en1.1, fun e he => ?_⟩, _, upd_same, Nat.le_trans (putE_len ..) (by omega), putE_nd nd, fun e he => ?_⟩
      · rw [upd_ne n12]
        exact s8 _ _ (gr_ext g7 h1)
      · obtain ⟨k1, a', c', k2, k3, k4⟩ := en1.2 e he
        exact ⟨keyAt_ext hL8 (keyAt_same s8 (keyAt_gr g7 k1)), a', c', k2, cvA.smt (smt_ext hL8) (cvA.same (cvA.smt (SmT.gr g7) k3) s8), k4⟩
      rcases putE_mem he with he | ⟨e1, e2, e3⟩
      · obtain ⟨h1, a', c', h2, h3, h4⟩ := ent e he
        exact ⟨keyAt_ext hL8 (keyAt_same s8 (keyAt_gr g7 h1)), a', c', h2, cdT.smt (smt_ext hL8) (cdT.same (cdT.smt (SmT.gr g7) h3) s8), h4⟩
      · refine ⟨?_, a, c, e2, cdT.smt (smt_ext hL8) (cdT.same ct s8), ⟨ok, wi, nm'⟩, e1⟩
        rw [e1]
        rcases e3 with e3 | ⟨u, e3⟩
        · rw [e3]
          exact keyAt_ext hL8 ka
        · exact keyAt_ext hL8 (keyAt_same s8 (keyAt_gr g7 (ent _ e3).1))
    rintro σ H7 ⟨⟨y6, y7, y8, rfl⟩, g7, h17, en1, L2, hL2, ll2, ent2⟩
    have ll26 : L2.length ≤ 6 := by omega
    refine hN3 _ _ ?_
    clear hN3 ent16
    clear ent1 hL1 h25 f13 f23 g3 g4 g5 g6
    refine seqN fun N4 hN4 => ?_
    walk_at "rd"
    walk_at "rdx"
    intro p8 hp8
    have s8 := same_new (o := .dK []) hp8
    have f8 : upd H7 p8 (.dK []) p8 = some (.dK []) := upd_same
    generalize upd H7 p8 (.dK []) = H8 at *
    have g8 := g7.trans (Gr.same g7.dice s8)
    have np8 : H p8 = none := g7.back hp8
    have ne8 : p8 ≠ d := hd.ne np8
    have h18 := s8 _ _ h17
    have h28 := s8 _ _ hL2
    have en8 : EntCv K H8 ms bs L1 := ⟨en1.1, fun e he => by
      obtain ⟨h1, a, c, h3, h4, h5⟩ := en1.2 e he
      exact ⟨keyAt_same s8 h1, a, c, h3, cvA.same h4 s8, h5⟩⟩
    have en28 : EntCd K H8 ms bs ns L2 := ⟨ent2.1, fun e he => by
      obtain ⟨h1, a, c, h3, h4, h5⟩ := ent2.2 e he
      exact ⟨keyAt_same s8 h1, a, c, h3, cdT.same h4 s8, h5⟩⟩
    clear h17 hL2 en1 ent2 s8
    refine ⟨p1, _, h18, trivial, fun od => ?_⟩
    try simp only [iKeysN]
    try walk_at "rdx"
    obtain ⟨nd1, e18⟩ := en8
    refine ⟨od, L1, upd_same, lc_same walkN (fun i => (L1[i]?.map (·.2.2)).getD .non) (sz100 (by omega)) (fun H' s => s _ _ upd_same) ?_ mono_name mono_yes ?_⟩
    · rintro i x Ha Hb hi hS ⟨rfl, k', b', v', eL, rfl⟩ R hR
      rw [eL] at hR
      walk_at "rdx"
      have sx : ∀ a xs, SqT K H8 a xs → SqT K Hb a xs := fun a xs t => Evl.ex_t hS (sqt_ext h18 t)
      refine ⟨L1, .inr ⟨od, hS _ _ upd_same⟩, fun e he => (e18 e he).1.mono sx, k', ((e18 _ (List.mem_of_getElem? eL)).1).mono sx, ⟨b', v', atE_mem nd1 eL, hR _ (Same.refl _)⟩⟩
    intro H9 D9 s9 hD9 hL9
    have e9 : ((List.range L1.length).map fun i => (L1[i]?.map (·.2.2)).getD V.non) = L1.map (·.2.2) := range_opt (fun e : NestedKey × Addr × V => e.2.2) V.non L1
    rw [e9] at hL9
    refine ⟨s9 _ _ upd_same, ?_⟩
    have nD9 : D9 ≠ p1 := fun e => by
      rw [e, upd_same] at hD9
      cases hD9
    have s89 : SB p1 H8 (upd H9 p1 (DicNO P w p1 L1)) := fun a o n e => by
      rw [upd_ne n]
      refine s9 _ _ ?_
      rw [upd_ne n]
      exact e
    have hLA : upd H9 p1 (DicNO P w p1 L1) D9 = some (.lst (L1.map (·.2.2))) := by
      rw [upd_ne nD9]
      exact hL9
    have hD8 : H8 D9 = none := by
      rw [upd_ne nD9] at hD9
      exact hD9
    generalize upd H9 p1 (DicNO P w p1 L1) = HA at *
    have gA : Gr d H HA := Gr.sb g8 s89 hp1 ne1
    have stA : SmT H8 HA := s89.smt h18
    have f8A : HA p8 = some (.dK []) := s89 _ _ (fun e => by rw [e, h18] at f8; cases f8) f8
    have h2A : HA p2 = some (DicNO P w p2 L2) := s89 _ _ n12.symm h28
    obtain ⟨M, eM1, eM2, kM⟩ := ent_pairs (R := fun a c => cvA HA a c ∧ (cvOk c = true ∧ withinB ms bs (.cv c) = true)) (key := cvK) (L := L1) fun e he => by
      obtain ⟨_, a, c, h1, h2, h3, h4⟩ := e18 e he
      exact ⟨a, c, h1, ⟨cvA.smt stA h2, h3⟩, h4⟩
    have e2A : ∀ e ∈ L2, KeyAt K HA e.1 e.2.1 ∧ ∃ (a : Addr) (c : Cd), e.2.2 = .ref a ∧ cdT HA a c ∧ (CdOk c ∧ withinB ms bs (.cd c) = true ∧ c.nm ∈ ns) ∧ e.1 = cdK c := fun e he => by
      obtain ⟨h1, a, c, h3, h4, h5⟩ := en28.2 e he
      refine ⟨h1.mono fun b xs t => ?_, a, c, h3, cdT.smt stA h4, h5⟩
      rcases t with (t | ⟨u, t⟩) | t
      · exact .inl (.inl (stA _ _ t))
      · exact .inl (.inr ⟨u, s89 _ _ (fun e => by rw [e, h18] at t; cases t) t⟩)
      · exact .inr t
    have nd2 := en28.1
    rw [eM1] at hLA
    rw [eM2] at nd1
    have lM : M.length ≤ 6 := by
      have := congrArg List.length eM1
      rw [List.length_map, List.length_map] at this
      omega
    have nDd : D9 ≠ d := g8.dice.ne hD8
    have nD2 : D9 ≠ p2 := fun e => by
      rw [← e, hLA] at h2A
      cases h2A
    clear eM1 eM2 e18 e9 en28 h28 h18 f8 hL9 s9 hD9
    refine ⟨p2, _, h2A, trivial, fun od => ?_⟩
    try simp only [iKeysN]
    try walk_at "rdx"
    refine ⟨od, L2, upd_same, lc_same walkN (fun i => (L2[i]?.map (·.2.2)).getD .non) (sz100 (by omega)) (fun H' s => s _ _ upd_same) ?_ mono_name mono_yes ?_⟩
    · rintro i x Ha Hb hi hS ⟨rfl, k', b', v', eL, rfl⟩ R hR
      rw [eL] at hR
      walk_at "rdx"
      have sx : ∀ a xs, SqT K HA a xs → SqT K Hb a xs := fun a xs t => Evl.ex_t hS (sqt_ext h2A t)
      refine ⟨L2, .inr ⟨od, hS _ _ upd_same⟩, fun e he => (e2A e he).1.mono sx, k', ((e2A _ (List.mem_of_getElem? eL)).1).mono sx, ⟨b', v', atE_mem nd2 eL, hR _ (Same.refl _)⟩⟩
    intro HB DB sB hDB hLB
    have eB : ((List.range L2.length).map fun i => (L2[i]?.map (·.2.2)).getD V.non) = L2.map (·.2.2) := range_opt (fun e : NestedKey × Addr × V => e.2.2) V.non L2
    rw [eB] at hLB
    refine ⟨sB _ _ upd_same, ?_⟩
    have nDB : DB ≠ p2 := fun e => by
      rw [e, upd_same] at hDB
      cases hDB
    have sAC : SB p2 HA (upd HB p2 (DicNO P w p2 L2)) := fun a o n e => by
      rw [upd_ne n]
      refine sB _ _ ?_
      rw [upd_ne n]
      exact e
    have hLC : upd HB p2 (DicNO P w p2 L2) DB = some (.lst (L2.map (·.2.2))) := by
      rw [upd_ne nDB]
      exact hLB
    have hDA : HA DB = none := by
      rw [upd_ne nDB] at hDB
      exact hDB
    generalize upd HB p2 (DicNO P w p2 L2) = HC at *
    have gC : Gr d H HC := Gr.sb gA sAC hp20 ne2
    have stC : SmT HA HC := sAC.smt h2A
    have f8C : HC p8 = some (.dK []) := sAC _ _ (fun e => by rw [e, h2A] at f8A; cases f8A) f8A
    obtain ⟨I, eI1, eI2, kI⟩ := ent_pairs (R := fun a c => cdT HC a c ∧ (CdOk c ∧ withinB ms bs (.cd c) = true ∧ c.nm ∈ ns)) (key := cdK) (L := L2) fun e he => by
      obtain ⟨_, a, c, h1, h2, h3, h4⟩ := e2A e he
      exact ⟨a, c, h1, ⟨cdT.smt stC h2, h3⟩, h4⟩
    rw [eI1] at hLC
    rw [eI2] at nd2
    have lI : I.length ≤ 6 := by
      have := congrArg List.length eI1
      rw [List.length_map, List.length_map] at this
      omega
    have hMC : HC D9 = some (.lst (M.map fun p => V.ref p.1)) := sAC _ _ nD2 hLA
    have kMC : ∀ p ∈ M, cvA HC p.1 p.2 := fun p hp => cvA.smt stC (kM p hp).1
    have nDBd : DB ≠ d := gA.dice.ne hDA
    clear eI1 eI2 e2A eB hLB sB hDB h2A f8A
    refine ⟨f8C, [(keyR, .ref D9), (keyO, .ref DB)], rfl, by show 2 ≤ 15; decide, hN4 _ _ ?_⟩
    clear hN4
    have em : mergeK [] [(keyR, V.ref D9), (keyO, V.ref DB)] = [(keyR, V.ref D9), (keyO, V.ref DB)] := rfl
    rw [em]
    have gD := gC.mut (o := .dK [(keyR, V.ref D9), (keyO, V.ref DB)]) np8 ne8
    have fD : upd HC p8 (.dK [(keyR, V.ref D9), (keyO, V.ref DB)]) p8 = some (.dK [(keyR, V.ref D9), (keyO, V.ref DB)]) := upd_same
    have keep : ∀ a o, HC a = some o → (∀ l, o ≠ .dK l) → upd HC p8 (.dK [(keyR, V.ref D9), (keyO, V.ref DB)]) a = some o := fun a o e z => by
      rw [upd_ne fun q => by rw [q, f8C] at e; cases e; exact z _ rfl]
      exact e
    have stD : SmT HC (upd HC p8 (.dK [(keyR, V.ref D9), (keyO, V.ref DB)])) := fun a xs e => keep a _ e fun l z => nomatch z
    have hMD := keep _ _ hMC (fun l z => nomatch z)
    have hID := keep _ _ hLC (fun l z => nomatch z)
    generalize upd HC p8 (.dK [(keyR, V.ref D9), (keyO, V.ref DB)]) = HD at *
    have kMD : ∀ p ∈ M, cvA HD p.1 p.2 := fun p hp => cvA.smt stD (kMC p hp)
    have kID : ∀ p ∈ I, cdT HD p.1 p.2 := fun p hp => cdT.smt stD (kI p hp).1
    have hsD := hs.gr gD
    walk_at "rd"
    walk_at "rdx"
    clear keep
    refine ⟨p, _, rfl, hsD.at_, fun HE l1 t1 sE hl1 ht1 nl1 hL1 pr1 => ?_⟩
    have sE : Same HD HE := sE
    obtain _ | ⟨c1, pr1⟩ := pr1
    obtain _ | ⟨c2, pr1⟩ := pr1
    cases pr1
    rename_i ta tb
    refine ⟨p8, _, rfl, sE _ _ fD, fun HF l2 t2 sF hl2 ht2 nl2 hL2 pr2 => ?_⟩
    have sF : Same HE HF := sF
    obtain _ | ⟨c3, pr2⟩ := pr2
    obtain _ | ⟨c4, pr2⟩ := pr2
    cases pr2
    rename_i tc td
    refine Lv.catL (sF _ _ hL1) hL2 (show 4 ≤ sizeLine by decide) fun l3 hl3 => ?_
    have e4 : List.map V.ref [ta, tb] ++ List.map V.ref [tc, td] = [ta, tb, tc, td].map V.ref := rfl
    rw [e4]
    have sG := same_new (o := .lst ([ta, tb, tc, td].map V.ref)) hl3
    have fG : upd HF l3 (.lst ([ta, tb, tc, td].map V.ref)) l3 = some (.lst ([ta, tb, tc, td].map V.ref)) := upd_same
    generalize upd HF l3 (.lst ([ta, tb, tc, td].map V.ref)) = HG at *
    have sEG := sF.trans sG
    refine ⟨l3, [ta, tb, tc, td], [(keyM, .ref am), (keyB, .ref ab), (keyR, .ref D9), (keyO, .ref DB)], rfl, sql_of fG, .cons (sqt_of (sEG _ _ c1)) (.cons (sqt_of (sEG _ _ c2)) (.cons (sqt_of (sG _ _ c3)) (.cons (sqt_of (sG _ _ c4)) .nil))), fun p9 hp9 => ?_⟩
    have em4 : mergeK [] [(keyM, V.ref am), (keyB, V.ref ab), (keyR, V.ref D9), (keyO, V.ref DB)] = [(keyM, V.ref am), (keyB, V.ref ab), (keyR, V.ref D9), (keyO, V.ref DB)] := rfl
    rw [em4]
    have sH := same_new (o := .dK [(keyM, V.ref am), (keyB, V.ref ab), (keyR, V.ref D9), (keyO, V.ref DB)]) hp9
    have fH : upd HG p9 (.dK [(keyM, V.ref am), (keyB, V.ref ab), (keyR, V.ref D9), (keyO, V.ref DB)]) p9 = some (.dK [(keyM, V.ref am), (keyB, V.ref ab), (keyR, V.ref D9), (keyO, V.ref DB)]) := upd_same
    generalize upd HG p9 (.dK [(keyM, V.ref am), (keyB, V.ref ab), (keyR, V.ref D9), (keyO, V.ref DB)]) = HH at *
    have sDH := sE.trans (sEG.trans sH)
    refine q p9 HH ⟨ms, bs, M.map (·.2), I.map (·.2)⟩ am ab D9 DB M I (gD.trans (Gr.same gD.dice sDH)) ⟨fH, nDd, nDBd, sDH _ _ hsD.hm, sDH _ _ hsD.hb, sDH _ _ hMD, sDH _ _ hID, rfl, rfl, fun p hp => (kMD p hp).same sDH, fun p hp => (kID p hp).same sDH⟩ (gA.back hDA) (fun e => by rw [e, hDA] at hLA; cases hLA)
      ⟨rfl, rfl, by show (M.map (·.2)).length ≤ 6; rw [List.length_map]; exact lM, fun c hc => ?_, ?_, by show (I.map (·.2)).length ≤ 6; rw [List.length_map]; exact lI, fun c hc => ?_, ?_⟩
    · obtain ⟨x, hx, rfl⟩ := List.mem_map.mp hc
      exact (kM x hx).2
    · show ((M.map (·.2)).map cvK).Nodup
      rw [List.map_map]
      exact nd1
    · obtain ⟨x, hx, rfl⟩ := List.mem_map.mp hc
      exact (kI x hx).2
    · show ((I.map (·.2)).map cdK).Nodup
      rw [List.map_map]
      exact nd2
end

local macro_rules | `(tactic| walk_at "rdx") => `(tactic| ((try simp only [tFld, gTup, gStar, tJs, tFmt, sFld, tSc_eq, tDGet, tMake, tMakeK]); try walk_at "rd"))
section
variable {w : World} {K : PySem.W.Frag} {mg : Str → Option Value} {base : Heap}
theorem dp_cdl {H : Hp} {a : Addr} {xs : List V} {cs : List Cd} (h : H a = some (.lst xs)) (l : xs.length = cs.length) (k : ∀ (i : Nat) c, cs[i]? = some c → ∃ b, xs[i]? = some (V.ref b) ∧ cdT H b c) : Dp K H (.ref a) (.list (cs.map cdD)) := .lst (sql_of h) (dp_map l fun i c e => let ⟨b, e1, e2⟩ := k i c e; ⟨_, e1, dp_cd e2⟩)
theorem sh_cdl {cs : List Cd} (h : ∀ c ∈ cs, CdOk c) : SeqAt.shaped (.list (cs.map cdD)) = true := (Gd.list (k := 4) (n := 7713) fun d hd => by
  obtain ⟨c, hc, rfl⟩ := List.mem_map.mp hd
  exact gd_cd (h c hc)).shaped (by decide)
/-- what the law's elder is -/
structure ElOk (pl : Pn) : Prop where
  ex : ∃ ms bs ns : List Str, SdOk ms bs ∧ PnOk (sortZ ms) (sortZ bs) ns pl
def sp_elder : Sp := fun vs H Q _ => ∃ (d : Addr) (k : Int), vs = [.ref d, .int k] ∧ Dc H d ∧ 0 ≤ k ∧ k ≤ 6 ∧ ∀ a H' pl, Gr d H H' → PnA H' d a pl → ElOk pl → Q (.ref a) H'
theorem ok_law_elder (T : Tx K mg) : FnOk P w K mg base CX0 7 T.f__law_elder T.d__law_elder ["_law_reel", "_law_size"] sp_elder := by
  refine T.F__law_elder.ok sc_law_elder (fun vs H Q E h => ?_) (fun cdv A outer s H vs Q E hr h => ?_)
  · obtain ⟨d, k, rfl, _⟩ := h
    rfl
  · obtain ⟨d, k, rfl, hd, k0, k6, q⟩ := h
    refine ⟨_, (pss_cons (ps_set (i := 2) sc_law_elder.nd rfl (Or.inl rfl) (pe_call (ok_law_words T) (hr.mono (by decide)) (by rfl) T.g__law_words T.F__law_words.kp T.b__law_words .nil pass0 (pa_cons (pv 0) (pa_cons pe_int pa_nil))))
      (pss_cons (ps_par (i := 3) (j := 4) (by rfl) sc_law_elder.nd rfl rfl (by decide) rfl rfl (pa_cons (pe_slice sl_list (pv 2) po_none (po_some (pe_call (ok_law_pick T) (hr.mono (by decide)) (by rfl) T.g__law_pick T.F__law_pick.kp T.b__law_pick .nil pass0 (pa_cons (pv 0) (pa_cons (pe_lst (pa_cons pe_int (pa_cons pe_int (pa_cons pe_int (pa_cons pe_int pa_nil))))) pa_nil))))) (pa_cons (pe_slice sl_list (pv 2) (po_some pe_int) (po_some (pe_op op_add pe_int (pe_call (ok_law_spin T) (hr.mono (by decide)) (by rfl) T.g__law_spin T.F__law_spin.kp T.b__law_spin .nil pass0 (pa_cons (pv 0) (pa_cons pe_int pa_nil)))))) pa_nil)) (by rfl))
      (pss_cons (ps_set (i := 5) sc_law_elder.nd rfl (Or.inl rfl) (pe_disp (pps_cons pe_str (pe_callTy call_tupL (by rfl) T.n_tuple (by decide +kernel) (pa_cons (pe_callB (cr_sortD (u16 hr.units)) (by rfl) T.n_sorted (by decide +kernel) (pa_cons (pv 3) pa_nil)) pa_nil)) (pps_cons pe_str (pe_callTy call_tupL (by rfl) T.n_tuple (by decide +kernel) (pa_cons (pe_callB (cr_sortD (u16 hr.units)) (by rfl) T.n_sorted (by decide +kernel) (pa_cons (pv 4) pa_nil)) pa_nil)) pps_nil)) (by rfl) (by rfl) (fun z => by cases z) (by decide)))
      (pss_cons (ps_set (i := 6) sc_law_elder.nd rfl (Or.inl rfl) (pe_call (ok_law_filled T) (hr.mono (by decide)) (by rfl) T.g__law_filled T.F__law_filled.kp T.b__law_filled .nil pass0 (pa_cons (pv 0) (pa_cons (pv 5) (pa_cons (pe_slice sl_list (pv 2) (po_some pe_int) po_none) (pa_cons (pv 1) pa_nil))))))
      (pss_cons (ps_if (pt_cmpR (op_eqD hr.units) (pe_dget (u1 hr.units) (pv 6) pe_str (fun _ _ => rfl)) (pe_lst pa_nil) (nomark _)) (pss_one (ps_expr (pe_bm PySem.F.plainAttrs_list PySem.F.slot_list_append PySem.F.type_list_append mt_append (pe_dget (u1 hr.units) (pv 6) pe_str (fun _ _ => rfl)) (pa_cons (pe_call (ok_law_offer T) (hr.mono (by decide)) (by rfl) T.g__law_offer T.F__law_offer.kp T.b__law_offer .nil pass0 (pa_cons (pv 0) (pa_cons (pv 5) (pa_cons (pe_slice sl_list (pv 2) (po_some pe_int) po_none) pa_nil)))) pa_nil)))) pss_nil)
      (pss_one (ps_ret (pv 6)))))))), ?_⟩
    refine seqN fun N1 hN1 => ?_
    walk_at "rd"
    walk_at "rdx"
    refine ⟨d, 6, rfl, hd, by decide, fun p0 H1 ws g1 hp0 n0 h0 nm nd ll => hN1 _ _ ?_⟩
    clear hN1
    refine seqN fun N2 hN2 => ?_
    walk_at "rd"
    walk_at "rdx"
    refine ⟨by decide, fun p1 hp1 => pick_n g1.dice hp1 (by simp) (by simp) fun y H2 hy g2 => ?_⟩
    obtain ⟨j, rfl, j2⟩ : ∃ j : Nat, y = .int j ∧ j ≤ 2 := by
      simp only [List.mem_cons, List.not_mem_nil, or_false] at hy
      rcases hy with h | h | h | h
      · exact ⟨1, h, by decide⟩
      · exact ⟨0, h, by decide⟩
      · exact ⟨2, h, by decide⟩
      · exact ⟨1, h, by decide⟩
    have g12 := g1.trans g2
    have h02 := g2.keep _ _ n0 h0
    refine ⟨_, rfl, p0, _, rfl, sql_of h02, fun p2 hp2 => ?_⟩
    rw [cut_to, ← List.map_take]
    have s3 := same_new (o := .lst ((ws.take j).map V.str)) hp2
    have f3 : upd H2 p2 (.lst ((ws.take j).map V.str)) p2 = some (.lst ((ws.take j).map V.str)) := upd_same
    generalize upd H2 p2 (.lst ((ws.take j).map V.str)) = H3 at *
    have g3 := Gr.same g2.dice s3
    refine roll_new g3.dice (by decide) (by decide) fun r H4 r0 r3 g4 => ?_
    have n2 : p2 ≠ d := g2.dice.ne hp2
    have h04 := g4.keep _ _ n0 (s3 _ _ h02)
    have h24 := g4.keep _ _ n2 f3
    obtain ⟨m, rfl⟩ : ∃ m : Nat, r = (m : Int) := ⟨r.toNat, by omega⟩
    have ecut : cutV (ws.map V.str) (some 2) (some (3 + (m : Int))) = ((ws.drop 2).take (1 + m)).map V.str := by
      match ws, ll with
      | [a, b, c, e, f, h], _ =>
        have : m = 0 ∨ m = 1 ∨ m = 2 := by omega
        rcases this with rfl | rfl | rfl <;> rfl
    refine ⟨_, rfl, p0, _, rfl, sql_of h04, fun p4 hp4 => hN2 _ _ ?_⟩
    clear hN2
    rw [ecut]
    have s5 := same_new (o := .lst (((ws.drop 2).take (1 + m)).map V.str)) hp4
    have f5 : upd H4 p4 (.lst (((ws.drop 2).take (1 + m)).map V.str)) p4 = some (.lst (((ws.drop 2).take (1 + m)).map V.str)) := upd_same
    generalize upd H4 p4 (.lst (((ws.drop 2).take (1 + m)).map V.str)) = H5 at *
    have g5 := ((g12.trans g3).trans g4).trans (Gr.same g4.dice s5)
    have h05 := s5 _ _ h04
    have h25 := s5 _ _ h24
    have sub2 : ((ws.drop 2).take (1 + m)).Sublist (ws.drop 2) := List.take_sublist ..
    have nd2 : (ws.take 2 ++ ws.drop 2).Nodup := by rw [List.take_append_drop]; exact nd
    have sd : SdOk (ws.take j) ((ws.drop 2).take (1 + m)) := by
      refine ⟨fun z hz => nm z (List.mem_of_mem_take hz), fun z hz => nm z (List.mem_of_mem_drop (sub2.subset hz)), by rw [List.length_take]; omega, by rw [List.length_take, List.length_drop]; omega, by rw [List.length_take, List.length_drop]; omega, (List.take_sublist ..).nodup nd, sub2.nodup ((List.drop_sublist ..).nodup nd), fun z hz hz2 => ?_⟩
      have h1 : z ∈ ws.take 2 := List.take_subset_take_left (l := ws) (show j ≤ 2 from j2) hz
      exact (List.nodup_append.mp nd2).2.2 z h1 z (sub2.subset hz2) rfl
    generalize ws.take j = ms at *
    generalize (ws.drop 2).take (1 + m) = bs at *
    clear ecut sub2 nd2 g1 g2 g12 g3 g4 h0 h02 h04 h24 f3
    refine seqN fun N3 hN3 => ?_
    walk_at "rd"
    walk_at "rdx"
    intro p6 hp6
    have s6 := same_new (o := .dK []) hp6
    have f6 : upd H5 p6 (.dK []) p6 = some (.dK []) := upd_same
    generalize upd H5 p6 (.dK []) = H6 at *
    refine sortTx (s6 _ _ h25) fun q1 hq1 => ?_
    have s7 := same_new (o := .lst ((sortZ ms).map V.str)) hq1
    have f7 : upd H6 q1 (.lst ((sortZ ms).map V.str)) q1 = some (.lst ((sortZ ms).map V.str)) := upd_same
    generalize upd H6 q1 (.lst ((sortZ ms).map V.str)) = H7 at *
    refine tupL (sql_of f7) fun q2 hq2 => ?_
    have s8 := same_new (o := .tup ((sortZ ms).map V.str)) hq2
    have f8 : upd H7 q2 (.tup ((sortZ ms).map V.str)) q2 = some (.tup ((sortZ ms).map V.str)) := upd_same
    generalize upd H7 q2 (.tup ((sortZ ms).map V.str)) = H8 at *
    refine sortTx ((s6.trans (s7.trans s8)) _ _ f5) fun q3 hq3 => ?_
    have s9 := same_new (o := .lst ((sortZ bs).map V.str)) hq3
    have f9 : upd H8 q3 (.lst ((sortZ bs).map V.str)) q3 = some (.lst ((sortZ bs).map V.str)) := upd_same
    generalize upd H8 q3 (.lst ((sortZ bs).map V.str)) = H9 at *
    refine tupL (sql_of f9) fun q4 hq4 => ?_
    have sA := same_new (o := .tup ((sortZ bs).map V.str)) hq4
    have fA : upd H9 q4 (.tup ((sortZ bs).map V.str)) q4 = some (.tup ((sortZ bs).map V.str)) := upd_same
    generalize upd H9 q4 (.tup ((sortZ bs).map V.str)) = HA at *
    have s6A := s7.trans (s8.trans (s9.trans sA))
    have f6A := s6A _ _ f6
    refine ⟨f6A, [(keyM, .ref q2), (keyB, .ref q4)], rfl, by show 2 ≤ 15; decide, hN3 _ _ ?_⟩
    clear hN3
    have em : mergeK [] [(keyM, V.ref q2), (keyB, V.ref q4)] = [(keyM, V.ref q2), (keyB, V.ref q4)] := rfl
    rw [em]
    have np6 : H p6 = none := g5.back hp6
    have gA := g5.trans (Gr.same g5.dice (s6.trans s6A))
    have gB := gA.mut (o := .dK [(keyM, V.ref q2), (keyB, V.ref q4)]) np6 (hd.ne np6)
    have keep : ∀ a o, HA a = some o → (∀ l, o ≠ .dK l) → upd HA p6 (.dK [(keyM, V.ref q2), (keyB, V.ref q4)]) a = some o := fun a o e z => by
      rw [upd_ne fun q => by rw [q, f6A] at e; cases e; exact z _ rfl]
      exact e
    have hsB : SpF (upd HA p6 (.dK [(keyM, V.ref q2), (keyB, V.ref q4)])) p6 (sortZ ms) (sortZ bs) q2 q4 := ⟨upd_same, keep _ _ ((s9.trans sA) _ _ f8) (fun l z => nomatch z), keep _ _ fA (fun l z => nomatch z)⟩
    have h0B := keep _ _ ((s6.trans s6A) _ _ h05) (fun l z => nomatch z)
    generalize upd HA p6 (.dK [(keyM, V.ref q2), (keyB, V.ref q4)]) = HB at *
    clear keep f6 f7 f8 f9 fA f6A s6A s6 s7 s8 s9 sA em h05 h25
    have sds := sd.sort
    have nk : NmOk (sortZ ms) (sortZ bs) := ⟨sds.nm, sds.nb, sds.lm, sds.lb, sds.lo⟩
    have ec4 : cutV (ws.map V.str) (some 4) none = (ws.drop 4).map V.str := by
      match ws, ll with
      | [a, b, c, e, f, h], _ => rfl
    have ln4 : (ws.drop 4).length = 2 := by rw [List.length_drop]; omega
    have nm4 : ∀ z ∈ ws.drop 4, isNm z = true := fun z hz => nm z (List.mem_of_mem_drop hz)
    refine seqN fun N4 hN4 => ?_
    walk_at "rd"
    walk_at "rdx"
    refine ⟨p0, _, rfl, sql_of h0B, fun pn hpn => ?_⟩
    rw [ec4]
    have sC := same_new (o := .lst ((ws.drop 4).map V.str)) hpn
    have fC : upd HB pn (.lst ((ws.drop 4).map V.str)) pn = some (.lst ((ws.drop 4).map V.str)) := upd_same
    generalize upd HB pn (.lst ((ws.drop 4).map V.str)) = HC at *
    have gC := gB.trans (Gr.same gB.dice sC)
    refine ⟨d, p6, q2, q4, pn, k, _, _, ws.drop 4, rfl, gC.dice, hsB.gr (Gr.same gB.dice sC), nk, ⟨fC, gB.dice.ne hpn, nm4, by omega, by omega⟩, k0, k6, fun a HD pl am ab lr lo M I gD hf nlo nrl ok => hN4 _ _ ?_⟩
    clear hN4
    have nlo0 : H lo = none := gC.back nlo
    have h0D := gD.keep _ _ n0 (sC _ _ h0B)
    have hsD := hsB.gr ((Gr.same gB.dice sC).trans gD)
    refine seqN fun N5 hN5 => ?_
    have fin : ∀ HZ pl, Gr d H HZ → PnA HZ d a pl → PnOk (sortZ ms) (sortZ bs) (ws.drop 4) pl → N5 [some (.ref d), some (.int k), some (.ref p0), some (.ref p2), some (.ref p4), some (.ref p6), some (.ref a)] HZ := fun HZ pl gZ pZ oZ => by
      refine hN5 _ _ ?_
      walk_at "rd"
      exact q a HZ pl gZ pZ ⟨_, _, _, sd, oZ⟩
    clear hN5
    walk_at "rd"
    walk_at "rdx"
    have okd : ∀ c ∈ pl.it, CdOk c := fun c hc => (ok.it c hc).1
    refine ⟨.ref lo, DGet.k (k := keyO) hf.at_, by decide, fun pe hpe => ?_⟩
    have sE := same_new (o := .lst []) hpe
    have fE : upd HD pe (.lst []) pe = some (.lst []) := upd_same
    generalize upd HD pe (.lst []) = HE at *
    have hE := hf.gr (Gr.same gD.dice sE)
    have gE := (gC.trans gD).trans (Gr.same gD.dice sE)
    refine ⟨.list (pl.it.map cdD), .list ([].map cdD), dp_cdl hE.ho (by rw [hf.ei]; simp) (fun i c e => ?_), dp_cdl fE rfl (fun i c e => by cases e), sh_cdl okd, sh_cdl (fun c hc => nomatch hc), ?_⟩
    · rw [hf.ei, List.getElem?_map] at e
      obtain ⟨q0, e0, rfl⟩ := Option.map_eq_some_iff.mp e
      exact ⟨q0.1, by rw [List.getElem?_map, e0]; rfl, hE.ki _ (List.mem_of_getElem? e0)⟩
    rw [PyData.eqv, eqv_map eqv_cd]
    by_cases h0 : pl.it = []
    · rw [decide_eq_true h0]
      have eI : I = [] := by
        have := hf.ei
        rw [h0] at this
        exact List.map_eq_nil_iff.mp this.symm
      subst eI
      refine ⟨_, rfl, iteP rfl ⟨.ref lo, DGet.k (k := keyO) hE.at_, tyl (sql_of hE.ho), p0, _, rfl, sql_of (sE _ _ h0D), fun pm hpm => ?_⟩⟩
      rw [ec4]
      have sF := same_new (o := .lst ((ws.drop 4).map V.str)) hpm
      have fF : upd HE pm (.lst ((ws.drop 4).map V.str)) pm = some (.lst ((ws.drop 4).map V.str)) := upd_same
      generalize upd HE pm (.lst ((ws.drop 4).map V.str)) = HF at *
      have gF := gE.trans (Gr.same gE.dice sF)
      have hF := hE.gr (Gr.same gE.dice sF)
      have hsF := hsD.gr (Gr.same gD.dice (sE.trans sF))
      refine ⟨d, p6, q2, q4, pm, _, _, ws.drop 4, rfl, gF.dice, hsF, nk, ⟨fF, gE.dice.ne hpm, nm4, by omega, by omega⟩, fun b HG c gG ct okc wi nmc => ⟨lo, [], _, rfl, rfl, gG.keep _ _ hF.no hF.ho, by decide, ?_⟩⟩
      have hG := hF.gr gG
      have keep : ∀ x o, HG x = some o → (∀ l, o ≠ .lst l) → upd HG lo (.lst [V.ref b]) x = some o := fun x o e z => by
        rw [upd_ne fun q => by rw [q, hG.ho] at e; cases e; exact z _ rfl]
        exact e
      have stZ : SmT HG (upd HG lo (.lst [V.ref b])) := fun x xs e => keep x _ e fun l z => nomatch z
      refine fin _ ⟨pl.ms, pl.bs, pl.cv, [c]⟩ (((gF.trans gG)).mut nlo0 hG.no) ⟨am, ab, lr, lo, M, [(b, c)], ⟨keep _ _ hG.at_ (fun l z => nomatch z), hG.nr, hG.no, stZ _ _ hG.hm, stZ _ _ hG.hb, ?_, upd_same, hG.er, rfl, fun p hp => cvA.smt stZ (hG.kr p hp), fun p hp => ?_⟩⟩ ⟨ok.em, ok.eb, ok.lc, ok.cv, ok.nc, by show 1 ≤ 6; decide, fun c' hc => ?_, List.nodup_cons.mpr ⟨(fun h => nomatch h), List.nodup_nil⟩⟩
      · rw [upd_ne nrl]
        exact hG.hr
      · rw [List.mem_singleton.mp hp]
        exact cdT.smt stZ ct
      · rw [List.mem_singleton.mp hc]
        exact ⟨okc, wi, nmc⟩
    · rw [decide_eq_false h0]
      exact ⟨_, rfl, iteN (by simp) (fin HE pl gE ⟨am, ab, lr, lo, M, I, hE⟩ ok)⟩
end

local macro_rules | `(tactic| walk_at "rdx") => `(tactic| ((try simp only [tFld, gTup, gStar, tJs, tFmt, sFld, tSc_eq, tDGet, tMake, tMakeK]); try walk_at "rd"))
section
variable {w : World} {K : PySem.W.Frag} {mg : Str → Option Value} {base : Heap}
/-- what the law's library is of -/
def libOf (pl : Pn) : Lb := ⟨pl.ms, pl.bs, sortCv pl.cv, sortCd pl.it⟩
def sp_library (K : PySem.W.Frag) (T : List (Addr × Str)) (CL CC : Addr) : Sp := fun vs H Q _ => ∃ (d p : Addr) (pl : Pn), vs = [.ref p] ∧ PnA H d p pl ∧ ElOk pl ∧ LamX.Tabs T H ∧ ∀ x H', LamX.ExtN H H' → LamX.Tabs T H' → LbA K CL CC H' x (libOf pl) → Q (.ref x) H'
theorem ok_law_library (T : Tx K mg) (TB_Library___init__ : LamX.TabB base mg T.c_Library___init__ T.P_Library___init__) : FnOk P w K mg base CX0 8 T.f__law_library T.d__law_library ["_law_spec"] (sp_library K (tabs T) T.C_Library T.C_Candidate) := by
  refine T.F__law_library.ok sc_law_library (fun vs H Q E h => ?_) (fun cdv A outer s H vs Q E hr h => ?_)
  · obtain ⟨d, p, pl, rfl, _⟩ := h
    rfl
  · obtain ⟨d, p, pl, rfl, ⟨am, ab, lr, lo, M, I, hf⟩, ⟨ms, bs, ns, sd, ok⟩, hT, q⟩ := h
    refine ⟨_, (pss_cons (ps_set (i := 1) sc_law_library.nd rfl (Or.inl rfl) (pe_callTy call_tupL (by rfl) T.n_tuple (by decide +kernel) (pa_cons (pe_lc (own := [("_law_offer_here", 2)]) (g := gName 2) (by rfl) sc_law_library.nd (pi_list (pe_dget (u1 hr.units) (pv 0) pe_str (fun _ _ => rfl))) (blkOk_by (own := [("_law_offer_here", 2)]) (N := ["_law_spec", "_law_offers", "_law_offer_here"]) (sc := defScope s_law_library) (by decide +kernel)) (fun _ _ _ _ _ => (pg_name (i := 2) sc_law_library.nd rfl (Or.inl rfl))) (fun _ _ _ _ _ => pts_nil) (fun _ _ _ _ _ => (pe_make T.mk_Candidate (ok_Candidate___init__ T) (hr.mono (by decide)) (by rfl) T.m_Candidate T.b_Candidate___init__ .nil passL (pa_cons (pe_ix (ix_tup : IxR _ (rIxT K)) (pv 2) pe_int (fun _ _ => rfl)) (pa_cons (pe_ix (ix_tup : IxR _ (rIxT K)) (pv 2) pe_int (fun _ _ => rfl)) (pa_cons (pe_ix (ix_tup : IxR _ (rIxT K)) (pv 2) pe_int (fun _ _ => rfl)) pa_nil)))))) pa_nil)))
      (pss_one (ps_ret (pe_makeK (n := 2) T.mk_Library (ok_Library___init__ T TB_Library___init__) (hr.mono (by decide)) (by rfl) T.m_Library T.kb2_Library___init__ passL (pa_cons (pe_dget (u1 hr.units) (pv 0) pe_str (fun _ _ => rfl)) (pa_cons (pe_dget (u1 hr.units) (pv 0) pe_str (fun _ _ => rfl)) pa_nil)) (pk_cons (pe_callTy call_tupL (by rfl) T.n_tuple (by decide +kernel) (pa_cons (pe_dget (u1 hr.units) (pv 0) pe_str (fun _ _ => rfl)) pa_nil)) (pk_cons (pv 1) pk_nil)))))), ?_⟩
    walk_at "rd"
    walk_at "rdx"
    refine ⟨.ref lo, DGet.k (k := keyO) hf.at_, lo, rfl, ⟨_, sql_of hf.ho⟩, ?_⟩
    refine lc_monX walk_list (fun i y H' => ∃ a q0, I[i]? = some q0 ∧ y = .ref a ∧ Cnd H' T.C_Candidate a q0.2) (fun i y H H' st h => let ⟨a, q0, h1, h2, h3⟩ := h; ⟨a, q0, h1, h2, h3.smx st⟩) (sz100 (by have := ok.li; have := congrArg List.length hf.ei; simp at *; omega)) (fun H' s => sql_of (s _ _ hf.ho)) ?_ mono_name mono_yes ?_
    · rintro i x Ha Hb hi hS ⟨rfl, hx⟩ R hR
      rw [List.getElem?_map] at hx
      obtain ⟨q0, eq0, hxx⟩ := Option.map_eq_some_iff.mp hx
      subst hxx
      obtain ⟨a, c⟩ := q0
      obtain ⟨pa, ra, j1, j2, j3⟩ := (hf.ki _ (List.mem_of_getElem? eq0)).same hS
      walk_at "rdx"
      refine ixt_nat (j := 0) (sqt_of j1) rfl (ixt_nat (j := 1) (sqt_of j1) rfl (ixt_nat (j := 2) (sqt_of j1) rfl ?_))
      walk_at "rdx"
      have okc : CdOk c := (ok.it c (by rw [hf.ei]; exact List.mem_map_of_mem (f := Prod.snd) (List.mem_of_getElem? eq0))).1
      exact make_ok j2 j3 okc fun x Hc sc cn => hR _ _ sc ⟨x, _, eq0, rfl, cn⟩
    intro H1 D1 ys s1 hD1 ly fy hL1
    rw [List.length_map] at ly
    refine tupL (sql_of hL1) fun p2 hp2 => ?_
    have s2 := same_new (o := .tup ys) hp2
    have f2 : upd H1 p2 (.tup ys) p2 = some (.tup ys) := upd_same
    generalize upd H1 p2 (.tup ys) = H2 at *
    have s02 := s1.trans s2
    have hcd : CdsA K T.C_Candidate H2 p2 pl.it := ⟨ys, sqt_of f2, by rw [hf.ei, List.length_map, ly], fun i c e => by
      rw [hf.ei, List.getElem?_map] at e
      obtain ⟨q0, e0, rfl⟩ := Option.map_eq_some_iff.mp e
      obtain ⟨y, hy⟩ : ∃ y, ys[i]? = some y := ⟨_, List.getElem?_eq_getElem (by rw [ly]; exact (List.getElem?_eq_some_iff.mp e0).1)⟩
      obtain ⟨a, q1, e1, rfl, cn⟩ := fy i y hy
      rw [e0] at e1
      cases e1
      exact ⟨a, hy, cn.same s2⟩⟩
    have hm2 := s02 _ _ hf.hm
    have hb2 := s02 _ _ hf.hb
    walk_at "rdx"
    refine ⟨.ref am, DGet.k (k := keyM) (s02 _ _ hf.at_), .ref ab, DGet.k (k := keyB) (s02 _ _ hf.at_), .ref lr, DGet.k (k := keyR) (s02 _ _ hf.at_), ?_⟩
    refine tupL (sql_of (s02 _ _ hf.hr)) fun p3 hp3 => ?_
    have s3 := same_new (o := .tup (M.map fun p => V.ref p.1)) hp3
    have f3 : upd H2 p3 (.tup (M.map fun p => V.ref p.1)) p3 = some (.tup (M.map fun p => V.ref p.1)) := upd_same
    generalize upd H2 p3 (.tup (M.map fun p => V.ref p.1)) = H3 at *
    have hcv : CvsA K H3 p3 pl.cv := by
      obtain ⟨g1, g2⟩ := of_pairs (R := fun b c => cvA H2 b c) fun p hp => (hf.kr p hp).same s02
      rw [hf.er]
      exact ⟨_, sqt_of f3, g1, fun i c e => let ⟨b, e1, e2⟩ := g2 i c e; ⟨b, e1, cvA.same e2 s3⟩⟩
    have sds := sd.sort
    have ord := sd.ordS
    rw [← ok.em, ← ok.eb] at sds ord
    have wis : ∀ it ∈ itemsL pl.cv pl.it, withinB pl.ms pl.bs it = true := fun it hit => by
      rw [ok.em, ok.eb]
      rcases List.mem_append.mp hit with h | h
      · obtain ⟨c, hc, rfl⟩ := List.mem_map.mp h
        exact (ok.cv c hc).2
      · obtain ⟨c, hc, rfl⟩ := List.mem_map.mp h
        exact (ok.it c hc).2.1
    exact lib_ok (tabs_same hT (s02.trans s3)) (sds.nms (s3 _ _ hm2)) (sds.nbs (s3 _ _ hb2)) ord hcv (hcd.same s3) (by have := ok.lc; omega) (by have := ok.li; omega) (fun c hc => (ok.cv c hc).1) (fun c hc => (ok.it c hc).1) ok.nc ok.ni wis fun x H6 e6 t6 lb => q x H6 (fun b o h n => e6 b o ((s02.trans s3) _ _ h) n) t6 lb
end

local macro_rules | `(tactic| walk_at "rdx") => `(tactic| ((try simp only [tFld, gTup, gStar, tJs, tFmt, sFld, tSc_eq, tDGet, tMake, tMakeK]); try walk_at "rd"))
section
variable {w : World} {K : PySem.W.Frag} {mg : Str → Option Value} {base : Heap}
abbrev wValue : Str := Str.ofString "value"
abbrev wCall : Str := Str.ofString "call"
def argsB (at_ : Nat) (us : List V) : Bool := decide (1 ≤ us.length) && decide (us.length ≤ 3) && us.all fun u => inV3 u 0 ((at_ : Int) - 1)
/-- whether v is a line of a program, at the place at_ -/
inductive LnIs (H : Hp) (at_ : Nat) : V → Bool → Prop
  | oth {v : V} {t : String} (k : Kn H v t) (n : t ≠ "tuple") : LnIs H at_ v false
  | short {a : Addr} {xs : List V} (h : H a = some (.tup xs)) (l : xs.length < 2) : LnIs H at_ (.ref a) false
  | nostr {a : Addr} {x y : V} {xs : List V} {t : String} (h : H a = some (.tup (x :: y :: xs))) (k : Kn H x t) (n : t ≠ "str") : LnIs H at_ (.ref a) false
  | word {a : Addr} {z : Str} {y : V} {xs : List V} (h : H a = some (.tup (.str z :: y :: xs))) (n1 : z ≠ wValue) (n2 : z ≠ wCall) : LnIs H at_ (.ref a) false
  | val {a : Addr} {y : V} {ys : List V} {b : Bool} (h : H a = some (.tup [.str wValue, y])) (t : Told H y ys b) : LnIs H at_ (.ref a) (b && namesV ys 1 401)
  | valL {a : Addr} {y z : V} {xs : List V} (h : H a = some (.tup (.str wValue :: y :: z :: xs))) : LnIs H at_ (.ref a) false
  | callL {a : Addr} {y : V} {xs : List V} (h : H a = some (.tup (.str wCall :: y :: xs))) (l : xs.length ≠ 1) : LnIs H at_ (.ref a) false
  | noargs {a : Addr} {n p : V} {t t2 : String} (h : H a = some (.tup [.str wCall, n, p])) (k : Kn H n t) (z : ∀ y, n = .str y → y.length ≤ sizeLine) (k2 : Kn H p t2) (ne : t2 ≠ "tuple") : LnIs H at_ (.ref a) false
  | args {a p : Addr} {n : V} {us : List V} {t : String} (h : H a = some (.tup [.str wCall, n, .ref p])) (k : Kn H n t) (z : ∀ y, n = .str y → y.length ≤ sizeLine) (hp : H p = some (.tup us)) (lu : us.length ≤ 1000) (ku : ∀ u ∈ us, ∃ t, Kn H u t) : LnIs H at_ (.ref a) (nameV n && argsB at_ us)
theorem LnIs.same {H H' : Hp} {at_ : Nat} {v : V} {b : Bool} (h : LnIs H at_ v b) (s : Same H H') : LnIs H' at_ v b := by
  cases h with
  | oth k n => exact .oth (k.same s) n
  | short h l => exact .short (s _ _ h) l
  | nostr h k n => exact .nostr (s _ _ h) (k.same s) n
  | word h n1 n2 => exact .word (s _ _ h) n1 n2
  | val h t => exact .val (s _ _ h) (Told.same t s)
  | valL h => exact .valL (s _ _ h)
  | callL h l => exact .callL (s _ _ h) l
  | noargs h k z k2 ne => exact .noargs (s _ _ h) (k.same s) z (k2.same s) ne
  | args h k z hp lu ku => exact .args (s _ _ h) (k.same s) z (s _ _ hp) lu fun u hu => (ku u hu).imp fun _ q => q.same s
def sp_is_line : Sp := fun vs H Q _ => ∃ (at_ : Nat) (v : V) (b : Bool), vs = [.int at_, v] ∧ LnIs H at_ v b ∧ ∀ H', Same H H' → Q (.bl b) H'
theorem ok_is_line (T : Tx K mg) : FnOk P w K mg base CX0 4 T.f_is_line T.d_is_line ["at", "value"] sp_is_line := by
  refine T.F_is_line.ok sc_is_line (fun vs H Q E h => ?_) (fun cdv A outer s H vs Q E hr h => ?_)
  · obtain ⟨at_, v, b, rfl, _⟩ := h
    rfl
  · obtain ⟨at_, v, b, rfl, k, q⟩ := h
    refine ⟨_, (pss_cons (ps_if (PW.pt (pw_or (pt_not (pt_val (pe_callB call_isi (by rfl) T.n_isinstance (by decide +kernel) (pa_cons (pv 1) (pa_cons (pe_bltn (v := .ty "tuple") (by rfl) T.n_tuple (by decide +kernel) rfl) pa_nil))))) (pw_or (pt_cmpR op_lt (pe_callB call_lenQ (by rfl) T.n_len (by decide +kernel) (pa_cons (pv 1) pa_nil)) pe_int (nomark _)) (pw_or1 (pt_not (pt_val (pe_callB call_isi (by rfl) T.n_isinstance (by decide +kernel) (pa_cons (pe_ix ix_tup (pv 1) pe_int (fun _ _ => rfl)) (pa_cons (pe_bltn (v := .ty "str") (by rfl) T.n_str (by decide +kernel) rfl) pa_nil))))))))) (pss_one (ps_ret pe_bl)) pss_nil)
      (pss_cons (ps_if (pt_cmpR op_eq (pe_ix ix_tup (pv 1) pe_int (fun _ _ => rfl)) pe_str (nomark _)) (pss_one (ps_ret (pe_and (pe_cmpR op_eq (pe_callB call_lenQ (by rfl) T.n_len (by decide +kernel) (pa_cons (pv 1) pa_nil)) pe_int (nomark _)) (pe_one (pe_call (ok_is_type T) (hr.mono (by decide)) (by rfl) T.g_is_type T.F_is_type.kp T.b_is_type .nil pass0 (pa_cons (pe_ix ix_tup (pv 1) pe_int (fun _ _ => rfl)) pa_nil)))))) pss_nil)
      (pss_cons (ps_if (PW.pt (pw_or (pt_cmpR op_ne (pe_ix ix_tup (pv 1) pe_int (fun _ _ => rfl)) pe_str (nomark _)) (pw_or (pt_cmpR op_ne (pe_callB call_lenQ (by rfl) T.n_len (by decide +kernel) (pa_cons (pv 1) pa_nil)) pe_int (nomark _)) (pw_or (pt_not (pt_val (pe_call (ok_is_name T) (hr.mono (by decide)) (by rfl) T.g_is_name T.F_is_name.kp T.b_is_name .nil pass0 (pa_cons (pe_ix ix_tup (pv 1) pe_int (fun _ _ => rfl)) pa_nil)))) (pw_or1 (pt_not (pt_val (pe_callB call_isi (by rfl) T.n_isinstance (by decide +kernel) (pa_cons (pe_ix ix_tup (pv 1) pe_int (fun _ _ => rfl)) (pa_cons (pe_bltn (v := .ty "tuple") (by rfl) T.n_tuple (by decide +kernel) rfl) pa_nil)))))))))) (pss_one (ps_ret pe_bl)) pss_nil)
      (pss_one (ps_ret (pe_and (pe_chain op_le op_le pe_int (pe_callB call_lenQ (by rfl) T.n_len (by decide +kernel) (pa_cons (pe_ix ix_tup (pv 1) pe_int (fun _ _ => rfl)) pa_nil)) (pe_glob (v := .int (3)) (by rfl) T.m_MAX_ARGUMENTS_reached ⟨_, rfl⟩)) (pe_one (pe_callB (cr_all rfl) (by rfl) T.n_all (by decide +kernel) (pa_cons (pe_lc (own := [("one", 2)]) (g := gName 2) (by rfl) sc_is_line.nd (pi_tup (pe_ix ix_tup (pv 1) pe_int (fun _ _ => rfl))) (blkOk_by (own := [("one", 2)]) (N := ["at", "value", "one"]) (sc := defScope s_is_line) (by decide +kernel)) (fun _ _ _ _ _ => (pg_name (i := 2) sc_is_line.nd rfl (Or.inl rfl))) (fun _ _ _ _ _ => pts_nil) (fun _ _ _ _ _ => (pe_call (ok_is_integer_within T) (hr.mono (by decide)) (by rfl) T.g_is_integer_within T.F_is_integer_within.kp T.b_is_integer_within .nil pass0 (pa_cons (pv 2) (pa_cons pe_int (pa_cons (pe_op op_sub (pv 0) pe_int) pa_nil)))))) pa_nil))))))))), ?_⟩
    refine seqN fun N1 hN1 => ?_
    walk_at "rd"
    cases k with
    | oth k n =>
      refine isi_kn k (kit_ntup k n) ?_
      walk_at "rd"
      exact q _ (Same.refl _)
    | @short a xs h l =>
      walk_at "isi"
      walk_at "rd"
      exact lenT (sqt_of h) ⟨_, rfl, iteP (decide_eq_true (by omega)) (q _ (Same.refl _))⟩
    | @nostr a x y xs t h k n =>
      walk_at "isi"
      walk_at "rd"
      refine lenT (sqt_of h) ⟨_, rfl, iteN (by simp; omega) (ixt_nat (j := 0) (sqt_of h) rfl (isi_kn k (kit_nstr k n) ⟨_, rfl, iteP rfl (q _ (Same.refl _))⟩))⟩
    | @word a z y xs h n1 n2 =>
      walk_at "isi"
      walk_at "rd"
      refine lenT (sqt_of h) ⟨_, rfl, iteN (by simp; omega) (ixt_nat (j := 0) (sqt_of h) rfl ?_)⟩
      walk_at "isi"
      walk_at "rd"
      refine hN1 _ _ (seqN fun N2 hN2 => ?_)
      walk_at "rd"
      refine ixt_nat (j := 0) (sqt_of h) rfl ⟨rfl, ?_⟩
      rw [decide_eq_false (fun e => n1 (by injection e))]
      refine iteF (hN2 _ _ (seqN fun N3 hN3 => ?_))
      walk_at "rd"
      refine ixt_nat (j := 0) (sqt_of h) rfl ⟨rfl, ?_⟩
      rw [decide_eq_false (fun e => n2 (by injection e))]
      exact iteT (q _ (Same.refl _))
    | @val a y ys b h t =>
      walk_at "isi"
      walk_at "rd"
      refine lenT (sqt_of h) ⟨_, rfl, iteN (by simp) (ixt_nat (j := 0) (sqt_of h) rfl ?_)⟩
      walk_at "isi"
      walk_at "rd"
      refine hN1 _ _ (seqN fun N2 hN2 => ?_)
      walk_at "rd"
      refine ixt_nat (j := 0) (sqt_of h) rfl ⟨rfl, ?_⟩
      rw [decide_eq_true rfl]
      refine iteT (lenT (sqt_of h) ⟨rfl, ?_⟩)
      exact iteP (decide_eq_true rfl) (ixt_nat (j := 1) (sqt_of h) rfl ⟨y, ys, b, rfl, t, q⟩)
    | @valL a y z xs h =>
      walk_at "isi"
      walk_at "rd"
      refine lenT (sqt_of h) ⟨_, rfl, iteN (by simp; omega) (ixt_nat (j := 0) (sqt_of h) rfl ?_)⟩
      walk_at "isi"
      walk_at "rd"
      refine hN1 _ _ (seqN fun N2 hN2 => ?_)
      walk_at "rd"
      refine ixt_nat (j := 0) (sqt_of h) rfl ⟨rfl, ?_⟩
      rw [decide_eq_true rfl]
      refine iteT (lenT (sqt_of h) ⟨rfl, ?_⟩)
      exact iteN (by simp; omega) (q _ (Same.refl _))
    | @callL a y xs h l =>
      walk_at "isi"
      walk_at "rd"
      refine lenT (sqt_of h) ⟨_, rfl, iteN (by simp; omega) (ixt_nat (j := 0) (sqt_of h) rfl ?_)⟩
      walk_at "isi"
      walk_at "rd"
      refine hN1 _ _ (seqN fun N2 hN2 => ?_)
      walk_at "rd"
      refine ixt_nat (j := 0) (sqt_of h) rfl ⟨rfl, ?_⟩
      rw [decide_eq_false (by decide)]
      refine iteF (hN2 _ _ (seqN fun N3 hN3 => ?_))
      walk_at "rd"
      refine ixt_nat (j := 0) (sqt_of h) rfl ⟨rfl, ?_⟩
      rw [decide_eq_true rfl]
      refine iteF (lenT (sqt_of h) ⟨rfl, ?_⟩)
      exact iteP (by simp; omega) (q _ (Same.refl _))
    | @noargs a n p t t2 h k z k2 ne =>
      walk_at "isi"
      walk_at "rd"
      refine lenT (sqt_of h) ⟨_, rfl, iteN (by simp) (ixt_nat (j := 0) (sqt_of h) rfl ?_)⟩
      walk_at "isi"
      walk_at "rd"
      refine hN1 _ _ (seqN fun N2 hN2 => ?_)
      walk_at "rd"
      refine ixt_nat (j := 0) (sqt_of h) rfl ⟨rfl, ?_⟩
      rw [decide_eq_false (by decide)]
      refine iteF (hN2 _ _ (seqN fun N3 hN3 => ?_))
      walk_at "rd"
      refine ixt_nat (j := 0) (sqt_of h) rfl ⟨rfl, ?_⟩
      rw [decide_eq_true rfl]
      refine iteF (lenT (sqt_of h) ⟨rfl, ?_⟩)
      refine iteN (by simp) (ixt_nat (j := 1) (sqt_of h) rfl (isname k z fun H1 s1 => ?_))
      refine ⟨_, rfl, ite2 (fun _ => q _ s1) (fun _ => ?_)⟩
      exact ixt_nat (j := 2) (sqt_of (s1 _ _ h)) rfl (isi_kn (k2.same s1) (kit_ntup k2 ne) ⟨_, rfl, iteP rfl (q _ s1)⟩)
    | @args a p n us t h k z hp lu ku =>
      walk_at "isi"
      walk_at "rd"
      refine lenT (sqt_of h) ⟨_, rfl, iteN (by simp) (ixt_nat (j := 0) (sqt_of h) rfl ?_)⟩
      walk_at "isi"
      walk_at "rd"
      refine hN1 _ _ (seqN fun N2 hN2 => ?_)
      walk_at "rd"
      refine ixt_nat (j := 0) (sqt_of h) rfl ⟨rfl, ?_⟩
      rw [decide_eq_false (by decide)]
      refine iteF (hN2 _ _ (seqN fun N3 hN3 => ?_))
      walk_at "rd"
      refine ixt_nat (j := 0) (sqt_of h) rfl ⟨rfl, ?_⟩
      rw [decide_eq_true rfl]
      refine iteF (lenT (sqt_of h) ⟨rfl, ?_⟩)
      refine iteN (by simp) (ixt_nat (j := 1) (sqt_of h) rfl (isname k z fun H1 s1 => ?_))
      refine ⟨_, rfl, ite2 (fun e => ?_) (fun e => ?_)⟩
      · have e' : nameV n = false := by simpa using e
        rw [e', Bool.false_and] at q
        exact q _ s1
      have e' : nameV n = true := by simpa using e
      rw [e', Bool.true_and] at q
      refine ixt_nat (j := 2) (sqt_of (s1 _ _ h)) rfl ?_
      have hp1 := s1 _ _ hp
      walk_at "isi"
      refine ⟨_, rfl, iteN (by simp) (hN3 _ _ ?_)⟩
      walk_at "rd"
      clear hN1 hN2 hN3
      refine ixt_nat (j := 2) (sqt_of (s1 _ _ h)) rfl (lenT (sqt_of hp1) ⟨_, rfl, ite2 (fun h1 => ⟨_, rfl, ite2 (fun h2 => ?_) (fun h2 => ?_)⟩) (fun h1 => ?_)⟩)
      · refine ixt_nat (j := 2) (sqt_of (s1 _ _ h)) rfl ⟨p, rfl, ⟨_, sqt_of hp1⟩, lc_same walk_tup (fun i => .bl (inV3 (us[i]?.getD .non) 0 ((at_ : Int) - 1))) (sz100 (by omega)) (fun H' s => sqt_of (s _ _ hp1)) ?_ mono_name mono_yes ?_⟩
        · rintro i x Ha Hb hi hS ⟨rfl, hx⟩ R hR
          walk_at "rd"
          obtain ⟨t', kt⟩ := ku x (List.mem_of_getElem? hx)
          rw [hx] at hR
          exact ⟨x, t', 0, _, rfl, kt.same (s1.trans hS), hR _ (Same.refl _)⟩
        · intro H2 D hS hD hL
          have e : ((List.range us.length).map fun i => V.bl (inV3 (us[i]?.getD .non) 0 ((at_ : Int) - 1))) = (us.map fun u => inV3 u 0 ((at_ : Int) - 1)).map V.bl := by
            rw [List.map_map]
            apply List.ext_getElem
            · simp
            · intro i g1 g2
              have g3 : i < us.length := by simpa using g2
              simp [g3]
          rw [e] at hL
          refine ⟨D, _, rfl, .inl (.inl hL), ?_⟩
          rw [List.all_map]
          have := q _ (s1.trans hS)
          unfold argsB at this
          rw [decide_eq_true (show 1 ≤ us.length by have := of_decide_eq_true h1; omega), decide_eq_true (show us.length ≤ 3 by have := of_decide_eq_true h2; omega), Bool.true_and, Bool.true_and] at this
          exact this
      · have := q _ s1
        unfold argsB at this
        rw [decide_eq_false (show ¬ us.length ≤ 3 from fun z => h2 (decide_eq_true (by omega))), Bool.and_false, Bool.false_and] at this
        exact this
      · have := q _ s1
        unfold argsB at this
        rw [decide_eq_false (show ¬ 1 ≤ us.length from fun z => h1 (decide_eq_true (by omega))), Bool.false_and, Bool.false_and] at this
        exact this
/-- no tuple -/
def NoTup (K : PySem.W.Frag) (H : Hp) (v : V) : Prop := ∃ t, TyX K H v t ∧ PySem.W.kitOne K t (.type "tuple") = some false
/-- whether v is a program -/
inductive PrIs (K : PySem.W.Frag) (H : Hp) : V → Bool → Prop
  | oth {v : V} (h : NoTup K H v) : PrIs K H v false
  | len {a : Addr} {xs : List V} (h : H a = some (.tup xs)) (n : ¬ (1 ≤ xs.length ∧ xs.length ≤ 8000)) : PrIs K H (.ref a) false
  | tup {a : Addr} {xs : List V} {f : Nat → Bool} (h : H a = some (.tup xs)) (lo : 1 ≤ xs.length) (hi : xs.length ≤ 8000) (ls : ∀ i x, xs[i]? = some x → LnIs H i x (f i)) : PrIs K H (.ref a) ((List.range xs.length).all f)
def sp_is_program (K : PySem.W.Frag) : Sp := fun vs H Q _ => ∃ (v : V) (b : Bool), vs = [v] ∧ PrIs K H v b ∧ ∀ H', Same H H' → Q (.bl b) H'
theorem ok_is_program (T : Tx K mg) : FnOk P w K mg base CX0 5 T.f_is_program T.d_is_program ["value"] (sp_is_program K) := by
  refine T.F_is_program.ok sc_is_program (fun vs H Q E h => ?_) (fun cdv A outer s H vs Q E hr h => ?_)
  · obtain ⟨v, b, rfl, _⟩ := h
    rfl
  · obtain ⟨v, b, rfl, k, q⟩ := h
    refine ⟨_, (pss_cons (ps_if (PW.pt (pw_or (pt_not (pt_val (pe_callB call_isi (by rfl) T.n_isinstance (by decide +kernel) (pa_cons (pv 0) (pa_cons (pe_bltn (v := .ty "tuple") (by rfl) T.n_tuple (by decide +kernel) rfl) pa_nil))))) (pw_or1 (pt_not (pt_chain op_le op_le pe_int (pe_callB call_lenQ (by rfl) T.n_len (by decide +kernel) (pa_cons (pv 0) pa_nil)) (pe_glob (v := .int (8000)) (by rfl) T.m_MAX_LINES ⟨_, rfl⟩)))))) (pss_one (ps_ret pe_bl)) pss_nil)
      (pss_one (ps_ret (pe_callB (cr_all rfl) (by rfl) T.n_all (by decide +kernel) (pa_cons (pe_lc (own := [("at", 1), ("line", 2)]) (g := gTup K 2 (gCons (gName 1) (gCons (gName 2) gNil))) (by rfl) sc_is_program.nd (pi_enumA (by rfl) T.n_enumerate (pa_cons (pv 0) pa_nil)) (blkOk_by (own := [("at", 1), ("line", 2)]) (N := ["value", "at", "line"]) (sc := defScope s_is_program) (by decide +kernel)) (fun _ _ _ _ _ => (pg_tup (n := 2) rfl (pgs_cons (pg_name (i := 1) sc_is_program.nd rfl (Or.inl rfl)) (pgs_cons (pg_name (i := 2) sc_is_program.nd rfl (Or.inl rfl)) pgs_nil)))) (fun _ _ _ _ _ => pts_nil) (fun _ _ _ _ _ => (pe_call (ok_is_line T) (hr.mono (by decide)) (by rfl) T.g_is_line T.F_is_line.kp T.b_is_line .nil pass0 (pa_cons (pv 1) (pa_cons (pv 2) pa_nil))))) pa_nil))))), ?_⟩
    walk_at "rd"
    cases k with
    | oth h =>
      obtain ⟨t, ty, kt⟩ := h
      refine ⟨_, _, _, _, false, rfl, .ty _, ty, kt, ?_⟩
      walk_at "rd"
      exact q _ (Same.refl _)
    | @len a xs h n =>
      walk_at "isi"
      walk_at "rd"
      refine lenT (sqt_of h) ?_
      walk_at "rd"
      refine ite2 (fun h1 => ite2 (fun h2 => q _ (Same.refl _)) (fun h2 => ?_)) (fun h1 => q _ (Same.refl _))
      exact absurd ⟨by have := of_decide_eq_true h1; omega, by simp at h2; omega⟩ n
    | @tup a xs f h lo hi ls =>
      walk_at "isi"
      walk_at "rd"
      refine lenT (sqt_of h) ?_
      walk_at "rd"
      refine ite2 (fun h1 => ite2 (fun h2 => ?_) (fun h2 => ?_)) (fun h1 => absurd (decide_eq_true (by omega)) h1)
      · simp at h2
        omega
      · simp only [iEnumA]
        walk_at "rd"
        refine ⟨xs, .inr ⟨sqt_of h, lc_same walk_enumT (fun i => .bl (f i)) (sz100 (by omega)) (fun H' s => sqt_of (s _ _ h)) ?_ mono_pair mono_yes ?_⟩⟩
        · rintro i x H2 H3 hi hS ⟨T', x', y', rfl, hT, rfl, hx, hy⟩ R hR
          have hx : some (V.int (i : Nat)) = some x' := hx
          cases hx
          have hy : xs[i]? = some y' := hy
          simp only [gTup]
          walk_at "rd"
          have sN := same_new (o := .tup [V.int (i : Nat), y']) hT
          refine ⟨_, sqt_of upd_same, rfl, _, _, rfl, _, _, rfl, rfl, ?_⟩
          exact ⟨i, y', f i, rfl, ((ls i y' hy).same hS).same sN, fun H4 s4 => hR _ (sN.trans s4)⟩
        · intro H2 D hS hD hL
          have e : ((List.range xs.length).map fun i => V.bl (f i)) = ((List.range xs.length).map f).map V.bl := by rw [List.map_map]; rfl
          rw [e] at hL
          refine ⟨D, (List.range xs.length).map f, rfl, .inl (.inl hL), ?_⟩
          have z : ((List.range xs.length).map f).all id = (List.range xs.length).all f := by rw [List.all_map]; rfl
          rw [z]
          exact q _ hS
def spx_require_program (K : PySem.W.Frag) (CP : Addr) : Sp := fun vs H Q E => ∃ (v : V) (b : Bool), vs = [v] ∧ PrIs K H v b ∧ (b = false → ∀ H', Same H H' → E (.ref CP) none H') ∧ (b = true → ∀ H', Same H H' → Q .non H')
theorem ok_require_program (T : Tx K mg) : FnOk P w K mg base (L2.CX P w) 6 T.f_require_program T.d_require_program ["value"] (spx_require_program K T.C_InvalidProgram) := by
  refine T.F_require_program.okX sc_require_program (fun vs H Q E h => ?_) (fun cdv A outer s H vs Q E hr h => ?_)
  · obtain ⟨v, b, rfl, _⟩ := h
    rfl
  · obtain ⟨v, b, rfl, k, q0, q1⟩ := h
    refine ⟨_, (pss_one (ps_if (pt_not (pt_val (pe_call (ok_is_program T) (hr.mono (by decide)) (by rfl) T.g_is_program T.F_is_program.kp T.b_is_program .nil pass0 (pa_cons (pv 0) pa_nil)))) (pss_one (ps_raise rfl (takes_of rfl rfl rfl rfl) (pmk_own PySem.F.excBase_ValueError T.x_InvalidProgram.ex T.x_InvalidProgram.g T.x_InvalidProgram.kp (raises_own T.x_InvalidProgram.sb T.x_InvalidProgram.ty) (by rfl)))) pss_nil)), ?_⟩
    walk_at "rd"
    refine ⟨v, b, rfl, k, fun H1 s1 => ?_⟩
    walk_at "rd"
    exact ite2 (fun e => q0 (by simpa using e) H1 s1) (fun e => q1 (by simpa using e) H1 s1)
/-- no library -/
def NoLib (K : PySem.W.Frag) (CL : Addr) (H : Hp) (v : V) : Prop := ∃ t, TyX K H v t ∧ PySem.W.kitOne K t (.ref CL) = some false
def spx_require_library (K : PySem.W.Frag) (CI CL : Addr) : Sp := fun vs H _ E => ∃ v, vs = [v] ∧ NoLib K CL H v ∧ ∀ H', Same H H' → E (.ref CI) none H'
theorem ok_require_library (T : Tx K mg) : FnOk P w K mg base (L2.CX P w) 1 T.f_require_library T.d_require_library ["value"] (spx_require_library K T.C_InvalidLibrary T.C_Library) := by
  refine T.F_require_library.okX sc_require_library (fun vs H Q E h => ?_) (fun cdv A outer s H vs Q E hr h => ?_)
  · obtain ⟨v, rfl, _⟩ := h
    rfl
  · obtain ⟨v, rfl, ⟨t, ty, kt⟩, q0⟩ := h
    refine ⟨_, (pss_one (ps_if (pt_not (pt_val (pe_callB call_isi (by rfl) T.n_isinstance (by decide +kernel) (pa_cons (pv 0) (pa_cons (pe_glob (v := .ref T.C_Library) (by rfl) T.m_Library rfl) pa_nil))))) (pss_one (ps_raise rfl (takes_of rfl rfl rfl rfl) (pmk_own PySem.F.excBase_ValueError T.x_InvalidLibrary.ex T.x_InvalidLibrary.g T.x_InvalidLibrary.kp (raises_own T.x_InvalidLibrary.sb T.x_InvalidLibrary.ty) (by rfl)))) pss_nil)), ?_⟩
    walk_at "rd"
    refine ⟨_, _, _, _, false, rfl, .own _, ty, kt, ?_⟩
    walk_at "rd"
    exact q0 H (Same.refl _)
def tDead : TS := fun _ _ _ => False
theorem pss_dead {X : Cx} {st : List Stmt} : PSs X st tDead := ⟨fun _ _ _ _ _ _ h => h.elim⟩
theorem ok_write_library (T : Tx K mg) : FnOk P w K mg base (L2.CX P w) 2 T.f_write_library T.d_write_library ["library"] (spx_require_library K T.C_InvalidLibrary T.C_Library) := by
  refine T.F_write_library.okX sc_write_library (fun vs H Q E h => ?_) (fun cdv A outer s H vs Q E hr h => ?_)
  · obtain ⟨v, rfl, _⟩ := h
    rfl
  · obtain ⟨v, rfl, h, q0⟩ := h
    refine ⟨_, pss_cons (ps_expr (pe_call (ok_require_library T) (hr.mono (by decide)) (by rfl) T.g_require_library T.F_require_library.kp T.b_require_library .nil (passes_call (takes_of rfl rfl rfl rfl) (fun _ _ _ _ h => h)) (pa_cons (pv 0) pa_nil))) pss_dead, ?_⟩
    walk_at "rd"
    exact ⟨v, rfl, h, q0⟩
/-- a text of names -/
abbrev txN (ws : List Str) : Str := Txt.join (Str.ofString " ") ws
def sp_write_type : Sp := fun vs H Q _ => ∃ (a : Addr) (ws : List Str), vs = [.ref a] ∧ H a = some (.tup (ws.map V.str)) ∧ (∀ z ∈ ws, isNm z = true) ∧ 1 ≤ ws.length ∧ ws.length ≤ 401 ∧ ∀ H', Same H H' → Q (.str (txN ws)) H'
theorem ok_write_type (T : Tx K mg) : FnOk P w K mg base CX0 4 T.f_write_type T.d_write_type ["names"] sp_write_type := by
  refine T.F_write_type.ok sc_write_type (fun vs H Q E h => ?_) (fun cdv A outer s H vs Q E hr h => ?_)
  · obtain ⟨a, ws, rfl, _⟩ := h
    rfl
  · obtain ⟨a, ws, rfl, ha, nm, lo, hi, q⟩ := h
    refine ⟨_, (pss_cons (ps_if (pt_not (pt_val (pe_call (ok_is_type T) (hr.mono (by decide)) (by rfl) T.g_is_type T.F_is_type.kp T.b_is_type .nil pass0 (pa_cons (pv 0) pa_nil)))) (pss_one ps_never) pss_nil)
      (pss_one (ps_ret (pe_joinN pe_str (pv 0))))), ?_⟩
    walk_at "rd"
    refine istype ha (itmW nm) fun H1 s1 => ?_
    rw [names_all nm (by omega) (by omega)]
    walk_at "rd"
    have h8 := sum_le8 nm
    refine ⟨⟨_, rfl⟩, _, a, ws, rfl, rfl, .inr (sqt_of (s1 _ _ ha)), ?_, q H1 s1⟩
    rw [show (Str.ofString " ").length = 1 from rfl]
    omega
theorem txN_len {ws : List Str} (nm : ∀ z ∈ ws, isNm z = true) : (txN ws).length ≤ 9 * ws.length := by
  have h := join_le (Str.ofString " ") ws
  have h8 := sum_le8 nm
  rw [show (Str.ofString " ").length = 1 from rfl] at h
  have e : (txN ws).length = (Txt.join (Str.ofString " ") ws).length := rfl
  omega
end

local macro_rules | `(tactic| walk_at "rdx") => `(tactic| ((try simp only [tFld, gTup, gStar, tJs, tFmt, sFld, tSc_eq, tDGet, tMake, tMakeK]); try walk_at "rd"))
section
variable {w : World} {K : PySem.W.Frag} {mg : Str → Option Value} {base : Heap}
theorem fnOr {P : Program} {CX : CXT} {k : Nat} {f : Addr} {fd : FuncData} {ps : List Str} {sp1 sp2 : Sp} (F1 : FnOk P w K mg base CX k f fd ps sp1) (F2 : FnOk P w K mg base CX k f fd ps sp2) : FnOk P w K mg base CX k f fd ps (fun vs H Q E => sp1 vs H Q E ∨ sp2 vs H Q E) :=
  ⟨fun vs H Q E h => h.elim (F1.len vs H Q E) (F2.len vs H Q E), fun A outer s H args us vs Q E hr he hb hv h => h.elim (F1.run A outer s H args us vs Q E hr he hb hv) (F2.run A outer s H args us vs Q E hr he hb hv)⟩
def sp_no_name (K : PySem.W.Frag) : Sp := fun vs H Q _ => ∃ v, vs = [v] ∧ NoStr K H v ∧ Q (.bl false) H
theorem ok_is_nameN (T : Tx K mg) : FnOk P w K mg base CX0 1 T.f_is_name T.d_is_name ["value"] (sp_no_name K) := by
  refine T.F_is_name.ok sc_is_name (fun vs H Q E h => ?_) (fun cdv A outer s H vs Q E hr h => ?_)
  · obtain ⟨v, rfl, _⟩ := h
    rfl
  · obtain ⟨v, rfl, ⟨t, ty, kt⟩, q⟩ := h
    refine ⟨_, (pss_cons (ps_if (PW.pt (pw_or (pt_not (pt_val (pe_callB call_isi (by rfl) T.n_isinstance (by decide +kernel) (pa_cons (pv 0) (pa_cons (pe_bltn (v := .ty "str") (by rfl) T.n_str (by decide +kernel) rfl) pa_nil))))) (pw_or (pt_not (pt_chain op_le op_le pe_int (pe_callB call_len_str (by rfl) T.n_len (by decide +kernel) (pa_cons (pv 0) pa_nil)) (pe_glob (v := .int (8)) (by rfl) T.m_MAX_LETTERS ⟨_, rfl⟩))) (pw_or1 (pt_cmpR op_in_seq (pv 0) (pe_glob (v := .ref T.a_KEYWORDS) (by rfl) T.m_KEYWORDS rfl) (by rfl)))))) (pss_one (ps_ret pe_bl)) pss_nil)
      (pss_one (ps_ret (pe_callB (cr_all rfl) (by rfl) T.n_all (by decide +kernel) (pa_cons (pe_lc (own := [("sign", 1)]) (g := gName 1) (by rfl) sc_is_name.nd (pi_str (pv 0)) (blkOk_by (own := [("sign", 1)]) (N := ["value", "sign"]) (sc := defScope s_is_name) (by decide +kernel)) (fun _ _ _ _ _ => (pg_name (i := 1) sc_is_name.nd rfl (Or.inl rfl))) (fun _ _ _ _ _ => pts_nil) (fun _ _ _ _ _ => (pe_chain op_le_str op_le_str pe_str (pv 1) pe_str))) pa_nil))))), ?_⟩
    walk_at "rd"
    refine ⟨_, _, _, _, false, rfl, .ty _, ty, kt, ?_⟩
    walk_at "rd"
    exact q
theorem ok_is_nameX (T : Tx K mg) : FnOk P w K mg base CX0 1 T.f_is_name T.d_is_name ["value"] (fun vs H Q E => sp_is_name vs H Q E ∨ sp_no_name K vs H Q E) := fnOr (ok_is_name T) (ok_is_nameN T)
/-- whether v is a tuple of one to three types -/
inductive TsIs (H : Hp) : V → Bool → Prop
  | oth {v : V} {t : String} (k : Kn H v t) (n : t ≠ "tuple") : TsIs H v false
  | len {a : Addr} {xs : List V} (h : H a = some (.tup xs)) (n : ¬ (1 ≤ xs.length ∧ xs.length ≤ 3)) : TsIs H (.ref a) false
  | bad {a : Addr} {xs : List V} {f : Nat → Bool} (h : H a = some (.tup xs)) (lo : 1 ≤ xs.length) (hi : xs.length ≤ 3) (ts : ∀ i x, xs[i]? = some x → ∃ ys b, Told H x ys b ∧ f i = (b && namesV ys 1 401)) (n : (List.range xs.length).all f = false) : TsIs H (.ref a) false
  | ok {a : Addr} {bs : List (Addr × List Str)} (h : H a = some (.tup (bs.map fun p => V.ref p.1))) (lo : 1 ≤ bs.length) (hi : bs.length ≤ 3) (ts : ∀ p ∈ bs, H p.1 = some (.tup (p.2.map V.str)) ∧ (∀ z ∈ p.2, isNm z = true) ∧ 1 ≤ p.2.length ∧ p.2.length ≤ 401) : TsIs H (.ref a) true
/-- no name, or a name or not -/
inductive NmIs (K : PySem.W.Frag) (H : Hp) : V → Bool → Prop
  | kn {v : V} {t : String} (k : Kn H v t) (z : ∀ y, v = .str y → y.length ≤ sizeLine) : NmIs K H v (nameV v)
  | no {v : V} (h : NoStr K H v) : NmIs K H v false
def spx_write_call (K : PySem.W.Frag) (CW CC : Addr) : Sp := fun vs H Q E => ∃ (n v : V) (b1 b2 : Bool), vs = [n, v] ∧ NmIs K H n b1 ∧ (b1 = false → ∀ H', Same H H' → E (.ref CW) none H') ∧
  (b1 = true → TsIs H v b2 ∧ (b2 = false → ∀ H', Same H H' → E (.ref CC) none H') ∧ (b2 = true → ∀ z H', Same H H' → Q (.str z) H'))
theorem ok_write_call (T : Tx K mg) : FnOk P w K mg base (L2.CX P w) 5 T.f_write_call T.d_write_call ["name", "types"] (spx_write_call K T.C_InvalidWord T.C_InvalidCall) := by
  refine T.F_write_call.okX sc_write_call (fun vs H Q E h => ?_) (fun cdv A outer s H vs Q E hr h => ?_)
  · obtain ⟨n, v, b1, b2, rfl, _⟩ := h
    rfl
  · obtain ⟨n, v, b1, b2, rfl, hn, q0, q1⟩ := h
    refine ⟨_, (pss_cons (ps_if (pt_not (pt_val (pe_call (ok_is_nameX T) (hr.mono (by decide)) (by rfl) T.g_is_name T.F_is_name.kp T.b_is_name .nil pass0 (pa_cons (pv 0) pa_nil)))) (pss_one (ps_raise rfl (takes_of rfl rfl rfl rfl) (pmk_own PySem.F.excBase_ValueError T.x_InvalidWord.ex T.x_InvalidWord.g T.x_InvalidWord.kp (raises_own T.x_InvalidWord.sb T.x_InvalidWord.ty) (by rfl)))) pss_nil)
      (pss_cons (ps_if (PW.pt (pw_or (pt_not (pt_val (pe_callB call_isi (by rfl) T.n_isinstance (by decide +kernel) (pa_cons (pv 1) (pa_cons (pe_bltn (v := .ty "tuple") (by rfl) T.n_tuple (by decide +kernel) rfl) pa_nil))))) (pw_or (pt_not (pt_chain op_le op_le pe_int (pe_callB call_lenQ (by rfl) T.n_len (by decide +kernel) (pa_cons (pv 1) pa_nil)) (pe_glob (v := .int (3)) (by rfl) T.m_MAX_ARGUMENTS_texts ⟨_, rfl⟩))) (pw_or1 (pt_not (pt_val (pe_callB (cr_all rfl) (by rfl) T.n_all (by decide +kernel) (pa_cons (pe_lc (own := [("one", 2)]) (g := gName 2) (by rfl) sc_write_call.nd (pi_tup (pv 1)) (blkOk_by (own := [("one", 2)]) (N := ["name", "types", "one"]) (sc := defScope s_write_call) (by decide +kernel)) (fun _ _ _ _ _ => (pg_name (i := 2) sc_write_call.nd rfl (Or.inl rfl))) (fun _ _ _ _ _ => pts_nil) (fun _ _ _ _ _ => (pe_call (ok_is_type T) (hr.mono (by decide)) (by rfl) T.g_is_type T.F_is_type.kp T.b_is_type .nil pass0 (pa_cons (pv 2) pa_nil)))) pa_nil)))))))) (pss_one (ps_raise rfl (takes_of rfl rfl rfl rfl) (pmk_own PySem.F.excBase_ValueError T.x_InvalidCall.ex T.x_InvalidCall.g T.x_InvalidCall.kp (raises_own T.x_InvalidCall.sb T.x_InvalidCall.ty) (by rfl)))) pss_nil)
      (pss_one (ps_ret (pe_joined (.cons (pe_fmt (pv 0)) (.cons pe_str (.cons (pe_fmt (pe_joinN pe_str (pe_lc (own := [("one", 2)]) (g := gName 2) (by rfl) sc_write_call.nd (pi_tup (pv 1)) (blkOk_by (own := [("one", 2)]) (N := ["name", "types", "one"]) (sc := defScope s_write_call) (by decide +kernel)) (fun _ _ _ _ _ => (pg_name (i := 2) sc_write_call.nd rfl (Or.inl rfl))) (fun _ _ _ _ _ => pts_nil) (fun _ _ _ _ _ => (pe_call (ok_write_type T) (hr.mono (by decide)) (by rfl) T.g_write_type T.F_write_type.kp T.b_write_type .nil pass0 (pa_cons (pv 2) pa_nil)))))) (.cons pe_str .nil))))))))), ?_⟩
    refine seqN fun N1 hN1 => ?_
    walk_at "rd"
    have nx : ∀ H1, Same H H1 → b1 = true → (∃ z, n = .str z ∧ isNm z = true) → N1 [some n, some v, none] H1 := by
      rintro H1 s1 e1 ⟨z, rfl, nz⟩
      obtain ⟨ht, q2, q3⟩ := q1 e1
      refine hN1 _ _ (seqN fun N2 hN2 => ?_)
      walk_at "rd"
      cases ht with
      | oth k ne =>
        refine isi_kn (k.same s1) (kit_ntup k ne) ?_
        walk_at "rd"
        exact q2 rfl _ s1
      | @len a xs h ne =>
        have h1 := s1 _ _ h
        walk_at "isi"
        walk_at "rd"
        refine lenT (sqt_of h1) ?_
        walk_at "rd"
        refine ite2 (fun c1 => ite2 (fun c2 => q2 rfl _ s1) (fun c2 => ?_)) (fun c1 => q2 rfl _ s1)
        exact absurd ⟨by have := of_decide_eq_true c1; omega, by simp at c2; omega⟩ ne
      | @bad a xs f h lo hi ts ne =>
        have h1 := s1 _ _ h
        walk_at "isi"
        walk_at "rd"
        refine lenT (sqt_of h1) ?_
        walk_at "rd"
        refine ite2 (fun c1 => ite2 (fun c2 => q2 rfl _ s1) (fun c2 => ?_)) (fun c1 => q2 rfl _ s1)
        refine ⟨⟨_, sqt_of h1⟩, lc_same walk_tup (fun i => .bl (f i)) (sz100 (by omega)) (fun H' s => sqt_of (s _ _ h1)) ?_ mono_name mono_yes ?_⟩
        · rintro i x Ha Hb hi' hS ⟨rfl, hx⟩ R hR
          walk_at "rd"
          obtain ⟨ys, b, td, e⟩ := ts i x hx
          exact ⟨x, ys, b, rfl, Told.same td (s1.trans hS), fun H' s => by rw [← e]; exact hR _ s⟩
        · intro H2 D hS hD hL
          have e : ((List.range xs.length).map fun i => V.bl (f i)) = ((List.range xs.length).map f).map V.bl := by rw [List.map_map]; rfl
          rw [e] at hL
          refine ⟨D, _, rfl, .inl (.inl hL), ?_⟩
          rw [List.all_map, show (id ∘ f) = f from rfl, ne]
          exact ⟨_, rfl, iteP rfl (q2 rfl _ (s1.trans hS))⟩
      | @ok a bs h lo hi ts =>
        have h1 := s1 _ _ h
        have lb : (bs.map fun p => V.ref p.1).length = bs.length := List.length_map _
        walk_at "isi"
        walk_at "rd"
        refine lenT (sqt_of h1) ?_
        walk_at "rd"
        refine ite2 (fun c1 => ite2 (fun c2 => ?_) (fun c2 => ?_)) (fun c1 => absurd (decide_eq_true (by omega)) c1)
        · simp at c2
          omega
        refine ⟨⟨_, sqt_of h1⟩, lc_same walk_tup (fun i => .bl true) (sz100 (by omega)) (fun H' s => sqt_of (s _ _ h1)) ?_ mono_name mono_yes ?_⟩
        · rintro i x Ha Hb hi' hS ⟨rfl, hx⟩ R hR
          walk_at "rd"
          obtain ⟨p, hp, rfl⟩ := List.mem_map.mp (List.mem_of_getElem? hx)
          obtain ⟨t1, t2, t3, t4⟩ := ts p hp
          refine istype (hS _ _ (s1 _ _ t1)) (itmW t2) fun H' s => ?_
          rw [names_all t2 (by omega) (by omega)]
          exact hR _ s
        intro H2 D hS hD hL
        have e : ((List.range (bs.map fun p => V.ref p.1).length).map fun i => V.bl true) = ((List.range (bs.map fun p => V.ref p.1).length).map fun _ => true).map V.bl := by rw [List.map_map]; rfl
        rw [e] at hL
        refine ⟨D, _, rfl, .inl (.inl hL), ?_⟩
        have ea : (((List.range (bs.map fun p => V.ref p.1).length).map fun _ => true).all id) = true := by simp
        rw [ea]
        refine ⟨_, rfl, iteN (by simp) (hN2 _ _ ?_)⟩
        clear hN1 hN2
        have s2 := s1.trans hS
        have h2 := s2 _ _ h
        walk_at "rd"
        walk_at "rdx"
        have nl := isNm_len nz
        have l1 : (Str.empty ++ z).length ≤ 8 := by rw [len_app, show Str.empty.length = 0 from rfl]; omega
        have l2 : (Str.empty ++ z ++ Str.ofString "(").length ≤ 9 := by rw [len_app, show (Str.ofString "(").length = 1 from rfl]; omega
        refine .inl ⟨sz100 (by omega), sz100 (by omega), sz100 (by omega), ⟨_, rfl⟩, ⟨_, sqt_of h2⟩, ?_⟩
        refine lc_same walk_tup (fun i => V.str ((bs[i]?.map fun p => txN p.2).getD Str.empty)) (sz100 (by omega)) (fun H' s => sqt_of (s _ _ h2)) ?_ mono_name mono_yes ?_
        · rintro i x Ha Hb hi' hS ⟨rfl, hx⟩ R hR
          walk_at "rd"
          rw [List.getElem?_map] at hx
          obtain ⟨p, ep, rfl⟩ := Option.map_eq_some_iff.mp hx
          obtain ⟨t1, t2, t3, t4⟩ := ts p (List.mem_of_getElem? ep)
          rw [ep] at hR
          exact ⟨p.1, p.2, rfl, hS _ _ (s2 _ _ t1), t2, t3, t4, hR⟩
        intro H4 D4 s4 hD4 hL4
        have e4 : ((List.range (bs.map fun p => V.ref p.1).length).map fun i => V.str ((bs[i]?.map fun p => txN p.2).getD Str.empty)) = (bs.map fun p => txN p.2).map V.str := by
          rw [lb, ← range_opt (fun p : Addr × List Str => txN p.2) Str.empty bs, List.map_map]
          rfl
        rw [e4] at hL4
        have lt : ∀ p ∈ bs, (txN p.2).length ≤ 3609 := fun p hp => by
          obtain ⟨t1, t2, t3, t4⟩ := ts p hp
          have := txN_len t2
          omega
        have ls : ((bs.map fun p => txN p.2).map (·.length)).sum ≤ bs.length * 3609 := by
          rw [List.map_map]
          exact sum_le_of fun p hp => lt p hp
        have lj := join_le (Str.ofString ", ") (bs.map fun p => txN p.2)
        rw [List.length_map, show (Str.ofString ", ").length = 2 from rfl] at lj
        have l3 : (Str.empty ++ z ++ Str.ofString "(" ++ Txt.join (Str.ofString ", ") (bs.map fun p => txN p.2)).length ≤ 20000 := by rw [len_app]; omega
        refine ⟨_, D4, _, rfl, rfl, .inl (sql_of hL4), ?_, .inl ⟨_, rfl, sz100 (by omega), sz100 (by omega), sz100 ?_, q3 rfl _ _ (s2.trans s4)⟩⟩
        · rw [List.length_map, show (Str.ofString ", ").length = 2 from rfl]
          omega
        · rw [len_app, show (Str.ofString ")").length = 1 from rfl]
          omega
    cases hn with
    | kn k z =>
      refine .inl (isname k z fun H1 s1 => ?_)
      walk_at "rd"
      exact ite2 (fun e => q0 (by simpa using e) H1 s1) (fun e => by
        have e' : nameV n = true := by simpa using e
        refine nx H1 s1 e' ?_
        cases n with
        | str y => exact ⟨y, rfl, e'⟩
        | _ => cases e')
    | no h =>
      refine .inr ⟨n, rfl, h, ?_⟩
      walk_at "rd"
      exact q0 rfl H (Same.refl _)
end

local macro_rules | `(tactic| walk_at "rdx") => `(tactic| ((try simp only [tFld, gTup, gStar, tJs, tFmt, sFld, tSc_eq, tDGet, tMake, tMakeK, StX.tStar]); try walk_at "rd"))
section
variable {w : World} {K : PySem.W.Frag} {mg : Str → Option Value} {base : Heap}
/-- a line that can be written -/
inductive LnW (H : Hp) : V → Prop
  | val {a b : Addr} {ws : List Str} (h : H a = some (.tup [.str wValue, .ref b])) (hb : H b = some (.tup (ws.map V.str))) (nm : ∀ z ∈ ws, isNm z = true) (lo : 1 ≤ ws.length) (hi : ws.length ≤ 10) : LnW H (.ref a)
  | call {a p : Addr} {n : Str} {us : List Nat} (h : H a = some (.tup [.str wCall, .str n, .ref p])) (nm : isNm n = true) (hp : H p = some (.tup (us.map fun u : Nat => V.int u))) (lu : us.length ≤ 3) (ku : ∀ u ∈ us, u < 3) : LnW H (.ref a)
theorem LnW.same {H H' : Hp} {v : V} (h : LnW H v) (s : Same H H') : LnW H' v := by
  cases h with
  | val h hb nm lo hi => exact .val (s _ _ h) (s _ _ hb) nm lo hi
  | call h nm hp lu ku => exact .call (s _ _ h) nm (s _ _ hp) lu ku
def spx_write_program (K : PySem.W.Frag) (CP : Addr) : Sp := fun vs H Q E => ∃ (v : V), vs = [v] ∧ ((PrIs K H v false ∧ ∀ H', Same H H' → E (.ref CP) none H') ∨
  ∃ (a : Addr) (xs : List V), v = .ref a ∧ H a = some (.tup xs) ∧ xs.length ≤ 8000 ∧ PrIs K H v true ∧ (∀ x ∈ xs, LnW H x) ∧ ∀ z H', Same H H' → Q (.str z) H')
def inv_wp (a r : Addr) (H : Hp) : Nat → L2.St → Hp → Prop := fun i σ H' => ∃ (x2 : Option V) (ys : List Str), σ = [some (.ref a), some (.ref r), x2, none] ∧ Same H H' ∧ H' r = some (.lst (ys.map V.str)) ∧ ys.length = i ∧ ∀ y ∈ ys, y.length ≤ 100
theorem ok_write_program (T : Tx K mg) : FnOk P w K mg base (L2.CX P w) 7 T.f_write_program T.d_write_program ["program"] (spx_write_program K T.C_InvalidProgram) := by
  refine T.F_write_program.okX sc_write_program (fun vs H Q E h => ?_) (fun cdv A outer s H vs Q E hr h => ?_)
  · obtain ⟨v, rfl, _⟩ := h
    rfl
  · obtain ⟨v, rfl, h⟩ := h
    refine ⟨_, (pss_cons (ps_expr (pe_call (ok_require_program T) (hr.mono (by decide)) (by rfl) T.g_require_program T.F_require_program.kp T.b_require_program .nil (passes_call (takes_of rfl rfl rfl rfl) (fun _ _ _ _ h => h)) (pa_cons (pv 0) pa_nil)))
      (pss_cons (ps_set (i := 1) sc_write_program.nd rfl (Or.inl rfl) (pe_lst pa_nil))
      (pss_cons (ps_for (passes_of rfl) rfl (pi_tup (pv 0)) (pg_name (i := 2) sc_write_program.nd rfl (Or.inl rfl)) (pss_one (ps_if (pt_cmpR op_eq (pe_ix ix_tup (pv 2) pe_int (fun _ _ => rfl)) (pe_glob (v := .str "value") (by rfl) T.m_VALUE ⟨_, rfl⟩) (nomark _)) (pss_one (ps_expr (pe_bm PySem.F.plainAttrs_list PySem.F.slot_list_append PySem.F.type_list_append mt_append (pv 1) (pa_cons (pe_joined (.cons (pe_fmt (pe_glob (v := .str "value") (by rfl) T.m_VALUE ⟨_, rfl⟩)) (.cons pe_str (.cons (pe_fmt (pe_call (ok_write_type T) (hr.mono (by decide)) (by rfl) T.g_write_type T.F_write_type.kp T.b_write_type .nil pass0 (pa_cons (pe_ix ix_tup (pv 2) pe_int (fun _ _ => rfl)) pa_nil))) .nil)))) pa_nil)))) (pss_one (ps_expr (pe_bm PySem.F.plainAttrs_list PySem.F.slot_list_append PySem.F.type_list_append mt_append (pv 1) (pa_cons (pe_joinN pe_str (pe_lst (pa_cons (pe_glob (v := .str "call") (by rfl) T.m_CALL ⟨_, rfl⟩) (pa_cons (pe_ix ix_tup (pv 2) pe_int (fun _ _ => rfl)) (StX.pa_star (pe_lc (own := [("at", 3)]) (g := gName 3) (by rfl) sc_write_program.nd (pi_tup (pe_ix ix_tup (pv 2) pe_int (fun _ _ => rfl))) (blkOk_by (own := [("at", 3)]) (N := ["program", "rows", "line", "at"]) (sc := defScope s_write_program) (by decide +kernel)) (fun _ _ _ _ _ => (pg_name (i := 3) sc_write_program.nd rfl (Or.inl rfl))) (fun _ _ _ _ _ => pts_nil) (fun _ _ _ _ _ => (pe_callTy call_str_int (by rfl) T.n_str (by decide +kernel) (pa_cons (pv 3) pa_nil)))) pa_nil))))) pa_nil)))))))
      (pss_one (ps_ret (pe_joinN pe_str (pv 1))))))), ?_⟩
    refine seqN fun N1 hN1 => ?_
    walk_at "rd"
    rcases h with ⟨hb, q0⟩ | ⟨a, xs, rfl, ha, hl, hb, hw, q⟩
    · exact ⟨v, false, rfl, hb, fun _ => q0, fun e => nomatch e⟩
    refine ⟨.ref a, true, rfl, hb, (fun e => nomatch e), fun _ H1 s1 => hN1 _ _ ?_⟩
    clear hN1
    refine seqN fun N2 hN2 => ?_
    walk_at "rd"
    refine ⟨by decide, fun r hr => hN2 _ _ ?_⟩
    clear hN2
    have hr0 : H r = none := by
      cases e : H r with
      | none => rfl
      | some o => rw [s1 _ _ e] at hr; cases hr
    have s2 := same_new (o := .lst []) hr
    have f2 : upd H1 r (.lst []) r = some (.lst []) := upd_same
    generalize upd H1 r (.lst []) = H2 at *
    have s02 := s1.trans s2
    refine seqN fun N3 hN3 => ?_
    walk_at "rd"
    refine ⟨⟨_, sqt_of (s02 _ _ ha)⟩, forB walk_tup (inv_wp a r H) ⟨none, [], rfl, s02, f2, rfl, (fun y h => nomatch h)⟩ (fun i σ H' _ h => let ⟨_, _, _, s, _⟩ := h; sqt_of (s _ _ ha)) ?_ ?_⟩
    · rintro i x σ Ha Hb hi ⟨x2, ys, rfl, sa, hL, ll, ly⟩ ⟨rfl, hx⟩
      have lw := (hw x (List.mem_of_getElem? hx)).same sa
      walk_at "rd"
      walk_at "rdx"
      have hi' : i < 8000 := by omega
      cases lw with
      | @val a' b ws h hb nm lo hi2 =>
        refine ixt_nat (j := 0) (sqt_of h) rfl ⟨rfl, ?_⟩
        have e0 : (Str.empty ++ Str.ofString "value" ++ Str.ofString " ").length = 6 := by decide
        have nb := txN_len nm
        have lz : (Str.empty ++ Str.ofString "value" ++ Str.ofString " " ++ txN ws).length ≤ 100 := by rw [len_app, e0]; omega
        refine iteP (decide_eq_true rfl) ⟨tyl (sql_of hL), .inl ⟨by decide, by decide, by decide, ixt_nat (j := 1) (sqt_of h) rfl ⟨b, ws, rfl, hb, nm, lo, by omega, fun Hc sc => .inl ⟨_, rfl, sz100 (by omega), sz100 (by omega), r, _, _, rfl, rfl, sc _ _ hL, by rw [List.length_map]; exact sz100' (by omega), ?_⟩⟩⟩⟩
        exact ⟨_, ys ++ [Str.empty ++ Str.ofString "value" ++ Str.ofString " " ++ txN ws], rfl, same_mut (sa.trans sc) hr0, by rw [upd_same, List.map_append]; rfl, by rw [List.length_append, ll]; rfl, fun y hy => (List.mem_append.mp hy).elim (ly y) fun e => by rw [List.mem_singleton.mp e]; exact lz⟩
      | @call a' p n us h nm hp lu ku =>
        refine ixt_nat (j := 0) (sqt_of h) rfl ⟨rfl, ?_⟩
        have lm : (us.map fun u : Nat => V.int u).length = us.length := List.length_map _
        refine iteN (by decide) ⟨tyl (sql_of hL), ⟨_, rfl⟩, ixt_nat (j := 1) (sqt_of h) rfl (ixt_nat (j := 2) (sqt_of h) rfl ⟨p, rfl, ⟨_, sqt_of hp⟩, lc_same walk_tup (fun i => V.str ((us[i]?.map numT).getD Str.empty)) (sz100 (by omega)) (fun H' s => sqt_of (s _ _ hp)) ?_ mono_name mono_yes ?_⟩)⟩
        · rintro j x' Hc Hd hj hS ⟨rfl, hx'⟩ R hR
          walk_at "rd"
          rw [List.getElem?_map] at hx'
          obtain ⟨u, eu, rfl⟩ := Option.map_eq_some_iff.mp hx'
          have hu := ku u (List.mem_of_getElem? eu)
          rw [eu] at hR
          refine ⟨(u : Int), rfl, ?_, hR _ (Same.refl _)⟩
          show u.log2 < 1920
          have := Nat.log2_le_self u
          omega
        intro Hc D sc hD hLD
        have eD : ((List.range (us.map fun u : Nat => V.int u).length).map fun i => V.str ((us[i]?.map numT).getD Str.empty)) = (us.map numT).map V.str := by
          rw [lm, ← range_opt numT Str.empty us, List.map_map]
          rfl
        rw [eD] at hLD
        refine ⟨D, rfl, _, .inr (sql_of hLD), by rw [List.length_map, List.length_map]; exact sz100 (by omega), fun pj hpj => ?_⟩
        have eL : V.str (Str.ofString "call") :: V.str n :: (us.map numT).map V.str = (Str.ofString "call" :: n :: us.map numT).map V.str := rfl
        rw [eL]
        have sd := same_new (o := .lst ((Str.ofString "call" :: n :: us.map numT).map V.str)) hpj
        have fj : upd Hc pj (.lst ((Str.ofString "call" :: n :: us.map numT).map V.str)) pj = some (.lst ((Str.ofString "call" :: n :: us.map numT).map V.str)) := upd_same
        generalize upd Hc pj (.lst ((Str.ofString "call" :: n :: us.map numT).map V.str)) = Hd at *
        have nl := isNm_len nm
        have su : ((us.map numT).map (·.length)).sum ≤ us.length * 1 := by
          rw [List.map_map]
          refine sum_le_of fun u hu => ?_
          exact Nat.le_of_eq (numT_len (ku u hu))
        have st : ((Str.ofString "call" :: n :: us.map numT).map (·.length)).sum + (Str.ofString "call" :: n :: us.map numT).length * 1 ≤ 20 := by
          rw [List.map_cons, List.map_cons, List.sum_cons, List.sum_cons, List.length_cons, List.length_cons, List.length_map, show (Str.ofString "call").length = 4 from rfl]
          omega
        have lj := join_le (Str.ofString " ") (Str.ofString "call" :: n :: us.map numT)
        rw [show (Str.ofString " ").length = 1 from rfl] at lj
        refine ⟨_, pj, _, rfl, rfl, .inl (sql_of fj), by rw [show (Str.ofString " ").length = 1 from rfl]; omega, r, _, _, rfl, rfl, (sc.trans sd) _ _ hL, by rw [List.length_map]; exact sz100' (by omega), ?_⟩
        exact ⟨_, ys ++ [Txt.join (Str.ofString " ") (Str.ofString "call" :: n :: us.map numT)], rfl, same_mut (sa.trans (sc.trans sd)) hr0, by rw [upd_same, List.map_append]; rfl, by rw [List.length_append, ll]; rfl, fun y hy => (List.mem_append.mp hy).elim (ly y) fun e => by rw [List.mem_singleton.mp e]; omega⟩
    · rintro σ Ha ⟨x2, ys, rfl, sa, hL, ll, ly⟩
      refine hN3 _ _ ?_
      walk_at "rd"
      clear hN3
      have sl : (ys.map (·.length)).sum ≤ ys.length * 100 := sum_le_of ly
      refine ⟨⟨_, rfl⟩, _, r, ys, rfl, rfl, .inl (sql_of hL), ?_, q _ _ sa⟩
      rw [show (Str.ofString "\n").length = 1 from rfl]
      omega
end

section
variable {w : World} {K : PySem.W.Frag} {mg : Str → Option Value} {base : Heap}
/-- how _law_word_of answers what flies -/
def met (CW CL CC CP : Addr) (Q : VK) : XK := fun cls d H => (cls = .ref CW ∧ Q (.str "word") H) ∨ (cls = .ref CL ∧ Q (.str "library") H) ∨ (cls = .ref CC ∧ Q (.str "call") H) ∨ (cls = .ref CP ∧ Q (.str "program") H)
open LamX in
/-- what _law_word_of makes of what it calls -/
def TMet (CW CL CC CP : Addr) : (XK → Hp → VK → Prop) → Hp → VK → Prop := fun tl H Q => tl (met CW CL CC CP Q) H fun _ H' => Q (.str "fine") H'
theorem pss_when {X : Cx} {st : List Stmt} {t : TS} (h : ∀ pins s σ H D, L2.Inv X pins σ H s → t D σ H → ∃ t', PSs X st t' ∧ t' D σ H) : PSs X st t :=
  ⟨fun pins s σ H D I ht => let ⟨_, p, q⟩ := h pins s σ H D I ht; p.run pins s σ H D I q⟩
theorem met_gives {X : Cx} (T : Tx X.K X.mg) (q : Str) (cdg : Value) :
    LamX.GivesTo X ["_law_call"] "_law_word_of" (defScope s_law_word_of) T.f__law_word_of cdg (defBody s_law_word_of) "_law_call" q (TMet T.C_InvalidWord T.C_InvalidLibrary T.C_InvalidCall T.C_InvalidProgram) := by
  intro f c' s H Q tl act hc h
  refine ⟨_, pss_cons (ps_try_cl
      (tb := fun W D σ H => ∃ Ech : XK, (∀ cls d σ' H', Ech cls d H' → W cls d σ' H') ∧ σ[0]? = some (some (.ref f)) ∧ H c' = some (LamX.CodeO c' q) ∧ tl Ech H (fun _ H1 => D.nx σ H1))
      rfl rfl (fun W pn xe tk _ => ?_)
      (.cons (.plain ⟨rfl, by decide, .inl T.m_InvalidWord⟩ (fun a oe cls d pn hz hf => pss_one (ps_ret pe_str)))
        (.cons (.plain ⟨rfl, by decide, .inl T.m_InvalidLibrary⟩ (fun a oe cls d pn hz hf => pss_one (ps_ret pe_str)))
          (.cons (.plain ⟨rfl, by decide, .inl T.m_InvalidCall⟩ (fun a oe cls d pn hz hf => pss_one (ps_ret pe_str)))
            (.cons (.plain ⟨rfl, by decide, .inl T.m_InvalidProgram⟩ (fun a oe cls d pn hz hf => pss_one (ps_ret pe_str))) .nil))))) (pss_one (ps_ret pe_str)), ?_⟩
  · refine pss_when fun pins s' σ H' D I h' => ?_
    obtain ⟨Ech, hW, h1, h2, h3⟩ := h'
    exact ⟨_, pss_one (ps_expr (act W pn xe Ech _ _ tk hW)), h1, h2, h3⟩
  · refine ⟨_, fun cls d σ' H' hE => ?_, rfl, hc, h⟩
    rcases hE with ⟨rfl, hq⟩ | ⟨rfl, hq⟩ | ⟨rfl, hq⟩ | ⟨rfl, hq⟩
    · exact .inl ⟨T.exm_InvalidWord_InvalidWord, fun a ha => hq⟩
    · exact .inr ⟨T.exm_InvalidLibrary_InvalidWord, .inl ⟨T.exm_InvalidLibrary_InvalidLibrary, fun a ha => hq⟩⟩
    · exact .inr ⟨T.exm_InvalidCall_InvalidWord, .inr ⟨T.exm_InvalidCall_InvalidLibrary, .inl ⟨T.exm_InvalidCall_InvalidCall, fun a ha => hq⟩⟩⟩
    · exact .inr ⟨T.exm_InvalidProgram_InvalidWord, .inr ⟨T.exm_InvalidProgram_InvalidLibrary, .inr ⟨T.exm_InvalidProgram_InvalidCall, .inl ⟨T.exm_InvalidProgram_InvalidProgram, fun a ha => hq⟩⟩⟩⟩
theorem met_to {X : Cx} {K : PySem.W.Frag} {mg : Str → Option Value} (T : Tx K mg) (q : Str) (cdg : Value) (hK : X.K = K) (hm : X.mg = mg) :
    LamX.GivesTo X ["_law_call"] "_law_word_of" (defScope s_law_word_of) T.f__law_word_of cdg (defBody s_law_word_of) "_law_call" q (TMet T.C_InvalidWord T.C_InvalidLibrary T.C_InvalidCall T.C_InvalidProgram) := by
  subst hK hm
  exact met_gives T q cdg
end

local macro_rules | `(tactic| walk_at "rdx") => `(tactic| ((try simp only [tFld, gTup, gStar, tJs, tFmt, sFld, tSc_eq, tDGet, tMake, tMakeK]); try walk_at "rd"))
section
variable {w : World} {K : PySem.W.Frag} {mg : Str → Option Value} {base : Heap}
/-- all but the dice and the tables stays -/
structure Gx (d : Addr) (H H' : Hp) : Prop where
  pre : Dc H d
  keep : ∀ a o, a ≠ d → (∀ ps, o ≠ .tbl ps) → H a = some o → H' a = some o
  dice : Dc H' d
section
variable {d : Addr} {H H1 H2 : Hp}
theorem Gx.refl (h : Dc H d) : Gx d H H := ⟨h, fun _ _ _ _ h => h, h⟩
theorem Gx.trans (a : Gx d H H1) (b : Gx d H1 H2) : Gx d H H2 := ⟨a.pre, fun x o n z h => b.keep x o n z (a.keep x o n z h), b.dice⟩
theorem Gx.gr (g : Gr d H H1) : Gx d H H1 := ⟨g.pre, fun a o n _ h => g.keep a o n h, g.dice⟩
theorem Gx.same (h : Dc H d) (s : Same H H1) : Gx d H H1 := .gr (.same h s)
theorem Gx.ext (h : Dc H d) (e : LamX.ExtN H H1) : Gx d H H1 := ⟨h, fun a o _ z q => e a o q z, h.extN e⟩
theorem Gx.tup (g : Gx d H H1) {a : Addr} {xs : List V} (h : H a = some (.tup xs)) : H1 a = some (.tup xs) := g.keep _ _ (g.pre.ne_tup h) (fun ps e => nomatch e) h
theorem Gx.lst (g : Gx d H H1) {a : Addr} {xs : List V} (n : a ≠ d) (h : H a = some (.lst xs)) : H1 a = some (.lst xs) := g.keep _ _ n (fun ps e => nomatch e) h
theorem Gx.dK (g : Gx d H H1) {a : Addr} {l : List (L2.Key × V)} (h : H a = some (.dK l)) : H1 a = some (.dK l) := by
  obtain ⟨x, y, z, hd⟩ := g.pre
  exact g.keep _ _ (fun e => by rw [e, hd] at h; cases h) (fun ps e => nomatch e) h
theorem Kn.gx {v : V} {t : String} (g : Gx d H H1) (k : Kn H v t) : Kn H1 v t := by
  obtain ⟨x, y, z, hd⟩ := g.dice
  cases k with
  | non => exact .non
  | bl b => exact .bl b
  | int i => exact .int i
  | str z => exact .str z
  | @lst a xs h =>
    by_cases e : a = d
    · rw [e]
      exact .lst hd
    · exact .lst (g.lst e h)
  | tup h => exact .tup (g.tup h)
  | dK h => exact .dK (g.dK h)
theorem told_gx {v : V} {xs : List V} {b : Bool} (g : Gx d H H1) (t : Told H v xs b) : Told H1 v xs b := by
  cases t with
  | tup h k z => exact .tup (g.tup h) (fun x hx => (k x hx).imp fun _ q => Kn.gx g q) z
  | oth k n => exact .oth (Kn.gx g k) n
theorem LnIs.gx {v : V} {at_ : Nat} {b : Bool} (g : Gx d H H1) (h : LnIs H at_ v b) : LnIs H1 at_ v b := by
  cases h with
  | oth k n => exact .oth (Kn.gx g k) n
  | short h l => exact .short (g.tup h) l
  | nostr h k n => exact .nostr (g.tup h) (Kn.gx g k) n
  | word h n1 n2 => exact .word (g.tup h) n1 n2
  | val h t => exact .val (g.tup h) (told_gx g t)
  | valL h => exact .valL (g.tup h)
  | callL h l => exact .callL (g.tup h) l
  | noargs h k z k2 ne => exact .noargs (g.tup h) (Kn.gx g k) z (Kn.gx g k2) ne
  | args h k z hp lu ku => exact .args (g.tup h) (Kn.gx g k) z (g.tup hp) lu fun u hu => (ku u hu).imp fun _ q => Kn.gx g q
end
/-- no type, and what is shown of it -/
structure BadF (K : PySem.W.Frag) (H : Hp) (v : V) (xs : List V) (b : Bool) (t : String) (dt : PyData) : Prop where
  td : Told H v xs b
  no : (b && namesV xs 1 401) = false
  kn : Kn H v t
  sv : ∀ y, v = .str y → y.length ≤ 100
  vz : Vz K H v dt
  sz : Sz dt 5 6000
  sd : ∀ z, dt = .str z → z.length ≤ 100
/-- it stays so -/
def BadS (K : PySem.W.Frag) (d : Addr) (H : Hp) (v : V) : Prop := ∃ xs b t dt, ∀ H', Gx d H H' → BadF K H' v xs b t dt
theorem BadS.gx {d : Addr} {H H' : Hp} {v : V} (h : BadS K d H v) (g : Gx d H H') : BadS K d H' v := let ⟨xs, b, t, dt, k⟩ := h; ⟨xs, b, t, dt, fun H2 g2 => k H2 (g.trans g2)⟩
theorem bad_k {H : Hp} {v : V} {t : String} {dt : PyData} (k : Kn H v t) (n : t ≠ "tuple") (sv : ∀ y, v = .str y → y.length ≤ 100) (vz : Vz K H v dt) (sz : Sz dt 5 6000) (sd : ∀ z, dt = .str z → z.length ≤ 100) : BadF K H v [] false t dt := ⟨.oth k n, rfl, k, sv, vz, sz, sd⟩
theorem bad_t {H : Hp} {a : Addr} {xs : List V} {dt : PyData} (h : H a = some (.tup xs)) (kn : ∀ x ∈ xs, ∃ t, Kn H x t) (z : ∀ y, V.str y ∈ xs → y.length ≤ 100) (no : namesV xs 1 401 = false) (vz : Vz K H (.ref a) dt) (sz : Sz dt 5 6000) (sd : ∀ z, dt = .str z → z.length ≤ 100) : BadF K H (.ref a) xs true "tuple" dt :=
  ⟨.tup h kn fun y hy => sz100 (by have := z y hy; omega), by rw [no]; rfl, .tup h, (fun y e => nomatch e), vz, sz, sd⟩
theorem kn1 {H : Hp} {x : V} {t : String} (k : Kn H x t) : ∀ y ∈ [x], ∃ t, Kn H y t := fun y hy => ⟨t, by rw [List.mem_singleton.mp hy]; exact k⟩
theorem kn2 {H : Hp} {x x2 : V} {t t2 : String} (k : Kn H x t) (k2 : Kn H x2 t2) : ∀ y ∈ [x, x2], ∃ t, Kn H y t := fun y hy => by
  simp only [List.mem_cons, List.not_mem_nil, or_false] at hy
  rcases hy with rfl | rfl
  · exact ⟨_, k⟩
  · exact ⟨_, k2⟩
theorem st1 {x : V} {n : Nat} (h : ∀ y, x = .str y → y.length ≤ n) : ∀ y, V.str y ∈ [x] → y.length ≤ n := fun y hy => h y (List.mem_singleton.mp hy).symm
theorem st2 {x x2 : V} {n : Nat} (h : ∀ y, x = .str y → y.length ≤ n) (h2 : ∀ y, x2 = .str y → y.length ≤ n) : ∀ y, V.str y ∈ [x, x2] → y.length ≤ n := fun y hy => by
  simp only [List.mem_cons, List.not_mem_nil, or_false] at hy
  rcases hy with e | e
  · exact h y e.symm
  · exact h2 y e.symm
theorem sv_s {z : Str} {n : Nat} (h : z.length ≤ n) : ∀ y, V.str z = .str y → y.length ≤ n := fun y e => by cases e; exact h
theorem many_data (n : Nat) (z : Str) (p : Pl z) (hz : z.length ≤ 1) (hn : n ≤ 402) : Sz (.tuple (List.replicate n (.str z))) 5 6000 := by
  have g := (Gd.tuple (ds := List.replicate n (.str z)) (k := 0) (n := 12) fun d hd => by
    rw [List.eq_of_mem_replicate hd]
    exact (Gd.str p).mono (Nat.le_refl _) (by omega)).sz
  refine g.mono (by decide) ?_
  rw [List.length_replicate]
  omega
theorem rep_one (n : Nat) (z : Str) : (List.replicate n [V.str z]).flatten = (List.replicate n z).map V.str := by
  induction n with
  | zero => rfl
  | succ n ih =>
    rw [List.replicate_succ, List.replicate_succ, List.flatten_cons, List.map_cons, ih]
    rfl
theorem dpS_rep {H : Hp} (n : Nat) (z : Str) : DpAll K H ((List.replicate n z).map V.str) (List.replicate n (.str z)) := by
  induction n with
  | zero => exact .nil
  | succ n ih => exact .cons (.str z) ih
def sp_bad_names (K : PySem.W.Frag) : Sp := fun vs H Q _ => ∃ d, vs = [] ∧ Dc H d ∧ ∀ p H' ys, Same H H' → H p = none → H' p = some (.lst ys) → ys ≠ [] → ys.length ≤ 100 → (∀ y ∈ ys, BadS K d H' y) → Q (.ref p) H'
theorem ok_law_bad_names (T : Tx K mg) : FnOk P w K mg base CX0 1 T.f__law_bad_names T.d__law_bad_names [] (sp_bad_names K) := by
  refine T.F__law_bad_names.ok sc_law_bad_names (fun vs H Q E h => ?_) (fun cdv A outer s H vs Q E hr h => ?_)
  · obtain ⟨d, rfl, _⟩ := h
    rfl
  · obtain ⟨d, rfl, hd, q⟩ := h
    refine ⟨_, (pss_cons (ps_set (i := 0) sc_law_bad_names.nd rfl (Or.inl rfl) (pe_lst (pa_cons pe_non (pa_cons pe_int (pa_cons pe_bl (pa_cons pe_str (pa_cons (pe_tup pa_nil) (pa_cons (pe_lst pa_nil) (pa_cons pe_dnewK (pa_cons (pe_tup (pa_cons pe_str pa_nil)) (pa_cons (pe_tup (pa_cons pe_str pa_nil)) (pa_cons (pe_tup (pa_cons pe_str pa_nil)) (pa_cons (pe_tup (pa_cons pe_str (pa_cons pe_str pa_nil))) (pa_cons (pe_tup (pa_cons pe_str pa_nil)) (pa_cons (pe_tup (pa_cons pe_non pa_nil)) (pa_cons (pe_tup (pa_cons pe_int pa_nil)) pa_nil))))))))))))))))
      (pss_one (ps_ret (pe_op op_cat (pv 0) (pe_lst (pa_cons (pe_lst (pa_cons pe_str pa_nil)) (pa_cons (pe_tup (pa_cons pe_str pa_nil)) (pa_cons (pe_tup (pa_cons (pe_tup (pa_cons pe_str pa_nil)) pa_nil)) (pa_cons (pe_op op_repT (pe_tup (pa_cons pe_str pa_nil)) pe_int) (pa_cons (pe_tup (pa_cons pe_str (pa_cons pe_int pa_nil))) (pa_cons (pe_tup (pa_cons pe_dnewK pa_nil)) (pa_cons (pe_tup (pa_cons (pe_lst pa_nil) pa_nil)) (pa_cons (pe_tup (pa_cons pe_str (pa_cons pe_str pa_nil))) pa_nil))))))))))))), ?_⟩
    refine seqN fun N1 hN1 => ?_
    walk_at "rd"
    walk_at "rdx"
    refine ⟨by decide, fun pU1 hpU1 => ?_⟩
    have sU1 := same_new (o := .tup []) hpU1
    have fU1 : upd H pU1 (.tup []) pU1 = some (.tup []) := upd_same
    generalize upd H pU1 (.tup []) = U1 at *
    refine ⟨by decide, fun pU2 hpU2 => ?_⟩
    have sU2 := same_new (o := .lst []) hpU2
    have fU2 : upd U1 pU2 (.lst []) pU2 = some (.lst []) := upd_same
    generalize upd U1 pU2 (.lst []) = U2 at *
    refine fun pU3 hpU3 => ?_
    have sU3 := same_new (o := .dK []) hpU3
    have fU3 : upd U2 pU3 (.dK []) pU3 = some (.dK []) := upd_same
    generalize upd U2 pU3 (.dK []) = U3 at *
    refine ⟨by decide, fun pU4 hpU4 => ?_⟩
    have sU4 := same_new (o := .tup [V.str (Str.ofString "")]) hpU4
    have fU4 : upd U3 pU4 (.tup [V.str (Str.ofString "")]) pU4 = some (.tup [V.str (Str.ofString "")]) := upd_same
    generalize upd U3 pU4 (.tup [V.str (Str.ofString "")]) = U4 at *
    refine ⟨by decide, fun pU5 hpU5 => ?_⟩
    have sU5 := same_new (o := .tup [V.str (Str.ofString "A")]) hpU5
    have fU5 : upd U4 pU5 (.tup [V.str (Str.ofString "A")]) pU5 = some (.tup [V.str (Str.ofString "A")]) := upd_same
    generalize upd U4 pU5 (.tup [V.str (Str.ofString "A")]) = U5 at *
    refine ⟨by decide, fun pU6 hpU6 => ?_⟩
    have sU6 := same_new (o := .tup [V.str (Str.ofString "to")]) hpU6
    have fU6 : upd U5 pU6 (.tup [V.str (Str.ofString "to")]) pU6 = some (.tup [V.str (Str.ofString "to")]) := upd_same
    generalize upd U5 pU6 (.tup [V.str (Str.ofString "to")]) = U6 at *
    refine ⟨by decide, fun pU7 hpU7 => ?_⟩
    have sU7 := same_new (o := .tup [V.str (Str.ofString "a"), V.str (Str.ofString "gives")]) hpU7
    have fU7 : upd U6 pU7 (.tup [V.str (Str.ofString "a"), V.str (Str.ofString "gives")]) pU7 = some (.tup [V.str (Str.ofString "a"), V.str (Str.ofString "gives")]) := upd_same
    generalize upd U6 pU7 (.tup [V.str (Str.ofString "a"), V.str (Str.ofString "gives")]) = U7 at *
    refine ⟨by decide, fun pU8 hpU8 => ?_⟩
    have sU8 := same_new (o := .tup [V.str (Str.ofString "ninechars")]) hpU8
    have fU8 : upd U7 pU8 (.tup [V.str (Str.ofString "ninechars")]) pU8 = some (.tup [V.str (Str.ofString "ninechars")]) := upd_same
    generalize upd U7 pU8 (.tup [V.str (Str.ofString "ninechars")]) = U8 at *
    refine ⟨by decide, fun pU9 hpU9 => ?_⟩
    have sU9 := same_new (o := .tup [V.non]) hpU9
    have fU9 : upd U8 pU9 (.tup [V.non]) pU9 = some (.tup [V.non]) := upd_same
    generalize upd U8 pU9 (.tup [V.non]) = U9 at *
    refine ⟨by decide, fun pU10 hpU10 => ?_⟩
    have sU10 := same_new (o := .tup [V.int 1]) hpU10
    have fU10 : upd U9 pU10 (.tup [V.int 1]) pU10 = some (.tup [V.int 1]) := upd_same
    generalize upd U9 pU10 (.tup [V.int 1]) = U10 at *
    refine ⟨by decide, fun pU11 hpU11 => hN1 _ _ ?_⟩
    have sU11 := same_new (o := .lst [V.non, V.int 0, V.bl true, V.str (Str.ofString "int"), V.ref pU1, V.ref pU2, V.ref pU3, V.ref pU4, V.ref pU5, V.ref pU6, V.ref pU7, V.ref pU8, V.ref pU9, V.ref pU10]) hpU11
    have fU11 : upd U10 pU11 (.lst [V.non, V.int 0, V.bl true, V.str (Str.ofString "int"), V.ref pU1, V.ref pU2, V.ref pU3, V.ref pU4, V.ref pU5, V.ref pU6, V.ref pU7, V.ref pU8, V.ref pU9, V.ref pU10]) pU11 = some (.lst [V.non, V.int 0, V.bl true, V.str (Str.ofString "int"), V.ref pU1, V.ref pU2, V.ref pU3, V.ref pU4, V.ref pU5, V.ref pU6, V.ref pU7, V.ref pU8, V.ref pU9, V.ref pU10]) := upd_same
    generalize upd U10 pU11 (.lst [V.non, V.int 0, V.bl true, V.str (Str.ofString "int"), V.ref pU1, V.ref pU2, V.ref pU3, V.ref pU4, V.ref pU5, V.ref pU6, V.ref pU7, V.ref pU8, V.ref pU9, V.ref pU10]) = U11 at *
    clear hN1
    walk_at "rd"
    walk_at "rdx"
    refine ⟨by decide, fun pU12 hpU12 => ?_⟩
    have sU12 := same_new (o := .lst [V.str (Str.ofString "int")]) hpU12
    have fU12 : upd U11 pU12 (.lst [V.str (Str.ofString "int")]) pU12 = some (.lst [V.str (Str.ofString "int")]) := upd_same
    generalize upd U11 pU12 (.lst [V.str (Str.ofString "int")]) = U12 at *
    refine ⟨by decide, fun pU13 hpU13 => ?_⟩
    have sU13 := same_new (o := .tup [V.str (Str.ofString "a b")]) hpU13
    have fU13 : upd U12 pU13 (.tup [V.str (Str.ofString "a b")]) pU13 = some (.tup [V.str (Str.ofString "a b")]) := upd_same
    generalize upd U12 pU13 (.tup [V.str (Str.ofString "a b")]) = U13 at *
    refine ⟨by decide, fun pU14 hpU14 => ?_⟩
    have sU14 := same_new (o := .tup [V.str (Str.ofString "int")]) hpU14
    have fU14 : upd U13 pU14 (.tup [V.str (Str.ofString "int")]) pU14 = some (.tup [V.str (Str.ofString "int")]) := upd_same
    generalize upd U13 pU14 (.tup [V.str (Str.ofString "int")]) = U14 at *
    refine ⟨by decide, fun pU15 hpU15 => ?_⟩
    have sU15 := same_new (o := .tup [V.ref pU14]) hpU15
    have fU15 : upd U14 pU15 (.tup [V.ref pU14]) pU15 = some (.tup [V.ref pU14]) := upd_same
    generalize upd U14 pU15 (.tup [V.ref pU14]) = U15 at *
    refine ⟨by decide, fun pU16 hpU16 => ?_⟩
    have sU16 := same_new (o := .tup [V.str (Str.ofString "a")]) hpU16
    have fU16 : upd U15 pU16 (.tup [V.str (Str.ofString "a")]) pU16 = some (.tup [V.str (Str.ofString "a")]) := upd_same
    generalize upd U15 pU16 (.tup [V.str (Str.ofString "a")]) = U16 at *
    refine ⟨pU16, 402, _, rfl, rfl, sqt_of fU16, by simp, by decide, by decide, by simp, fun pU17 hpU17 => ?_⟩
    have sU17 := same_new (o := .tup (List.replicate (Int.toNat 402) [V.str (Str.ofString "a")]).flatten) hpU17
    have fU17 : upd U16 pU17 (.tup (List.replicate (Int.toNat 402) [V.str (Str.ofString "a")]).flatten) pU17 = some (.tup (List.replicate (Int.toNat 402) [V.str (Str.ofString "a")]).flatten) := upd_same
    generalize upd U16 pU17 (.tup (List.replicate (Int.toNat 402) [V.str (Str.ofString "a")]).flatten) = U17 at *
    have fU17 : U17 pU17 = some (.tup ((List.replicate 402 (Str.ofString "a")).map V.str)) := by rw [fU17, rep_one]; rfl
    refine ⟨by decide, fun pU18 hpU18 => ?_⟩
    have sU18 := same_new (o := .tup [V.str (Str.ofString "a"), V.int 0]) hpU18
    have fU18 : upd U17 pU18 (.tup [V.str (Str.ofString "a"), V.int 0]) pU18 = some (.tup [V.str (Str.ofString "a"), V.int 0]) := upd_same
    generalize upd U17 pU18 (.tup [V.str (Str.ofString "a"), V.int 0]) = U18 at *
    refine fun pU19 hpU19 => ?_
    have sU19 := same_new (o := .dK []) hpU19
    have fU19 : upd U18 pU19 (.dK []) pU19 = some (.dK []) := upd_same
    generalize upd U18 pU19 (.dK []) = U19 at *
    refine ⟨by decide, fun pU20 hpU20 => ?_⟩
    have sU20 := same_new (o := .tup [V.ref pU19]) hpU20
    have fU20 : upd U19 pU20 (.tup [V.ref pU19]) pU20 = some (.tup [V.ref pU19]) := upd_same
    generalize upd U19 pU20 (.tup [V.ref pU19]) = U20 at *
    refine ⟨by decide, fun pU21 hpU21 => ?_⟩
    have sU21 := same_new (o := .lst []) hpU21
    have fU21 : upd U20 pU21 (.lst []) pU21 = some (.lst []) := upd_same
    generalize upd U20 pU21 (.lst []) = U21 at *
    refine ⟨by decide, fun pU22 hpU22 => ?_⟩
    have sU22 := same_new (o := .tup [V.ref pU21]) hpU22
    have fU22 : upd U21 pU22 (.tup [V.ref pU21]) pU22 = some (.tup [V.ref pU21]) := upd_same
    generalize upd U21 pU22 (.tup [V.ref pU21]) = U22 at *
    refine ⟨by decide, fun pU23 hpU23 => ?_⟩
    have sU23 := same_new (o := .tup [V.str (Str.ofString "a"), V.str (Str.ofString "")]) hpU23
    have fU23 : upd U22 pU23 (.tup [V.str (Str.ofString "a"), V.str (Str.ofString "")]) pU23 = some (.tup [V.str (Str.ofString "a"), V.str (Str.ofString "")]) := upd_same
    generalize upd U22 pU23 (.tup [V.str (Str.ofString "a"), V.str (Str.ofString "")]) = U23 at *
    refine ⟨by decide, fun pU24 hpU24 => ?_⟩
    have sU24 := same_new (o := .lst [V.ref pU12, V.ref pU13, V.ref pU15, V.ref pU17, V.ref pU18, V.ref pU20, V.ref pU22, V.ref pU23]) hpU24
    have fU24 : upd U23 pU24 (.lst [V.ref pU12, V.ref pU13, V.ref pU15, V.ref pU17, V.ref pU18, V.ref pU20, V.ref pU22, V.ref pU23]) pU24 = some (.lst [V.ref pU12, V.ref pU13, V.ref pU15, V.ref pU17, V.ref pU18, V.ref pU20, V.ref pU22, V.ref pU23]) := upd_same
    generalize upd U23 pU24 (.lst [V.ref pU12, V.ref pU13, V.ref pU15, V.ref pU17, V.ref pU18, V.ref pU20, V.ref pU22, V.ref pU23]) = U24 at *
    refine Lv.catL (((((((((((((sU12.trans sU13).trans sU14).trans sU15).trans sU16).trans sU17).trans sU18).trans sU19).trans sU20).trans sU21).trans sU22).trans sU23).trans sU24) _ _ fU11) fU24 (show 22 ≤ sizeLine by decide) fun pR hpR => ?_
    have n2 : pU2 ≠ d := (hd.same sU1).ne hpU2
    have n12 : pU12 ≠ d := (hd.same ((((((((((sU1.trans sU2).trans sU3).trans sU4).trans sU5).trans sU6).trans sU7).trans sU8).trans sU9).trans sU10).trans sU11)).ne hpU12
    have n21 : pU21 ≠ d := (hd.same (((((((((((((((((((sU1.trans sU2).trans sU3).trans sU4).trans sU5).trans sU6).trans sU7).trans sU8).trans sU9).trans sU10).trans sU11).trans sU12).trans sU13).trans sU14).trans sU15).trans sU16).trans sU17).trans sU18).trans sU19).trans sU20)).ne hpU21
    have cU24 := Same.refl U24
    have cU23 := sU24.trans cU24
    have cU22 := sU23.trans cU23
    have cU21 := sU22.trans cU22
    have cU20 := sU21.trans cU21
    have cU19 := sU20.trans cU20
    have cU18 := sU19.trans cU19
    have cU17 := sU18.trans cU18
    have cU16 := sU17.trans cU17
    have cU15 := sU16.trans cU16
    have cU14 := sU15.trans cU15
    have cU13 := sU14.trans cU14
    have cU12 := sU13.trans cU13
    have cU11 := sU12.trans cU12
    have cU10 := sU11.trans cU11
    have cU9 := sU10.trans cU10
    have cU8 := sU9.trans cU9
    have cU7 := sU8.trans cU8
    have cU6 := sU7.trans cU7
    have cU5 := sU6.trans cU6
    have cU4 := sU5.trans cU5
    have cU3 := sU4.trans cU4
    have cU2 := sU3.trans cU3
    have cU1 := sU2.trans cU2
    have cU0 := sU1.trans cU1
    have sR := same_new (o := .lst ([V.non, V.int 0, V.bl true, V.str (Str.ofString "int"), V.ref pU1, V.ref pU2, V.ref pU3, V.ref pU4, V.ref pU5, V.ref pU6, V.ref pU7, V.ref pU8, V.ref pU9, V.ref pU10] ++ [V.ref pU12, V.ref pU13, V.ref pU15, V.ref pU17, V.ref pU18, V.ref pU20, V.ref pU22, V.ref pU23])) hpR
    refine q pR _ _ (cU0.trans sR) ?_ upd_same (by simp) (by simp) fun y hy => ?_
    · cases e : H pR with
      | none => rfl
      | some o => rw [cU0 _ _ e] at hpR; cases hpR
    have gx0 := Gx.same (hd.same cU0) sR
    clear q
    simp only [List.mem_append, List.mem_cons, List.not_mem_nil, or_false] at hy
    rcases hy with (rfl | rfl | rfl | rfl | rfl | rfl | rfl | rfl | rfl | rfl | rfl | rfl | rfl | rfl) | (rfl | rfl | rfl | rfl | rfl | rfl | rfl | rfl)
    · exact ⟨_, _, _, _, fun Hx gx' =>
        have gx := gx0.trans gx'
        bad_k (dt := .none) .non (by decide) (fun _ e => nomatch e) (.inl ⟨.non, by decide +kernel⟩) ⟨by decide +kernel, by decide +kernel, by decide +kernel⟩ (fun z e => nomatch e)⟩
    · exact ⟨_, _, _, _, fun Hx gx' =>
        have gx := gx0.trans gx'
        bad_k (dt := .int 0) (.int _) (by decide) (fun _ e => nomatch e) (.inl ⟨(.int _), by decide +kernel⟩) ⟨by decide +kernel, by decide +kernel, by decide +kernel⟩ (fun z e => nomatch e)⟩
    · exact ⟨_, _, _, _, fun Hx gx' =>
        have gx := gx0.trans gx'
        bad_k (dt := .bool true) (.bl _) (by decide) (fun _ e => nomatch e) (.inl ⟨(.bl _), by decide +kernel⟩) ⟨by decide +kernel, by decide +kernel, by decide +kernel⟩ (fun z e => nomatch e)⟩
    · exact ⟨_, _, _, _, fun Hx gx' =>
        have gx := gx0.trans gx'
        bad_k (dt := .str (Str.ofString "int")) (.str _) (by decide) (sv_s (by decide)) (.inl ⟨(.str _), by decide +kernel⟩) ⟨by decide +kernel, by decide +kernel, by decide +kernel⟩ (fun z e => by cases e; decide)⟩
    · exact ⟨_, _, _, _, fun Hx gx' =>
        have gx := gx0.trans gx'
        have x1 := gx.tup (cU1 _ _ fU1)
        bad_t (dt := .tuple []) x1 (fun y hy => nomatch hy) (fun y hy => nomatch hy) (by first | rfl | decide +kernel) (.inl ⟨(.tup (sqt_of x1) .nil), by decide +kernel⟩) ⟨by decide +kernel, by decide +kernel, by decide +kernel⟩ (fun z e => nomatch e)⟩
    · exact ⟨_, _, _, _, fun Hx gx' =>
        have gx := gx0.trans gx'
        have x2 := gx.lst n2 (cU2 _ _ fU2)
        bad_k (dt := .list []) (.lst x2) (by decide) (fun _ e => nomatch e) (.inl ⟨(.lst (sql_of x2) .nil), by decide +kernel⟩) ⟨by decide +kernel, by decide +kernel, by decide +kernel⟩ (fun z e => nomatch e)⟩
    · exact ⟨_, _, _, _, fun Hx gx' =>
        have gx := gx0.trans gx'
        have x3 := gx.dK (cU3 _ _ fU3)
        bad_k (dt := .dict []) (.dK x3) (by decide) (fun _ e => nomatch e) (.inr (.emp x3)) ⟨by decide +kernel, by decide +kernel, by decide +kernel⟩ (fun z e => nomatch e)⟩
    · exact ⟨_, _, _, _, fun Hx gx' =>
        have gx := gx0.trans gx'
        have x4 := gx.tup (cU4 _ _ fU4)
        bad_t (dt := .tuple [.str (Str.ofString "")]) x4 (kn1 (.str _)) (st1 (sv_s (by decide))) (by first | rfl | decide +kernel) (.inl ⟨(.tup (sqt_of x4) (.cons (.str _) .nil)), by decide +kernel⟩) ⟨by decide +kernel, by decide +kernel, by decide +kernel⟩ (fun z e => nomatch e)⟩
    · exact ⟨_, _, _, _, fun Hx gx' =>
        have gx := gx0.trans gx'
        have x5 := gx.tup (cU5 _ _ fU5)
        bad_t (dt := .tuple [.str (Str.ofString "A")]) x5 (kn1 (.str _)) (st1 (sv_s (by decide))) (by first | rfl | decide +kernel) (.inl ⟨(.tup (sqt_of x5) (.cons (.str _) .nil)), by decide +kernel⟩) ⟨by decide +kernel, by decide +kernel, by decide +kernel⟩ (fun z e => nomatch e)⟩
    · exact ⟨_, _, _, _, fun Hx gx' =>
        have gx := gx0.trans gx'
        have x6 := gx.tup (cU6 _ _ fU6)
        bad_t (dt := .tuple [.str (Str.ofString "to")]) x6 (kn1 (.str _)) (st1 (sv_s (by decide))) (by first | rfl | decide +kernel) (.inl ⟨(.tup (sqt_of x6) (.cons (.str _) .nil)), by decide +kernel⟩) ⟨by decide +kernel, by decide +kernel, by decide +kernel⟩ (fun z e => nomatch e)⟩
    · exact ⟨_, _, _, _, fun Hx gx' =>
        have gx := gx0.trans gx'
        have x7 := gx.tup (cU7 _ _ fU7)
        bad_t (dt := .tuple [.str (Str.ofString "a"), .str (Str.ofString "gives")]) x7 (kn2 (.str _) (.str _)) (st2 (sv_s (by decide)) (sv_s (by decide))) (by first | rfl | decide +kernel) (.inl ⟨(.tup (sqt_of x7) (.cons (.str _) (.cons (.str _) .nil))), by decide +kernel⟩) ⟨by decide +kernel, by decide +kernel, by decide +kernel⟩ (fun z e => nomatch e)⟩
    · exact ⟨_, _, _, _, fun Hx gx' =>
        have gx := gx0.trans gx'
        have x8 := gx.tup (cU8 _ _ fU8)
        bad_t (dt := .tuple [.str (Str.ofString "ninechars")]) x8 (kn1 (.str _)) (st1 (sv_s (by decide))) (by first | rfl | decide +kernel) (.inl ⟨(.tup (sqt_of x8) (.cons (.str _) .nil)), by decide +kernel⟩) ⟨by decide +kernel, by decide +kernel, by decide +kernel⟩ (fun z e => nomatch e)⟩
    · exact ⟨_, _, _, _, fun Hx gx' =>
        have gx := gx0.trans gx'
        have x9 := gx.tup (cU9 _ _ fU9)
        bad_t (dt := .tuple [.none]) x9 (kn1 .non) (st1 (fun _ e => nomatch e)) (by first | rfl | decide +kernel) (.inl ⟨(.tup (sqt_of x9) (.cons .non .nil)), by decide +kernel⟩) ⟨by decide +kernel, by decide +kernel, by decide +kernel⟩ (fun z e => nomatch e)⟩
    · exact ⟨_, _, _, _, fun Hx gx' =>
        have gx := gx0.trans gx'
        have x10 := gx.tup (cU10 _ _ fU10)
        bad_t (dt := .tuple [.int 1]) x10 (kn1 (.int _)) (st1 (fun _ e => nomatch e)) (by first | rfl | decide +kernel) (.inl ⟨(.tup (sqt_of x10) (.cons (.int _) .nil)), by decide +kernel⟩) ⟨by decide +kernel, by decide +kernel, by decide +kernel⟩ (fun z e => nomatch e)⟩
    · exact ⟨_, _, _, _, fun Hx gx' =>
        have gx := gx0.trans gx'
        have x12 := gx.lst n12 (cU12 _ _ fU12)
        bad_k (dt := .list [.str (Str.ofString "int")]) (.lst x12) (by decide) (fun _ e => nomatch e) (.inl ⟨(.lst (sql_of x12) (.cons (.str _) .nil)), by decide +kernel⟩) ⟨by decide +kernel, by decide +kernel, by decide +kernel⟩ (fun z e => nomatch e)⟩
    · exact ⟨_, _, _, _, fun Hx gx' =>
        have gx := gx0.trans gx'
        have x13 := gx.tup (cU13 _ _ fU13)
        bad_t (dt := .tuple [.str (Str.ofString "a b")]) x13 (kn1 (.str _)) (st1 (sv_s (by decide))) (by first | rfl | decide +kernel) (.inl ⟨(.tup (sqt_of x13) (.cons (.str _) .nil)), by decide +kernel⟩) ⟨by decide +kernel, by decide +kernel, by decide +kernel⟩ (fun z e => nomatch e)⟩
    · exact ⟨_, _, _, _, fun Hx gx' =>
        have gx := gx0.trans gx'
        have x14 := gx.tup (cU14 _ _ fU14)
        have x15 := gx.tup (cU15 _ _ fU15)
        bad_t (dt := .tuple [.tuple [.str (Str.ofString "int")]]) x15 (kn1 (.tup x14)) (st1 (fun _ e => nomatch e)) (by first | rfl | decide +kernel) (.inl ⟨(.tup (sqt_of x15) (.cons (.tup (sqt_of x14) (.cons (.str _) .nil)) .nil)), by decide +kernel⟩) ⟨by decide +kernel, by decide +kernel, by decide +kernel⟩ (fun z e => nomatch e)⟩
    · exact ⟨_, _, _, _, fun Hx gx' =>
        have gx := gx0.trans gx'
        have x17 := gx.tup (cU17 _ _ fU17)
        bad_t (dt := .tuple (List.replicate 402 (.str (Str.ofString "a")))) x17 (fun y hy => by obtain ⟨z, _, rfl⟩ := List.mem_map.mp hy; exact ⟨_, .str z⟩) (fun y hy => by obtain ⟨z, hz, e⟩ := List.mem_map.mp hy; cases e; rw [List.eq_of_mem_replicate hz]; decide) (names_len (by simp)) (.inl ⟨.tup (sqt_of x17) (dpS_rep _ _), by decide +kernel⟩) (many_data _ _ (by intro c hc; revert c; decide) (by decide) (by decide)) (fun z e => nomatch e)⟩
    · exact ⟨_, _, _, _, fun Hx gx' =>
        have gx := gx0.trans gx'
        have x18 := gx.tup (cU18 _ _ fU18)
        bad_t (dt := .tuple [.str (Str.ofString "a"), .int 0]) x18 (kn2 (.str _) (.int _)) (st2 (sv_s (by decide)) (fun _ e => nomatch e)) (by first | rfl | decide +kernel) (.inl ⟨(.tup (sqt_of x18) (.cons (.str _) (.cons (.int _) .nil))), by decide +kernel⟩) ⟨by decide +kernel, by decide +kernel, by decide +kernel⟩ (fun z e => nomatch e)⟩
    · exact ⟨_, _, _, _, fun Hx gx' =>
        have gx := gx0.trans gx'
        have x19 := gx.dK (cU19 _ _ fU19)
        have x20 := gx.tup (cU20 _ _ fU20)
        bad_t (dt := .tuple [.dict []]) x20 (kn1 (.dK x19)) (st1 (fun _ e => nomatch e)) (by first | rfl | decide +kernel) (.inr (.tup (ds := [.dict []]) (sqt_of x20) rfl fun j x' d' h1 h2 => by match j, h1, h2 with | 0, h1, h2 => (cases h1; cases h2; exact (.emp x19)))) ⟨by decide +kernel, by decide +kernel, by decide +kernel⟩ (fun z e => nomatch e)⟩
    · exact ⟨_, _, _, _, fun Hx gx' =>
        have gx := gx0.trans gx'
        have x21 := gx.lst n21 (cU21 _ _ fU21)
        have x22 := gx.tup (cU22 _ _ fU22)
        bad_t (dt := .tuple [.list []]) x22 (kn1 (.lst x21)) (st1 (fun _ e => nomatch e)) (by first | rfl | decide +kernel) (.inl ⟨(.tup (sqt_of x22) (.cons (.lst (sql_of x21) .nil) .nil)), by decide +kernel⟩) ⟨by decide +kernel, by decide +kernel, by decide +kernel⟩ (fun z e => nomatch e)⟩
    · exact ⟨_, _, _, _, fun Hx gx' =>
        have gx := gx0.trans gx'
        have x23 := gx.tup (cU23 _ _ fU23)
        bad_t (dt := .tuple [.str (Str.ofString "a"), .str (Str.ofString "")]) x23 (kn2 (.str _) (.str _)) (st2 (sv_s (by decide)) (sv_s (by decide))) (by first | rfl | decide +kernel) (.inl ⟨(.tup (sqt_of x23) (.cons (.str _) (.cons (.str _) .nil))), by decide +kernel⟩) ⟨by decide +kernel, by decide +kernel, by decide +kernel⟩ (fun z e => nomatch e)⟩
end

local macro_rules | `(tactic| walk_at "rdx") => `(tactic| ((try simp only [tFld, gTup, gStar, tJs, tFmt, sFld, tSc_eq, tDGet, tMake, tMakeK]); try walk_at "rd"))
section
variable {w : World} {K : PySem.W.Frag} {mg : Str → Option Value} {base : Heap}
/-- tuples and dicts stay, lists stay lists -/
structure Lk (H H' : Hp) : Prop where
  t : ∀ a xs, H a = some (.tup xs) → H' a = some (.tup xs)
  l : ∀ a xs, H a = some (.lst xs) → ∃ ys, H' a = some (.lst ys)
  k : ∀ a l, H a = some (.dK l) → H' a = some (.dK l)
theorem Lk.of {H H' : Hp} (s : Same H H') : Lk H H' := ⟨fun a xs h => s _ _ h, fun a xs h => ⟨xs, s _ _ h⟩, fun a l h => s _ _ h⟩
theorem Lk.trans {H H1 H2 : Hp} (a : Lk H H1) (b : Lk H1 H2) : Lk H H2 := ⟨fun p xs h => b.t _ _ (a.t _ _ h), fun p xs h => let ⟨ys, e⟩ := a.l _ _ h; b.l _ _ e, fun p l h => b.k _ _ (a.k _ _ h)⟩
theorem Lk.lst {H : Hp} {p : Addr} {xs ys : List V} (h : H p = some (.lst xs)) : Lk H (upd H p (.lst ys)) := by
  refine ⟨fun a zs e => ?_, fun a zs e => ?_, fun a l e => ?_⟩
  · rw [upd_ne (fun z => by rw [z, h] at e; cases e)]
    exact e
  · by_cases z : a = p
    · rw [z]
      exact ⟨_, upd_same⟩
    · rw [upd_ne z]
      exact ⟨_, e⟩
  · rw [upd_ne (fun z => by rw [z, h] at e; cases e)]
    exact e
theorem Kn.lk {H H' : Hp} {v : V} {t : String} (g : Lk H H') (k : Kn H v t) : Kn H' v t := by
  cases k with
  | non => exact .non
  | bl b => exact .bl b
  | int i => exact .int i
  | str z => exact .str z
  | lst h => exact .lst (g.l _ _ h).choose_spec
  | tup h => exact .tup (g.t _ _ h)
  | dK h => exact .dK (g.k _ _ h)
theorem told_lk {H H' : Hp} {v : V} {xs : List V} {b : Bool} (g : Lk H H') (t : Told H v xs b) : Told H' v xs b := by
  cases t with
  | tup h k z => exact .tup (g.t _ _ h) (fun x hx => (k x hx).imp fun _ q => Kn.lk g q) z
  | oth k n => exact .oth (Kn.lk g k) n
theorem LnIs.lk {H H' : Hp} {v : V} {at_ : Nat} {b : Bool} (g : Lk H H') (h : LnIs H at_ v b) : LnIs H' at_ v b := by
  cases h with
  | oth k n => exact .oth (Kn.lk g k) n
  | short h l => exact .short (g.t _ _ h) l
  | nostr h k n => exact .nostr (g.t _ _ h) (Kn.lk g k) n
  | word h n1 n2 => exact .word (g.t _ _ h) n1 n2
  | val h t => exact .val (g.t _ _ h) (told_lk g t)
  | valL h => exact .valL (g.t _ _ h)
  | callL h l => exact .callL (g.t _ _ h) l
  | noargs h k z k2 ne => exact .noargs (g.t _ _ h) (Kn.lk g k) z (Kn.lk g k2) ne
  | args h k z hp lu ku => exact .args (g.t _ _ h) (Kn.lk g k) z (g.t _ _ hp) lu fun u hu => (ku u hu).imp fun _ q => Kn.lk g q
/-- no arguments of a call -/
def PlBad (H : Hp) (at_ : Nat) (v : V) : Prop := (∃ t, Kn H v t ∧ t ≠ "tuple") ∨ ∃ p us, v = .ref p ∧ H p = some (.tup us) ∧ us.length ≤ 1000 ∧ (∀ u ∈ us, ∃ t, Kn H u t) ∧ argsB at_ us = false
theorem PlBad.lk {H H' : Hp} {at_ : Nat} {v : V} (g : Lk H H') (h : PlBad H at_ v) : PlBad H' at_ v := by
  rcases h with ⟨t, k, n⟩ | ⟨p, us, e, h1, h2, h3, h4⟩
  · exact .inl ⟨t, Kn.lk g k, n⟩
  · exact .inr ⟨p, us, e, g.t _ _ h1, h2, fun u hu => (h3 u hu).imp fun _ q => Kn.lk g q, h4⟩
theorem PlBad.line {H : Hp} {at_ : Nat} {v : V} {a : Addr} {n : Str} (h : PlBad H at_ v) (ha : H a = some (.tup [.str wCall, .str n, v])) (hn : n.length ≤ 100) : LnIs H at_ (.ref a) false := by
  rcases h with ⟨t, k, ne⟩ | ⟨p, us, rfl, h1, h2, h3, h4⟩
  · exact .noargs ha (.str n) (fun y e => by cases e; exact sz100 (by omega)) k ne
  · have := LnIs.args (at_ := at_) ha (.str n) (fun y e => by cases e; exact sz100 (by omega)) h1 h2 h3
    rw [h4, Bool.and_false] at this
    exact this
/-- no name -/
def NaBad (H : Hp) (v : V) : Prop := ∃ t, Kn H v t ∧ nameV v = false ∧ ∀ y, v = .str y → y.length ≤ 100
theorem NaBad.lk {H H' : Hp} {v : V} (g : Lk H H') (h : NaBad H v) : NaBad H' v := let ⟨t, k, n, s⟩ := h; ⟨t, Kn.lk g k, n, s⟩
theorem NaBad.line {H : Hp} {at_ : Nat} {v : V} {a p : Addr} (h : NaBad H v) (ha : H a = some (.tup [.str wCall, v, .ref p])) (hp : H p = some (.tup [.int 0])) : LnIs H at_ (.ref a) false := by
  obtain ⟨t, k, n, s⟩ := h
  have := LnIs.args (at_ := at_) ha k (fun y e => sz100 (by have := s y e; omega)) hp (by decide) (kn1 (.int 0))
  rw [n, Bool.false_and] at this
  exact this
def inv_bl (at_ : Nat) (PF : Addr) (m : Nat) (H : Hp) : Nat → L2.St → Hp → Prop := fun i σ H' =>
  ∃ (x2 x3 : Option V) (ys : List V), σ = [some (.int at_), some (.ref PF), x2, x3, none] ∧ Same H H' ∧ H' PF = some (.lst ys) ∧ ys.length = i + m ∧ ∀ y ∈ ys, LnIs H' at_ y false
theorem big7 : PySem.intText? (Txt.mul (Str.ofString "7") 70) = some 7777777777777777777777777777777777777777777777777777777777777777777777 := by decide +kernel
theorem big_no : intV (.int 7777777777777777777777777777777777777777777777777777777777777777777777) = false := by decide +kernel
def sp_bad_lines (K : PySem.W.Frag) : Sp := fun vs H Q _ => ∃ (d : Addr) (at_ : Nat), vs = [.int at_] ∧ at_ ≤ 4 ∧ Dc H d ∧ ∀ p H' ys, Same H H' → H p = none → H' p = some (.lst ys) → ys ≠ [] → ys.length ≤ 200 → (∀ y ∈ ys, LnIs H' at_ y false) → Q (.ref p) H'
theorem ok_law_bad_lines (T : Tx K mg) : FnOk P w K mg base CX0 2 T.f__law_bad_lines T.d__law_bad_lines ["_law_at"] (sp_bad_lines K) := by
  refine T.F__law_bad_lines.ok sc_law_bad_lines (fun vs H Q E h => ?_) (fun cdv A outer s H vs Q E hr h => ?_)
  · obtain ⟨d, at_, rfl, _⟩ := h
    rfl
  · obtain ⟨d, at_, rfl, h4, hd, q⟩ := h
    refine ⟨_, (pss_cons (ps_set (i := 1) sc_law_bad_lines.nd rfl (Or.inl rfl) (pe_lst (pa_cons pe_non (pa_cons (pe_tup pa_nil) (pa_cons pe_str (pa_cons (pe_tup (pa_cons pe_str pa_nil)) (pa_cons (pe_tup (pa_cons pe_str (pa_cons (pe_tup (pa_cons pe_str pa_nil)) (pa_cons pe_int pa_nil)))) (pa_cons (pe_lst (pa_cons pe_str (pa_cons (pe_tup (pa_cons pe_str pa_nil)) pa_nil))) (pa_cons (pe_tup (pa_cons pe_str (pa_cons (pe_tup (pa_cons pe_str pa_nil)) pa_nil))) pa_nil)))))))))
      (pss_cons (ps_set (i := 1) sc_law_bad_lines.nd rfl (Or.inl rfl) (pe_op op_cat (pv 1) (pe_lst (pa_cons (pe_tup (pa_cons pe_non (pa_cons (pe_tup (pa_cons pe_str pa_nil)) pa_nil))) (pa_cons (pe_tup (pa_cons (pe_lst pa_nil) (pa_cons (pe_tup (pa_cons pe_str pa_nil)) pa_nil))) (pa_cons (pe_tup (pa_cons pe_str (pa_cons pe_str pa_nil))) (pa_cons (pe_tup (pa_cons pe_str (pa_cons pe_str (pa_cons (pe_tup (pa_cons pe_int pa_nil)) (pa_cons pe_int pa_nil))))) (pa_cons (pe_tup (pa_cons pe_str (pa_cons pe_str (pa_cons pe_int pa_nil)))) pa_nil))))))))
      (pss_cons (ps_for PassesOwn.never rfl (pi_list (pe_lst (pa_cons (pe_tup pa_nil) (pa_cons (pe_tup (pa_cons pe_int (pa_cons pe_int (pa_cons pe_int (pa_cons pe_int pa_nil))))) (pa_cons (pe_lst (pa_cons pe_int pa_nil)) (pa_cons (pe_tup (pa_cons (pv 0) pa_nil)) (pa_cons (pe_tup (pa_cons (pe_un un_neg pe_int) pa_nil)) (pa_cons (pe_tup (pa_cons pe_bl pa_nil)) (pa_cons (pe_tup (pa_cons pe_str pa_nil)) (pa_cons (pe_tup (pa_cons pe_non pa_nil)) (pa_cons (pe_tup (pa_cons (pe_lst pa_nil) pa_nil)) (pa_cons (pe_tup (pa_cons (pe_callTy call_int_str (by rfl) T.n_int (by decide +kernel) (pa_cons (pe_op op_mulS pe_str pe_int) pa_nil)) pa_nil)) pa_nil)))))))))))) (pg_name (i := 2) sc_law_bad_lines.nd rfl (Or.inl rfl)) (pss_one (ps_expr (pe_bm PySem.F.plainAttrs_list PySem.F.slot_list_append PySem.F.type_list_append mt_append (pv 1) (pa_cons (pe_tup (pa_cons pe_str (pa_cons pe_str (pa_cons (pv 2) pa_nil)))) pa_nil)))))
      (pss_cons (ps_for PassesOwn.never rfl (pi_list (pe_lst (pa_cons pe_int (pa_cons pe_non (pa_cons pe_str (pa_cons pe_str (pa_cons (pe_lst (pa_cons pe_str pa_nil)) (pa_cons pe_str (pa_cons pe_str pa_nil))))))))) (pg_name (i := 3) sc_law_bad_lines.nd rfl (Or.inl rfl)) (pss_one (ps_expr (pe_bm PySem.F.plainAttrs_list PySem.F.slot_list_append PySem.F.type_list_append mt_append (pv 1) (pa_cons (pe_tup (pa_cons pe_str (pa_cons (pv 3) (pa_cons (pe_tup (pa_cons pe_int pa_nil)) pa_nil)))) pa_nil)))))
      (pss_one (ps_ret (pe_op op_cat (pv 1) (pe_lc (own := [("_law_names", 4)]) (g := gName 4) (by rfl) sc_law_bad_lines.nd (pi_list (pe_call0 (ok_law_bad_names T) (hr.mono (by decide)) (by rfl) T.g__law_bad_names T.F__law_bad_names.kp T.b__law_bad_names .nil pass0)) (blkOk_by (own := [("_law_names", 4)]) (N := ["_law_at", "_law_found", "_law_places", "_law_name", "_law_names"]) (sc := defScope s_law_bad_lines) (by decide +kernel)) (fun _ _ _ _ _ => (pg_name (i := 4) sc_law_bad_lines.nd rfl (Or.inl rfl))) (fun _ _ _ _ _ => pts_nil) (fun _ _ _ _ _ => (pe_tup (pa_cons pe_str (pa_cons (pv 4) pa_nil)))))))))))), ?_⟩
    refine seqN fun N1 hN1 => ?_
    walk_at "rd"
    walk_at "rdx"
    refine ⟨by decide, fun pU1 hpU1 => ?_⟩
    have sU1 := same_new (o := .tup []) hpU1
    have fU1 : upd H pU1 (.tup []) pU1 = some (.tup []) := upd_same
    generalize upd H pU1 (.tup []) = U1 at *
    refine ⟨by decide, fun pU2 hpU2 => ?_⟩
    have sU2 := same_new (o := .tup [V.str (Str.ofString "value")]) hpU2
    have fU2 : upd U1 pU2 (.tup [V.str (Str.ofString "value")]) pU2 = some (.tup [V.str (Str.ofString "value")]) := upd_same
    generalize upd U1 pU2 (.tup [V.str (Str.ofString "value")]) = U2 at *
    refine ⟨by decide, fun pU3 hpU3 => ?_⟩
    have sU3 := same_new (o := .tup [V.str (Str.ofString "a")]) hpU3
    have fU3 : upd U2 pU3 (.tup [V.str (Str.ofString "a")]) pU3 = some (.tup [V.str (Str.ofString "a")]) := upd_same
    generalize upd U2 pU3 (.tup [V.str (Str.ofString "a")]) = U3 at *
    refine ⟨by decide, fun pU4 hpU4 => ?_⟩
    have sU4 := same_new (o := .tup [V.str (Str.ofString "value"), V.ref pU3, V.int 0]) hpU4
    have fU4 : upd U3 pU4 (.tup [V.str (Str.ofString "value"), V.ref pU3, V.int 0]) pU4 = some (.tup [V.str (Str.ofString "value"), V.ref pU3, V.int 0]) := upd_same
    generalize upd U3 pU4 (.tup [V.str (Str.ofString "value"), V.ref pU3, V.int 0]) = U4 at *
    refine ⟨by decide, fun pU5 hpU5 => ?_⟩
    have sU5 := same_new (o := .tup [V.str (Str.ofString "a")]) hpU5
    have fU5 : upd U4 pU5 (.tup [V.str (Str.ofString "a")]) pU5 = some (.tup [V.str (Str.ofString "a")]) := upd_same
    generalize upd U4 pU5 (.tup [V.str (Str.ofString "a")]) = U5 at *
    refine ⟨by decide, fun pU6 hpU6 => ?_⟩
    have sU6 := same_new (o := .lst [V.str (Str.ofString "value"), V.ref pU5]) hpU6
    have fU6 : upd U5 pU6 (.lst [V.str (Str.ofString "value"), V.ref pU5]) pU6 = some (.lst [V.str (Str.ofString "value"), V.ref pU5]) := upd_same
    generalize upd U5 pU6 (.lst [V.str (Str.ofString "value"), V.ref pU5]) = U6 at *
    refine ⟨by decide, fun pU7 hpU7 => ?_⟩
    have sU7 := same_new (o := .tup [V.str (Str.ofString "a")]) hpU7
    have fU7 : upd U6 pU7 (.tup [V.str (Str.ofString "a")]) pU7 = some (.tup [V.str (Str.ofString "a")]) := upd_same
    generalize upd U6 pU7 (.tup [V.str (Str.ofString "a")]) = U7 at *
    refine ⟨by decide, fun pU8 hpU8 => ?_⟩
    have sU8 := same_new (o := .tup [V.str (Str.ofString "values"), V.ref pU7]) hpU8
    have fU8 : upd U7 pU8 (.tup [V.str (Str.ofString "values"), V.ref pU7]) pU8 = some (.tup [V.str (Str.ofString "values"), V.ref pU7]) := upd_same
    generalize upd U7 pU8 (.tup [V.str (Str.ofString "values"), V.ref pU7]) = U8 at *
    refine ⟨by decide, fun pU9 hpU9 => hN1 _ _ ?_⟩
    have sU9 := same_new (o := .lst [V.non, V.ref pU1, V.str (Str.ofString "value a"), V.ref pU2, V.ref pU4, V.ref pU6, V.ref pU8]) hpU9
    have fU9 : upd U8 pU9 (.lst [V.non, V.ref pU1, V.str (Str.ofString "value a"), V.ref pU2, V.ref pU4, V.ref pU6, V.ref pU8]) pU9 = some (.lst [V.non, V.ref pU1, V.str (Str.ofString "value a"), V.ref pU2, V.ref pU4, V.ref pU6, V.ref pU8]) := upd_same
    generalize upd U8 pU9 (.lst [V.non, V.ref pU1, V.str (Str.ofString "value a"), V.ref pU2, V.ref pU4, V.ref pU6, V.ref pU8]) = U9 at *
    clear hN1
    refine seqN fun N2 hN2 => ?_
    walk_at "rd"
    walk_at "rdx"
    refine ⟨by decide, fun pU10 hpU10 => ?_⟩
    have sU10 := same_new (o := .tup [V.str (Str.ofString "a")]) hpU10
    have fU10 : upd U9 pU10 (.tup [V.str (Str.ofString "a")]) pU10 = some (.tup [V.str (Str.ofString "a")]) := upd_same
    generalize upd U9 pU10 (.tup [V.str (Str.ofString "a")]) = U10 at *
    refine ⟨by decide, fun pU11 hpU11 => ?_⟩
    have sU11 := same_new (o := .tup [V.non, V.ref pU10]) hpU11
    have fU11 : upd U10 pU11 (.tup [V.non, V.ref pU10]) pU11 = some (.tup [V.non, V.ref pU10]) := upd_same
    generalize upd U10 pU11 (.tup [V.non, V.ref pU10]) = U11 at *
    refine ⟨by decide, fun pU12 hpU12 => ?_⟩
    have sU12 := same_new (o := .lst []) hpU12
    have fU12 : upd U11 pU12 (.lst []) pU12 = some (.lst []) := upd_same
    generalize upd U11 pU12 (.lst []) = U12 at *
    refine ⟨by decide, fun pU13 hpU13 => ?_⟩
    have sU13 := same_new (o := .tup [V.str (Str.ofString "a")]) hpU13
    have fU13 : upd U12 pU13 (.tup [V.str (Str.ofString "a")]) pU13 = some (.tup [V.str (Str.ofString "a")]) := upd_same
    generalize upd U12 pU13 (.tup [V.str (Str.ofString "a")]) = U13 at *
    refine ⟨by decide, fun pU14 hpU14 => ?_⟩
    have sU14 := same_new (o := .tup [V.ref pU12, V.ref pU13]) hpU14
    have fU14 : upd U13 pU14 (.tup [V.ref pU12, V.ref pU13]) pU14 = some (.tup [V.ref pU12, V.ref pU13]) := upd_same
    generalize upd U13 pU14 (.tup [V.ref pU12, V.ref pU13]) = U14 at *
    refine ⟨by decide, fun pU15 hpU15 => ?_⟩
    have sU15 := same_new (o := .tup [V.str (Str.ofString "call"), V.str (Str.ofString "f")]) hpU15
    have fU15 : upd U14 pU15 (.tup [V.str (Str.ofString "call"), V.str (Str.ofString "f")]) pU15 = some (.tup [V.str (Str.ofString "call"), V.str (Str.ofString "f")]) := upd_same
    generalize upd U14 pU15 (.tup [V.str (Str.ofString "call"), V.str (Str.ofString "f")]) = U15 at *
    refine ⟨by decide, fun pU16 hpU16 => ?_⟩
    have sU16 := same_new (o := .tup [V.int 0]) hpU16
    have fU16 : upd U15 pU16 (.tup [V.int 0]) pU16 = some (.tup [V.int 0]) := upd_same
    generalize upd U15 pU16 (.tup [V.int 0]) = U16 at *
    refine ⟨by decide, fun pU17 hpU17 => ?_⟩
    have sU17 := same_new (o := .tup [V.str (Str.ofString "call"), V.str (Str.ofString "f"), V.ref pU16, V.int 0]) hpU17
    have fU17 : upd U16 pU17 (.tup [V.str (Str.ofString "call"), V.str (Str.ofString "f"), V.ref pU16, V.int 0]) pU17 = some (.tup [V.str (Str.ofString "call"), V.str (Str.ofString "f"), V.ref pU16, V.int 0]) := upd_same
    generalize upd U16 pU17 (.tup [V.str (Str.ofString "call"), V.str (Str.ofString "f"), V.ref pU16, V.int 0]) = U17 at *
    refine ⟨by decide, fun pU18 hpU18 => ?_⟩
    have sU18 := same_new (o := .tup [V.str (Str.ofString "call"), V.str (Str.ofString "f"), V.int 0]) hpU18
    have fU18 : upd U17 pU18 (.tup [V.str (Str.ofString "call"), V.str (Str.ofString "f"), V.int 0]) pU18 = some (.tup [V.str (Str.ofString "call"), V.str (Str.ofString "f"), V.int 0]) := upd_same
    generalize upd U17 pU18 (.tup [V.str (Str.ofString "call"), V.str (Str.ofString "f"), V.int 0]) = U18 at *
    refine ⟨by decide, fun pU19 hpU19 => ?_⟩
    have sU19 := same_new (o := .lst [V.ref pU11, V.ref pU14, V.ref pU15, V.ref pU17, V.ref pU18]) hpU19
    have fU19 : upd U18 pU19 (.lst [V.ref pU11, V.ref pU14, V.ref pU15, V.ref pU17, V.ref pU18]) pU19 = some (.lst [V.ref pU11, V.ref pU14, V.ref pU15, V.ref pU17, V.ref pU18]) := upd_same
    generalize upd U18 pU19 (.lst [V.ref pU11, V.ref pU14, V.ref pU15, V.ref pU17, V.ref pU18]) = U19 at *
    refine Lv.catL ((((((((((sU10.trans sU11).trans sU12).trans sU13).trans sU14).trans sU15).trans sU16).trans sU17).trans sU18).trans sU19) _ _ fU9) fU19 (show 12 ≤ sizeLine by decide) fun PF hPF => hN2 _ _ ?_
    clear hN2
    have cU19 := Same.refl U19
    have cU18 := sU19.trans cU19
    have cU17 := sU18.trans cU18
    have cU16 := sU17.trans cU17
    have cU15 := sU16.trans cU16
    have cU14 := sU15.trans cU15
    have cU13 := sU14.trans cU14
    have cU12 := sU13.trans cU13
    have cU11 := sU12.trans cU12
    have cU10 := sU11.trans cU11
    have cU9 := sU10.trans cU10
    have cU8 := sU9.trans cU9
    have cU7 := sU8.trans cU8
    have cU6 := sU7.trans cU7
    have cU5 := sU6.trans cU6
    have cU4 := sU5.trans cU5
    have cU3 := sU4.trans cU4
    have cU2 := sU3.trans cU3
    have cU1 := sU2.trans cU2
    have cU0 := sU1.trans cU1
    have hPF0 : H PF = none := by
      cases e : H PF with
      | none => rfl
      | some o => rw [cU0 _ _ e] at hPF; cases hPF
    have all : ∀ y ∈ [V.non, V.ref pU1, V.str (Str.ofString "value a"), V.ref pU2, V.ref pU4, V.ref pU6, V.ref pU8] ++ [V.ref pU11, V.ref pU14, V.ref pU15, V.ref pU17, V.ref pU18], LnIs U19 at_ y false := by
      intro y hy
      have x1 := cU1 _ _ fU1
      have x2 := cU2 _ _ fU2
      have x3 := cU3 _ _ fU3
      have x4 := cU4 _ _ fU4
      have x5 := cU5 _ _ fU5
      have x6 := cU6 _ _ fU6
      have x7 := cU7 _ _ fU7
      have x8 := cU8 _ _ fU8
      have x10 := cU10 _ _ fU10
      have x11 := cU11 _ _ fU11
      have x12 := cU12 _ _ fU12
      have x13 := cU13 _ _ fU13
      have x14 := cU14 _ _ fU14
      have x15 := cU15 _ _ fU15
      have x16 := cU16 _ _ fU16
      have x17 := cU17 _ _ fU17
      have x18 := cU18 _ _ fU18
      simp only [List.mem_append, List.mem_cons, List.not_mem_nil, or_false] at hy
      rcases hy with (rfl | rfl | rfl | rfl | rfl | rfl | rfl) | (rfl | rfl | rfl | rfl | rfl)
      · exact .oth .non (by decide)
      · exact .short x1 (by decide)
      · exact .oth (.str _) (by decide)
      · exact .short x2 (by decide)
      · exact .valL x4
      · exact .oth (.lst x6) (by decide)
      · exact .word x8 (by decide) (by decide)
      · exact .nostr x11 .non (by decide)
      · exact .nostr x14 (.lst x12) (by decide)
      · exact .callL x15 (by simp)
      · exact .callL x17 (by simp)
      · exact .noargs x18 (.str _) (fun y e => by cases e; decide) (.int _) (by decide)
    have sA := same_new (o := .lst ([V.non, V.ref pU1, V.str (Str.ofString "value a"), V.ref pU2, V.ref pU4, V.ref pU6, V.ref pU8] ++ [V.ref pU11, V.ref pU14, V.ref pU15, V.ref pU17, V.ref pU18])) hPF
    have fA : upd U19 PF (.lst ([V.non, V.ref pU1, V.str (Str.ofString "value a"), V.ref pU2, V.ref pU4, V.ref pU6, V.ref pU8] ++ [V.ref pU11, V.ref pU14, V.ref pU15, V.ref pU17, V.ref pU18])) PF = some (.lst ([V.non, V.ref pU1, V.str (Str.ofString "value a"), V.ref pU2, V.ref pU4, V.ref pU6, V.ref pU8] ++ [V.ref pU11, V.ref pU14, V.ref pU15, V.ref pU17, V.ref pU18])) := upd_same
    generalize upd U19 PF (.lst ([V.non, V.ref pU1, V.str (Str.ofString "value a"), V.ref pU2, V.ref pU4, V.ref pU6, V.ref pU8] ++ [V.ref pU11, V.ref pU14, V.ref pU15, V.ref pU17, V.ref pU18])) = HA at *
    have allA : ∀ y ∈ [V.non, V.ref pU1, V.str (Str.ofString "value a"), V.ref pU2, V.ref pU4, V.ref pU6, V.ref pU8] ++ [V.ref pU11, V.ref pU14, V.ref pU15, V.ref pU17, V.ref pU18], LnIs HA at_ y false := fun y hy => (all y hy).same sA
    have lnA : ([V.non, V.ref pU1, V.str (Str.ofString "value a"), V.ref pU2, V.ref pU4, V.ref pU6, V.ref pU8] ++ [V.ref pU11, V.ref pU14, V.ref pU15, V.ref pU17, V.ref pU18]).length = 12 := rfl
    generalize [V.non, V.ref pU1, V.str (Str.ofString "value a"), V.ref pU2, V.ref pU4, V.ref pU6, V.ref pU8] ++ [V.ref pU11, V.ref pU14, V.ref pU15, V.ref pU17, V.ref pU18] = found at *
    have s0A := cU0.trans sA
    clear all fU1 fU2 fU3 fU4 fU5 fU6 fU7 fU8 fU9 fU10 fU11 fU12 fU13 fU14 fU15 fU16 fU17 fU18 fU19 cU0 cU1 cU2 cU3 cU4 cU5 cU6 cU7 cU8 cU9 cU10 cU11 cU12 cU13 cU14 cU15 cU16 cU17 cU18 cU19 sU1 sU2 sU3 sU4 sU5 sU6 sU7 sU8 sU9 sU10 sU11 sU12 sU13 sU14 sU15 sU16 sU17 sU18 sU19
    refine seqN fun N3 hN3 => ?_
    walk_at "rd"
    walk_at "rdx"
    refine ⟨by decide, fun pW1 hpW1 => ?_⟩
    have sW1 := same_new (o := .tup []) hpW1
    have fW1 : upd HA pW1 (.tup []) pW1 = some (.tup []) := upd_same
    generalize upd HA pW1 (.tup []) = W1 at *
    refine ⟨by decide, fun pW2 hpW2 => ?_⟩
    have sW2 := same_new (o := .tup [V.int 0, V.int 0, V.int 0, V.int 0]) hpW2
    have fW2 : upd W1 pW2 (.tup [V.int 0, V.int 0, V.int 0, V.int 0]) pW2 = some (.tup [V.int 0, V.int 0, V.int 0, V.int 0]) := upd_same
    generalize upd W1 pW2 (.tup [V.int 0, V.int 0, V.int 0, V.int 0]) = W2 at *
    refine ⟨by decide, fun pW3 hpW3 => ?_⟩
    have sW3 := same_new (o := .lst [V.int 0]) hpW3
    have fW3 : upd W2 pW3 (.lst [V.int 0]) pW3 = some (.lst [V.int 0]) := upd_same
    generalize upd W2 pW3 (.lst [V.int 0]) = W3 at *
    refine ⟨by decide, fun pW4 hpW4 => ?_⟩
    have sW4 := same_new (o := .tup [V.int at_]) hpW4
    have fW4 : upd W3 pW4 (.tup [V.int at_]) pW4 = some (.tup [V.int at_]) := upd_same
    generalize upd W3 pW4 (.tup [V.int at_]) = W4 at *
    refine ⟨by decide, fun pW5 hpW5 => ?_⟩
    have sW5 := same_new (o := .tup [V.int (-1)]) hpW5
    have fW5 : upd W4 pW5 (.tup [V.int (-1)]) pW5 = some (.tup [V.int (-1)]) := upd_same
    generalize upd W4 pW5 (.tup [V.int (-1)]) = W5 at *
    refine ⟨by decide, fun pW6 hpW6 => ?_⟩
    have sW6 := same_new (o := .tup [V.bl true]) hpW6
    have fW6 : upd W5 pW6 (.tup [V.bl true]) pW6 = some (.tup [V.bl true]) := upd_same
    generalize upd W5 pW6 (.tup [V.bl true]) = W6 at *
    refine ⟨by decide, fun pW7 hpW7 => ?_⟩
    have sW7 := same_new (o := .tup [V.str (Str.ofString "0")]) hpW7
    have fW7 : upd W6 pW7 (.tup [V.str (Str.ofString "0")]) pW7 = some (.tup [V.str (Str.ofString "0")]) := upd_same
    generalize upd W6 pW7 (.tup [V.str (Str.ofString "0")]) = W7 at *
    refine ⟨by decide, fun pW8 hpW8 => ?_⟩
    have sW8 := same_new (o := .tup [V.non]) hpW8
    have fW8 : upd W7 pW8 (.tup [V.non]) pW8 = some (.tup [V.non]) := upd_same
    generalize upd W7 pW8 (.tup [V.non]) = W8 at *
    refine ⟨by decide, fun pW9 hpW9 => ?_⟩
    have sW9 := same_new (o := .lst []) hpW9
    have fW9 : upd W8 pW9 (.lst []) pW9 = some (.lst []) := upd_same
    generalize upd W8 pW9 (.lst []) = W9 at *
    refine ⟨by decide, fun pW10 hpW10 => ?_⟩
    have sW10 := same_new (o := .tup [V.ref pW9]) hpW10
    have fW10 : upd W9 pW10 (.tup [V.ref pW9]) pW10 = some (.tup [V.ref pW9]) := upd_same
    generalize upd W9 pW10 (.tup [V.ref pW9]) = W10 at *
    refine ⟨Str.ofString "7", 70, rfl, rfl, ⟨by decide, fun _ _ => by decide, fun _ _ => by decide +kernel⟩, _, rfl, _, big7, by decide +kernel, ?_⟩
    refine ⟨by decide, fun pW11 hpW11 => ?_⟩
    have sW11 := same_new (o := .tup [V.int 7777777777777777777777777777777777777777777777777777777777777777777777]) hpW11
    have fW11 : upd W10 pW11 (.tup [V.int 7777777777777777777777777777777777777777777777777777777777777777777777]) pW11 = some (.tup [V.int 7777777777777777777777777777777777777777777777777777777777777777777777]) := upd_same
    generalize upd W10 pW11 (.tup [V.int 7777777777777777777777777777777777777777777777777777777777777777777777]) = W11 at *
    refine ⟨by decide, fun pW12 hpW12 => ?_⟩
    have sW12 := same_new (o := .lst [V.ref pW1, V.ref pW2, V.ref pW3, V.ref pW4, V.ref pW5, V.ref pW6, V.ref pW7, V.ref pW8, V.ref pW10, V.ref pW11]) hpW12
    have fW12 : upd W11 pW12 (.lst [V.ref pW1, V.ref pW2, V.ref pW3, V.ref pW4, V.ref pW5, V.ref pW6, V.ref pW7, V.ref pW8, V.ref pW10, V.ref pW11]) pW12 = some (.lst [V.ref pW1, V.ref pW2, V.ref pW3, V.ref pW4, V.ref pW5, V.ref pW6, V.ref pW7, V.ref pW8, V.ref pW10, V.ref pW11]) := upd_same
    generalize upd W11 pW12 (.lst [V.ref pW1, V.ref pW2, V.ref pW3, V.ref pW4, V.ref pW5, V.ref pW6, V.ref pW7, V.ref pW8, V.ref pW10, V.ref pW11]) = W12 at *
    have cW12 := Same.refl W12
    have cW11 := sW12.trans cW12
    have cW10 := sW11.trans cW11
    have cW9 := sW10.trans cW10
    have cW8 := sW9.trans cW9
    have cW7 := sW8.trans cW8
    have cW6 := sW7.trans cW7
    have cW5 := sW6.trans cW6
    have cW4 := sW5.trans cW5
    have cW3 := sW4.trans cW4
    have cW2 := sW3.trans cW3
    have cW1 := sW2.trans cW2
    have cW0 := sW1.trans cW1
    have bad : ∀ y ∈ [V.ref pW1, V.ref pW2, V.ref pW3, V.ref pW4, V.ref pW5, V.ref pW6, V.ref pW7, V.ref pW8, V.ref pW10, V.ref pW11], PlBad W12 at_ y := by
      intro y hy
      have x1 := cW1 _ _ fW1
      have x2 := cW2 _ _ fW2
      have x3 := cW3 _ _ fW3
      have x4 := cW4 _ _ fW4
      have x5 := cW5 _ _ fW5
      have x6 := cW6 _ _ fW6
      have x7 := cW7 _ _ fW7
      have x8 := cW8 _ _ fW8
      have x9 := cW9 _ _ fW9
      have x10 := cW10 _ _ fW10
      have x11 := cW11 _ _ fW11
      simp only [List.mem_cons, List.not_mem_nil, or_false] at hy
      rcases hy with rfl | rfl | rfl | rfl | rfl | rfl | rfl | rfl | rfl | rfl
      · exact .inr ⟨_, _, rfl, x1, by simp, (fun u hu => nomatch hu), by simp [argsB, inV3]⟩
      · exact .inr ⟨_, _, rfl, x2, by simp, (fun u hu => ⟨"int", by simp only [List.mem_cons, List.not_mem_nil, or_false, or_self] at hu; rw [hu]; exact .int _⟩), by simp [argsB, inV3]⟩
      · exact .inl ⟨_, (.lst x3), by decide⟩
      · exact .inr ⟨_, _, rfl, x4, by simp, (kn1 (.int _)), by have h := decide_eq_false (show ¬ ((at_ : Int) ≤ (at_ : Int) - 1) by omega); simp [argsB, inV3, h]⟩
      · exact .inr ⟨_, _, rfl, x5, by simp, (kn1 (.int _)), by simp [argsB, inV3]⟩
      · exact .inr ⟨_, _, rfl, x6, by simp, (kn1 (.bl _)), by simp [argsB, inV3]⟩
      · exact .inr ⟨_, _, rfl, x7, by simp, (kn1 (.str _)), by simp [argsB, inV3]⟩
      · exact .inr ⟨_, _, rfl, x8, by simp, (kn1 .non), by simp [argsB, inV3]⟩
      · exact .inr ⟨_, _, rfl, x10, by simp, (kn1 (.lst x9)), by simp [argsB, inV3]⟩
      · exact .inr ⟨_, _, rfl, x11, by simp, (kn1 (.int _)), by simp [argsB, inV3, big_no]⟩
    have fW := cW0 _ _ fA
    have allW : ∀ y ∈ found, LnIs W12 at_ y false := fun y hy => (allA y hy).same cW0
    have s0W := s0A.trans cW0
    have fL := fW12
    have lB : [V.ref pW1, V.ref pW2, V.ref pW3, V.ref pW4, V.ref pW5, V.ref pW6, V.ref pW7, V.ref pW8, V.ref pW10, V.ref pW11].length = 10 := rfl
    generalize [V.ref pW1, V.ref pW2, V.ref pW3, V.ref pW4, V.ref pW5, V.ref pW6, V.ref pW7, V.ref pW8, V.ref pW10, V.ref pW11] = places at *
    clear allA fW1 fW2 fW3 fW4 fW5 fW6 fW7 fW8 fW9 fW10 fW11 fW12 cW0 cW1 cW2 cW3 cW4 cW5 cW6 cW7 cW8 cW9 cW10 cW11 cW12 sW1 sW2 sW3 sW4 sW5 sW6 sW7 sW8 sW9 sW10 sW11 sW12
    refine ⟨⟨_, sql_of fL⟩, forB walk_list (fun i σ H' => inv_bl at_ PF 12 H i σ H' ∧ Lk W12 H' ∧ H' pW12 = some (.lst places)) ⟨⟨_, _, found, rfl, s0W, fW, by omega, allW⟩, Lk.of (Same.refl _), fL⟩ (fun i σ H' _ h => sql_of h.2.2) ?_ ?_⟩
    · rintro i x σ Ha Hb hi ⟨⟨x2, x3, ys, rfl, sa, hL, ll, ly⟩, lk, hW⟩ ⟨rfl, hx⟩
      walk_at "rd"
      walk_at "rdx"
      have pb := (bad x (List.mem_of_getElem? hx)).lk lk
      refine ⟨tyl (sql_of hL), by decide, fun p hp => ?_⟩
      have sc := same_new (o := .tup [V.str (Str.ofString "call"), V.str (Str.ofString "f"), x]) hp
      have fc : upd Hb p (.tup [V.str (Str.ofString "call"), V.str (Str.ofString "f"), x]) p = some (.tup [V.str (Str.ofString "call"), V.str (Str.ofString "f"), x]) := upd_same
      generalize upd Hb p (.tup [V.str (Str.ofString "call"), V.str (Str.ofString "f"), x]) = Hc at *
      have hLc := sc _ _ hL
      have lkc := Lk.lst (ys := ys ++ [V.ref p]) hLc
      have neW : pW12 ≠ PF := fun e => by rw [e] at hW; rw [hL] at hW; injection hW with hW; injection hW with hW; subst hW; omega
      refine ⟨PF, ys, _, rfl, rfl, hLc, sz100' (by omega), ⟨_, _, ys ++ [V.ref p], rfl, same_mut (sa.trans sc) hPF0, upd_same, by rw [List.length_append, ll, List.length_singleton], fun y hy => ?_⟩, lk.trans ((Lk.of sc).trans lkc), ?_⟩
      · rcases List.mem_append.mp hy with hy | hy
        · exact ((ly y hy).same sc).lk lkc
        · rw [List.mem_singleton.mp hy]
          exact ((pb.lk (Lk.of sc)).line fc (by decide)).lk lkc
      · rw [upd_ne neW]
        exact sc _ _ hW
    rintro σ HC ⟨⟨x2, x3, ys, rfl, sC, hLC, llC, lyC⟩, _, _⟩
    refine hN3 _ _ ?_
    clear hN3 bad allW fW fL s0W
    refine seqN fun N4 hN4 => ?_
    walk_at "rd"
    walk_at "rdx"
    refine ⟨by decide, fun pY1 hpY1 => ?_⟩
    have sY1 := same_new (o := .lst [V.str (Str.ofString "f")]) hpY1
    have fY1 : upd HC pY1 (.lst [V.str (Str.ofString "f")]) pY1 = some (.lst [V.str (Str.ofString "f")]) := upd_same
    generalize upd HC pY1 (.lst [V.str (Str.ofString "f")]) = Y1 at *
    refine ⟨by decide, fun pY2 hpY2 => ?_⟩
    have sY2 := same_new (o := .lst [V.int 0, V.non, V.str (Str.ofString "F"), V.str (Str.ofString "to"), V.ref pY1, V.str (Str.ofString "ninechars"), V.str (Str.ofString "")]) hpY2
    have fY2 : upd Y1 pY2 (.lst [V.int 0, V.non, V.str (Str.ofString "F"), V.str (Str.ofString "to"), V.ref pY1, V.str (Str.ofString "ninechars"), V.str (Str.ofString "")]) pY2 = some (.lst [V.int 0, V.non, V.str (Str.ofString "F"), V.str (Str.ofString "to"), V.ref pY1, V.str (Str.ofString "ninechars"), V.str (Str.ofString "")]) := upd_same
    generalize upd Y1 pY2 (.lst [V.int 0, V.non, V.str (Str.ofString "F"), V.str (Str.ofString "to"), V.ref pY1, V.str (Str.ofString "ninechars"), V.str (Str.ofString "")]) = Y2 at *
    have cY2 := Same.refl Y2
    have cY1 := sY2.trans cY2
    have cY0 := sY1.trans cY1
    have bad : ∀ y ∈ [V.int 0, V.non, V.str (Str.ofString "F"), V.str (Str.ofString "to"), V.ref pY1, V.str (Str.ofString "ninechars"), V.str (Str.ofString "")], NaBad Y2 y := by
      intro y hy
      have x1 := cY1 _ _ fY1
      simp only [List.mem_cons, List.not_mem_nil, or_false] at hy
      rcases hy with rfl | rfl | rfl | rfl | rfl | rfl | rfl
      · exact ⟨_, (.int _), by first | rfl | decide +kernel, (fun _ e => nomatch e)⟩
      · exact ⟨_, .non, by first | rfl | decide +kernel, (fun _ e => nomatch e)⟩
      · exact ⟨_, (.str _), by first | rfl | decide +kernel, sv_s (by decide)⟩
      · exact ⟨_, (.str _), by first | rfl | decide +kernel, sv_s (by decide)⟩
      · exact ⟨_, (.lst x1), by first | rfl | decide +kernel, (fun _ e => nomatch e)⟩
      · exact ⟨_, (.str _), by first | rfl | decide +kernel, sv_s (by decide)⟩
      · exact ⟨_, (.str _), by first | rfl | decide +kernel, sv_s (by decide)⟩
    have fW := cY0 _ _ hLC
    have allW : ∀ y ∈ ys, LnIs Y2 at_ y false := fun y hy => (lyC y hy).same cY0
    have s0W := sC.trans cY0
    have fL := fY2
    have lB : [V.int 0, V.non, V.str (Str.ofString "F"), V.str (Str.ofString "to"), V.ref pY1, V.str (Str.ofString "ninechars"), V.str (Str.ofString "")].length = 7 := rfl
    generalize [V.int 0, V.non, V.str (Str.ofString "F"), V.str (Str.ofString "to"), V.ref pY1, V.str (Str.ofString "ninechars"), V.str (Str.ofString "")] = nms at *
    clear lyC fY1 fY2 cY0 cY1 cY2 sY1 sY2
    refine ⟨⟨_, sql_of fL⟩, forB walk_list (fun i σ H' => inv_bl at_ PF 22 H i σ H' ∧ Lk Y2 H' ∧ H' pY2 = some (.lst nms)) ⟨⟨_, _, ys, rfl, s0W, fW, by omega, allW⟩, Lk.of (Same.refl _), fL⟩ (fun i σ H' _ h => sql_of h.2.2) ?_ ?_⟩
    · rintro i x σ Ha Hb hi ⟨⟨x2, x3, ys, rfl, sa, hL, ll, ly⟩, lk, hW⟩ ⟨rfl, hx⟩
      walk_at "rd"
      walk_at "rdx"
      have pb := (bad x (List.mem_of_getElem? hx)).lk lk
      refine ⟨tyl (sql_of hL), by decide, fun p hp => ?_⟩
      have sc := same_new (o := .tup [V.int 0]) hp
      have fc : upd Hb p (.tup [V.int 0]) p = some (.tup [V.int 0]) := upd_same
      generalize upd Hb p (.tup [V.int 0]) = Hc at *
      refine ⟨by decide, fun p' hp' => ?_⟩
      have sd := same_new (o := .tup [V.str (Str.ofString "call"), x, V.ref p]) hp'
      have fd : upd Hc p' (.tup [V.str (Str.ofString "call"), x, V.ref p]) p' = some (.tup [V.str (Str.ofString "call"), x, V.ref p]) := upd_same
      generalize upd Hc p' (.tup [V.str (Str.ofString "call"), x, V.ref p]) = Hd at *
      have scd := sc.trans sd
      have hLc := scd _ _ hL
      have lkc := Lk.lst (ys := ys ++ [V.ref p']) hLc
      have neW : pY2 ≠ PF := fun e => by rw [e] at hW; rw [hL] at hW; injection hW with hW; injection hW with hW; subst hW; omega
      refine ⟨PF, ys, _, rfl, rfl, hLc, sz100' (by omega), ⟨_, _, ys ++ [V.ref p'], rfl, same_mut (sa.trans scd) hPF0, upd_same, by rw [List.length_append, ll, List.length_singleton], fun y hy => ?_⟩, lk.trans ((Lk.of scd).trans lkc), ?_⟩
      · rcases List.mem_append.mp hy with hy | hy
        · exact ((ly y hy).same scd).lk lkc
        · rw [List.mem_singleton.mp hy]
          exact ((pb.lk (Lk.of scd)).line fd (sd _ _ fc)).lk lkc
      · rw [upd_ne neW]
        exact scd _ _ hW
    rintro σ HD ⟨⟨x2, x3, zs, rfl, sD, hLD, llD, lyD⟩, _, _⟩
    refine hN4 _ _ ?_
    clear hN4 bad allW fW fL s0W
    walk_at "rd"
    walk_at "rdx"
    refine ⟨d, rfl, hd.same sD, fun pb HE bs sE hpb fE nb lb bsB => ?_⟩
    refine ⟨pb, rfl, ⟨_, sql_of fE⟩, lc_mon walk_list (fun i v H' => ∃ y a, bs[i]? = some y ∧ v = .ref a ∧ H' a = some (.tup [.str wValue, y])) (fun i y H H' st h => let ⟨y, a, h1, h2, h3⟩ := h; ⟨y, a, h1, h2, st _ _ h3⟩) (sz100 (by omega)) (fun H' s => sql_of (s _ _ fE)) ?_ mono_name mono_yes ?_⟩
    · rintro i x Ha Hb hi hS ⟨rfl, hx⟩ R hR
      walk_at "rd"
      walk_at "rdx"
      refine ⟨by decide, fun p hp => ?_⟩
      have sc := same_new (o := .tup [V.str (Str.ofString "value"), x]) hp
      have fc : upd Hb p (.tup [V.str (Str.ofString "value"), x]) p = some (.tup [V.str (Str.ofString "value"), x]) := upd_same
      generalize upd Hb p (.tup [V.str (Str.ofString "value"), x]) = Hc at *
      exact hR _ _ sc ⟨x, p, hx, rfl, fc⟩
    intro HF D vs sF hD lv pv fD
    have sEF := sE.trans sF
    have gxF : Gx d HE HF := Gx.same (hd.same (sD.trans sE)) sF
    refine Lv.catL (sEF _ _ hLD) fD (sz100 (by omega)) fun pz hpz => ?_
    have allF : ∀ y ∈ zs ++ vs, LnIs HF at_ y false := fun y hy => by
      rcases List.mem_append.mp hy with hy | hy
      · exact (lyD y hy).same sEF
      · obtain ⟨j, hj⟩ := List.mem_iff_getElem?.mp hy
        obtain ⟨z, a, h1, rfl, h3⟩ := pv j y hj
        obtain ⟨xs, b, t, dt, bad'⟩ := bsB z (List.mem_of_getElem? h1)
        have bad := bad' HF gxF
        have := LnIs.val (at_ := at_) h3 bad.td
        rw [bad.no] at this
        exact this
    have hpz0 : H pz = none := by
      cases e : H pz with
      | none => rfl
      | some o => rw [(sD.trans sEF) _ _ e] at hpz; cases hpz
    have sG := same_new (o := .lst (zs ++ vs)) hpz
    have fG : upd HF pz (.lst (zs ++ vs)) pz = some (.lst (zs ++ vs)) := upd_same
    generalize upd HF pz (.lst (zs ++ vs)) = HG at *
    refine q pz HG _ ((sD.trans sEF).trans sG) hpz0 fG (fun e => ?_) (by rw [List.length_append]; omega) fun y hy => (allF y hy).same sG
    have := congrArg List.length e
    rw [List.length_append, List.length_nil] at this
    omega
end

set_option pp.maxSteps 3000

local macro_rules | `(tactic| walk_at "rdx") => `(tactic| ((try simp only [tFld, gTup, gStar, tJs, tFmt, sFld, tSc_eq, tDGet, tMake, tMakeK, ClX.tCMeth]); try walk_at "rd"))
section
variable {w : World} {K : PySem.W.Frag} {mg : Str → Option Value} {base : Heap}
def cd0 : Cd := ⟨Str.ofString "f", [(false, [Str.ofString "a"])], ([Str.ofString "a"], none)⟩
theorem parse0 : parseC (Str.ofString "f(a) gives a") = some cd0 := by decide +kernel
section
variable {J : It} {G : Hp → Prop} {g : TG} {tt : TT} {te : TE} {vs : List Nat} {σ : L2.St} {H1 : Hp} {Q : VK}
/-- a comprehension whose test is never met -/
theorem lc_none {L : List (Addr × Str)} {d : Addr} {xs : List V} (w : Walk J xs.length G (YAt xs)) (h0 : Dc H1 d) (hT : LamX.Tabs L H1) (hG : ∀ H, Gt L d H1 H → G H)
    (hs : ∀ x H, x ∈ xs → Gt L d H1 H → ∀ (C : VK) (C' : Hp → Prop), (∀ H4, Gt L d H H4 → C' H4) →
      g x (wipe σ vs) H fun σ2 H2 => wipe σ2 vs = wipe σ vs ∧ tt σ2 H2 fun b H3 => if b = true then te σ2 H3 C else C' H3)
    (hd : ∀ H D, Gt L d H1 H → D ≠ d → H1 D = none → H D = some (.lst []) → Q (.ref D) H) : LcB J g tt te vs σ Q H1 := by
  intro D hD
  have nD : D ≠ d := h0.ne hD
  refine lc_it w (fun i H => Gt L d H1 H ∧ H D = some (.lst [])) ⟨(Gt.refl h0 hT).same (same_new hD), upd_same⟩ (fun i H _ h => hG H h.1) ?_ (fun H h => hd H D h.1 nD hD h.2)
  rintro i x H H' hi ⟨hg, hL⟩ ⟨rfl, hx⟩
  exact hs x H' (List.mem_of_getElem? hx) hg _ _ fun H4 g4 => ⟨hg.trans g4, g4.lst nD hL⟩
end
theorem gx_of {T : List (Addr × Str)} {d : Addr} {H H' : Hp} (g : Gt T d H H') : Gx d H H' := ⟨g.pre, g.keep, g.dice⟩
/-- a value that is no library -/
def OdL (CC : Addr) (H : Hp) (v : V) : Prop := (∃ t, Kn H v t) ∨ ∃ a dx fs, v = .ref a ∧ H a = some (.ins CC dx fs)
theorem OdL.gx {CC d : Addr} {H H' : Hp} {v : V} (g : Gx d H H') (h : OdL CC H v) : OdL CC H' v := by
  rcases h with ⟨t, k⟩ | ⟨a, dx, fs, e, h⟩
  · exact .inl ⟨t, Kn.gx g k⟩
  · obtain ⟨x, y, z, hd⟩ := g.pre
    exact .inr ⟨a, dx, fs, e, g.keep _ _ (fun q => by rw [q, hd] at h; cases h) (fun ps q => nomatch q) h⟩
theorem OdL.no (T : Tx K mg) {H : Hp} {v : V} (h : OdL T.C_Candidate H v) : NoLib K T.C_Library H v := by
  rcases h with ⟨t, k⟩ | ⟨a, dx, fs, rfl, h⟩
  · refine ⟨_, k.ty, ?_⟩
    cases k
    · exact T.zn_Library
    · exact T.zb_Library
    · exact T.zi_Library
    · exact T.zs_Library
    · exact T.zl_Library
    · exact T.zt_Library
    · exact T.zd_Library
  · exact ⟨_, T.tyC h, T.kit_Candidate_Library⟩
theorem Tx.tyL (T : Tx K mg) {H : Hp} {a dx : Addr} {fs : List (Str × V)} (h : H a = some (.ins T.C_Library dx fs)) : TyX K H (.ref a) (.ref T.C_Library) := .base (.ins h T.cl_Library T.ha_Library T.hn_Library T.ht_Library T.ob_Library)
/-- a value that is no name -/
def OdN (CL : Addr) (H : Hp) (v : V) : Prop := NaBad H v ∨ ∃ a dx fs, v = .ref a ∧ H a = some (.ins CL dx fs)
theorem ins_gx {C d a dx : Addr} {fs : List (Str × V)} {H H' : Hp} (g : Gx d H H') (h : H a = some (.ins C dx fs)) : H' a = some (.ins C dx fs) := by
  obtain ⟨x, y, z, hd⟩ := g.pre
  exact g.keep _ _ (fun q => by rw [q, hd] at h; cases h) (fun ps q => nomatch q) h
theorem OdN.gx {CL d : Addr} {H H' : Hp} {v : V} (g : Gx d H H') (h : OdN CL H v) : OdN CL H' v := by
  rcases h with ⟨t, k, n, z⟩ | ⟨a, dx, fs, e, h⟩
  · exact .inl ⟨t, Kn.gx g k, n, z⟩
  · exact .inr ⟨a, dx, fs, e, ins_gx g h⟩
theorem OdN.is (T : Tx K mg) {H : Hp} {v : V} (h : OdN T.C_Library H v) : NmIs K H v false := by
  rcases h with ⟨t, k, n, z⟩ | ⟨a, dx, fs, rfl, h⟩
  · have := NmIs.kn (K := K) k fun y e => sz100 (by have := z y e; omega)
    rw [n] at this
    exact this
  · exact .no ⟨_, T.tyL h, T.zc_Library⟩
/-- a value that is no tuple, or the tuple of what is no line -/
def OdP (CL : Addr) (H : Hp) (v : V) : Prop := (∃ t, Kn H v t ∧ t ≠ "tuple") ∨ (∃ a dx fs, v = .ref a ∧ H a = some (.ins CL dx fs)) ∨ ∃ a xs, v = .ref a ∧ H a = some (.tup xs) ∧ xs.length ≤ 8000 ∧ ∃ f, (∀ i x, xs[i]? = some x → LnIs H i x (f i)) ∧ (List.range xs.length).all f = false
def OdP0 (CL : Addr) (H : Hp) (v : V) : Prop := OdP CL H v ∨ ∃ a, v = .ref a ∧ H a = some (.tup [])
theorem OdP0.gx {CL d : Addr} {H H' : Hp} {v : V} (g : Gx d H H') (h : OdP0 CL H v) : OdP0 CL H' v := by
  rcases h with (⟨t, k, n⟩ | ⟨a, dx, fs, e, h⟩ | ⟨a, xs, e, h, l, f, h2, h3⟩) | ⟨a, e, h⟩
  · exact .inl (.inl ⟨t, Kn.gx g k, n⟩)
  · exact .inl (.inr (.inl ⟨a, dx, fs, e, ins_gx g h⟩))
  · exact .inl (.inr (.inr ⟨a, xs, e, g.tup h, l, f, fun i x e => LnIs.gx g (h2 i x e), h3⟩))
  · exact .inr ⟨a, e, g.tup h⟩
theorem kitB_tup {H : Hp} {v : V} {t : String} (k : Kn H v t) (n : t ≠ "tuple") : NoTup K H v := ⟨_, k.ty, kit_ty (kit_ntup k n)⟩
theorem OdP0.is (T : Tx K mg) {H : Hp} {v : V} (h : OdP0 T.C_Library H v) : PrIs K H v false := by
  rcases h with (⟨t, k, n⟩ | ⟨a, dx, fs, rfl, h⟩ | ⟨a, xs, rfl, h, l, f, h2, h3⟩) | ⟨a, rfl, h⟩
  · exact .oth (kitB_tup k n)
  · exact .oth ⟨_, T.tyL h, T.zu_Library⟩
  · by_cases lo : 1 ≤ xs.length
    · have := PrIs.tup (K := K) h lo l h2
      rw [h3] at this
      exact this
    · exact .len h (fun z => lo z.1)
  · exact .len h (by simp)
abbrev gdD : PyData := .tuple [.str (Str.ofString "int"), .str (Str.ofString "box")]
abbrev gdL : List V := [V.str (Str.ofString "int"), V.str (Str.ofString "box")]
theorem gd_dp {H : Hp} {a : Addr} (h : H a = some (.tup gdL)) : Dp K H (.ref a) gdD := .tup (sqt_of h) (.cons (.str _) (.cons (.str _) .nil))
theorem gd_nl {H : Hp} {a : Addr} (h : H a = some (.tup gdL)) : Nl K H (.ref a) gdD := .tup (sqt_of h) rfl fun j x d h1 h2 => by
  match j, h1, h2 with
  | 0, h1, h2 => (cases h1; cases h2; exact .str _)
  | 1, h1, h2 => (cases h1; cases h2; exact .str _)
theorem gd_sz : Sz gdD 5 6000 := ⟨by decide +kernel, by decide +kernel, by decide +kernel⟩
theorem gd_told {H : Hp} {a : Addr} (h : H a = some (.tup gdL)) : Told H (.ref a) gdL true := .tup h (kn2 (.str _) (.str _)) (fun y hy => sz100 (Nat.le_trans (st2 (n := 100) (sv_s (by decide)) (sv_s (by decide)) y hy) (by decide)))
theorem gd_ok : (true && namesV gdL 1 401) = true := by decide +kernel
theorem sz_tup {ds : List PyData} (h : ∀ d ∈ ds, Sz d 5 6000) (l : ds.length ≤ 4) : Sm (.tuple ds) := by
  have := Sz.tuple h
  exact this.sm (by decide) (by omega) (fun z e => nomatch e)
def TsW (K : PySem.W.Frag) (H : Hp) (v : V) (dt : PyData) : Prop := TsIs H v false ∧ Vz K H v dt ∧ Sm dt
/-- no tuple of types, and what is shown of it; it stays so -/
def TsS (K : PySem.W.Frag) (d : Addr) (H : Hp) (v : V) : Prop := ∃ dt, ∀ H', Gx d H H' → TsW K H' v dt
theorem TsS.gx {d : Addr} {H H' : Hp} {v : V} (h : TsS K d H v) (g : Gx d H H') : TsS K d H' v := let ⟨dt, k⟩ := h; ⟨dt, fun H2 g2 => k H2 (g.trans g2)⟩
section
variable {H : Hp} {a g : Addr} {v : V} {xs : List V} {b : Bool} {t : String} {dt : PyData}
theorem ts_bad1 (h : H a = some (.tup [v])) (k : BadF K H v xs b t dt) : TsW K H (.ref a) (.tuple [dt]) := by
  refine ⟨.bad (f := fun _ => false) h (by simp) (by simp) (fun i x e => ?_) rfl, ?_, sz_tup (fun d hd => by rw [List.mem_singleton.mp hd]; exact k.sz) (by simp)⟩
  · match i, e with
    | 0, e => (cases e; exact ⟨_, _, k.td, k.no.symm⟩)
  · rcases k.vz with ⟨dp, nd⟩ | nl
    · exact .inl ⟨.tup (sqt_of h) (.cons dp .nil), by simp [PyData.hasDict, PyData.hasDictAll, nd]⟩
    · exact .inr (.tup (sqt_of h) rfl fun j x' d' h1 h2 => by match j, h1, h2 with | 0, h1, h2 => (cases h1; cases h2; exact nl))
theorem ts_bad2 (hg : H g = some (.tup gdL)) (h : H a = some (.tup [.ref g, v])) (k : BadF K H v xs b t dt) : TsW K H (.ref a) (.tuple [gdD, dt]) := by
  refine ⟨.bad (f := fun i => decide (i = 0)) h (by simp) (by simp) (fun i x e => ?_) rfl, ?_, sz_tup (fun d hd => ?_) (by simp)⟩
  · match i, e with
    | 0, e => (cases e; exact ⟨_, _, gd_told hg, gd_ok.symm⟩)
    | 1, e => (cases e; exact ⟨_, _, k.td, k.no.symm⟩)
  · rcases k.vz with ⟨dp, nd⟩ | nl
    · exact .inl ⟨.tup (sqt_of h) (.cons (gd_dp hg) (.cons dp .nil)), by simp [PyData.hasDict, PyData.hasDictAll, nd]⟩
    · exact .inr (.tup (sqt_of h) rfl fun j x' d' h1 h2 => by
        match j, h1, h2 with
        | 0, h1, h2 => (cases h1; cases h2; exact gd_nl hg)
        | 1, h1, h2 => (cases h1; cases h2; exact nl))
  · simp only [List.mem_cons, List.not_mem_nil, or_false] at hd
    rcases hd with rfl | rfl
    · exact gd_sz
    · exact k.sz
theorem ts_bad3 (hg : H g = some (.tup gdL)) (h : H a = some (.tup [v, .ref g, .ref g])) (k : BadF K H v xs b t dt) : TsW K H (.ref a) (.tuple [dt, gdD, gdD]) := by
  refine ⟨.bad (f := fun i => decide (i ≠ 0)) h (by simp) (by simp) (fun i x e => ?_) rfl, ?_, sz_tup (fun d hd => ?_) (by simp)⟩
  · match i, e with
    | 0, e => (cases e; exact ⟨_, _, k.td, k.no.symm⟩)
    | 1, e => (cases e; exact ⟨_, _, gd_told hg, gd_ok.symm⟩)
    | 2, e => (cases e; exact ⟨_, _, gd_told hg, gd_ok.symm⟩)
  · rcases k.vz with ⟨dp, nd⟩ | nl
    · exact .inl ⟨.tup (sqt_of h) (.cons dp (.cons (gd_dp hg) (.cons (gd_dp hg) .nil))), by simp [PyData.hasDict, PyData.hasDictAll, nd]⟩
    · exact .inr (.tup (sqt_of h) rfl fun j x' d' h1 h2 => by
        match j, h1, h2 with
        | 0, h1, h2 => (cases h1; cases h2; exact nl)
        | 1, h1, h2 => (cases h1; cases h2; exact gd_nl hg)
        | 2, h1, h2 => (cases h1; cases h2; exact gd_nl hg))
  · simp only [List.mem_cons, List.not_mem_nil, or_false] at hd
    rcases hd with rfl | rfl | rfl
    · exact k.sz
    · exact gd_sz
    · exact gd_sz
theorem ts_oth (k : Kn H v t) (n : t ≠ "tuple") (z : Vz K H v dt) (s : Sm dt) : TsW K H v dt := ⟨.oth k n, z, s⟩
theorem ts_good (hg : H g = some (.tup gdL)) : TsW K H (.ref g) gdD := by
  refine ⟨.bad (f := fun _ => false) hg (by simp) (by simp) (fun i x e => ?_) rfl, .inl ⟨gd_dp hg, by decide +kernel⟩, gd_sz.sm (by decide) (by decide) (fun z e => nomatch e)⟩
  match i, e with
  | 0, e => (cases e; exact ⟨[], false, .oth (.str _) (by decide), rfl⟩)
  | 1, e => (cases e; exact ⟨[], false, .oth (.str _) (by decide), rfl⟩)
theorem ts_four (hg : H g = some (.tup gdL)) (h : H a = some (.tup [.ref g, .ref g, .ref g, .ref g])) : TsW K H (.ref a) (.tuple [gdD, gdD, gdD, gdD]) :=
  ⟨.len h (by simp), .inl ⟨.tup (sqt_of h) (.cons (gd_dp hg) (.cons (gd_dp hg) (.cons (gd_dp hg) (.cons (gd_dp hg) .nil)))), by decide +kernel⟩, sz_tup (fun d hd => by
    simp only [List.mem_cons, List.not_mem_nil, or_false, or_self] at hd
    rw [hd]
    exact gd_sz) (by simp)⟩
theorem ts_list (hg : H g = some (.tup gdL)) (h : H a = some (.lst [.ref g])) : TsW K H (.ref a) (.list [gdD]) :=
  ⟨.oth (.lst h) (by decide), .inl ⟨.lst (sql_of h) (.cons (gd_dp hg) .nil), by decide +kernel⟩, by decide +kernel, by decide +kernel, by decide +kernel, fun z e => nomatch e⟩
end
/-- the four lines of a right program -/
structure L4 (H : Hp) (l0 l1 l2 l3 g a p q : Addr) : Prop where
  e0 : H l0 = some (.tup [.str wValue, .ref g])
  e1 : H l1 = some (.tup [.str wCall, .str (Str.ofString "f"), .ref p])
  e2 : H l2 = some (.tup [.str wValue, .ref a])
  e3 : H l3 = some (.tup [.str wCall, .str (Str.ofString "call"), .ref q])
  eg : H g = some (.tup gdL)
  ea : H a = some (.tup [.str (Str.ofString "a")])
  ep : H p = some (.tup [.int 0])
  eq : H q = some (.tup [.int 1, .int 0, .int 2])
theorem L4.gx {d : Addr} {H H' : Hp} {l0 l1 l2 l3 g a p q : Addr} (k : Gx d H H') (h : L4 H l0 l1 l2 l3 g a p q) : L4 H' l0 l1 l2 l3 g a p q :=
  ⟨k.tup h.e0, k.tup h.e1, k.tup h.e2, k.tup h.e3, k.tup h.eg, k.tup h.ea, k.tup h.ep, k.tup h.eq⟩
section
variable {H : Hp} {l0 l1 l2 l3 g a p q : Addr}
theorem L4.v0 (h : L4 H l0 l1 l2 l3 g a p q) (j : Nat) : LnIs H j (.ref l0) true := by
  have := LnIs.val (at_ := j) h.e0 (gd_told h.eg)
  rwa [gd_ok] at this
theorem L4.v2 (h : L4 H l0 l1 l2 l3 g a p q) (j : Nat) : LnIs H j (.ref l2) true := by
  have := LnIs.val (at_ := j) h.e2 (Told.tup (xs := [.str (Str.ofString "a")]) h.ea (kn1 (.str _)) (fun y hy => sz100 (Nat.le_trans (st1 (n := 100) (sv_s (by decide)) y hy) (by decide))))
  rwa [show (true && namesV [.str (Str.ofString "a")] 1 401) = true by decide +kernel] at this
theorem L4.c1 (h : L4 H l0 l1 l2 l3 g a p q) (j : Nat) : LnIs H j (.ref l1) (nameV (.str (Str.ofString "f")) && argsB j [.int 0]) :=
  .args h.e1 (.str _) (fun y e => by cases e; decide) h.ep (by decide) (kn1 (.int _))
theorem L4.c3 (h : L4 H l0 l1 l2 l3 g a p q) (j : Nat) : LnIs H j (.ref l3) (nameV (.str (Str.ofString "call")) && argsB j [.int 1, .int 0, .int 2]) :=
  .args h.e3 (.str _) (fun y e => by cases e; decide) h.eq (by decide) (fun u hu => by
    simp only [List.mem_cons, List.not_mem_nil, or_false] at hu
    rcases hu with rfl | rfl | rfl <;> exact ⟨_, .int _⟩)
theorem L4.any (h : L4 H l0 l1 l2 l3 g a p q) (j : Nat) : ∀ x ∈ [V.ref l0, .ref l1, .ref l2, .ref l3], ∃ b, LnIs H j x b := by
  intro x hx
  simp only [List.mem_cons, List.not_mem_nil, or_false] at hx
  rcases hx with rfl | rfl | rfl | rfl
  · exact ⟨_, h.v0 j⟩
  · exact ⟨_, h.c1 j⟩
  · exact ⟨_, h.v2 j⟩
  · exact ⟨_, h.c3 j⟩
theorem L4.ok (h : L4 H l0 l1 l2 l3 g a p q) : ∀ i x, [V.ref l0, .ref l1, .ref l2, .ref l3][i]? = some x → LnIs H i x true := by
  intro i x e
  match i, e with
  | 0, e => (cases e; exact h.v0 0)
  | 1, e =>
    cases e
    have := h.c1 1
    rwa [show (nameV (.str (Str.ofString "f")) && argsB 1 [.int 0]) = true by decide +kernel] at this
  | 2, e => (cases e; exact h.v2 2)
  | 3, e =>
    cases e
    have := h.c3 3
    rwa [show (nameV (.str (Str.ofString "call")) && argsB 3 [.int 1, .int 0, .int 2]) = true by decide +kernel] at this
theorem L4.lw (h : L4 H l0 l1 l2 l3 g a p q) : ∀ x ∈ [V.ref l0, .ref l1, .ref l2, .ref l3], LnW H x := by
  intro x hx
  simp only [List.mem_cons, List.not_mem_nil, or_false] at hx
  rcases hx with rfl | rfl | rfl | rfl
  · exact .val (ws := [Str.ofString "int", Str.ofString "box"]) h.e0 h.eg (by decide +kernel) (by decide) (by decide)
  · exact .call (us := [0]) h.e1 (by decide +kernel) h.ep (by decide) (by decide)
  · exact .val (ws := [Str.ofString "a"]) h.e2 h.ea (by decide +kernel) (by decide) (by decide)
  · exact .call (us := [1, 0, 2]) h.e3 (by decide +kernel) h.eq (by decide) (by decide)
/-- with a line too much -/
theorem L4.bad (K : PySem.W.Frag) (h : L4 H l0 l1 l2 l3 g a p q) {at_ : Nat} {v : V} {t : Addr} (hv : LnIs H at_ v false) (la : at_ ≤ 4) (ht : H t = some (.tup ([V.ref l0, .ref l1, .ref l2, .ref l3].take at_ ++ [v] ++ [V.ref l0, .ref l1, .ref l2, .ref l3].drop at_))) : PrIs K H (.ref t) false := by
  have key : ∃ f : Nat → Bool, f at_ = false ∧ ∀ i x, ([V.ref l0, .ref l1, .ref l2, .ref l3].take at_ ++ [v] ++ [V.ref l0, .ref l1, .ref l2, .ref l3].drop at_)[i]? = some x → LnIs H i x (f i) := by
    have one : ∀ i, ∃ b, (i = at_ → b = false) ∧ ∀ x, ([V.ref l0, .ref l1, .ref l2, .ref l3].take at_ ++ [v] ++ [V.ref l0, .ref l1, .ref l2, .ref l3].drop at_)[i]? = some x → LnIs H i x b := by
      intro i
      by_cases e : i = at_
      · subst e
        refine ⟨false, fun _ => rfl, fun x ex => ?_⟩
        have l : ([V.ref l0, .ref l1, .ref l2, .ref l3].take i).length = i := by rw [List.length_take]; exact Nat.min_eq_left la
        rw [List.append_assoc, List.getElem?_append_right (by omega), l, Nat.sub_self] at ex
        cases ex
        exact hv
      · cases ex : ([V.ref l0, .ref l1, .ref l2, .ref l3].take at_ ++ [v] ++ [V.ref l0, .ref l1, .ref l2, .ref l3].drop at_)[i]? with
        | none => exact ⟨false, fun _ => rfl, fun x e => nomatch e⟩
        | some y =>
          have my : y ∈ [V.ref l0, .ref l1, .ref l2, .ref l3] := by
            have l : ([V.ref l0, .ref l1, .ref l2, .ref l3].take at_).length = at_ := by rw [List.length_take]; exact Nat.min_eq_left la
            by_cases lt : i < at_
            · rw [List.append_assoc, List.getElem?_append_left (by omega)] at ex
              exact List.mem_of_mem_take (List.mem_of_getElem? ex)
            · rw [List.getElem?_append_right (by simp only [List.length_append, List.length_singleton]; omega)] at ex
              exact List.mem_of_mem_drop (List.mem_of_getElem? ex)
          obtain ⟨b, hb⟩ := h.any i y my
          exact ⟨b, fun q => absurd q e, fun x ex2 => by cases ex2; exact hb⟩
    exact ⟨fun i => (one i).choose, (one at_).choose_spec.1 rfl, fun i x e => (one i).choose_spec.2 x e⟩
  obtain ⟨f, fa, hf⟩ := key
  have ll : ([V.ref l0, .ref l1, .ref l2, .ref l3].take at_ ++ [v] ++ [V.ref l0, .ref l1, .ref l2, .ref l3].drop at_).length = 5 := by
    simp only [List.length_append, List.length_take, List.length_drop, List.length_cons, List.length_nil]
    omega
  have := PrIs.tup (K := K) ht (by omega) (by omega) hf
  rwa [show ((List.range ([V.ref l0, .ref l1, .ref l2, .ref l3].take at_ ++ [v] ++ [V.ref l0, .ref l1, .ref l2, .ref l3].drop at_).length).all f) = false from by
    rw [List.all_eq_false]
    exact ⟨at_, List.mem_range.mpr (by omega), by rw [fa]; decide⟩] at this
/-- the first lines -/
theorem L4.some_ (K : PySem.W.Frag) (h : L4 H l0 l1 l2 l3 g a p q) {k : Nat} {t : Addr} (lk : k < 4) (ht : H t = some (.tup ([V.ref l0, .ref l1, .ref l2, .ref l3].take (1 + k)))) : PrIs K H (.ref t) true := by
  have ll : ([V.ref l0, .ref l1, .ref l2, .ref l3].take (1 + k)).length = 1 + k := by
    rw [List.length_take]
    exact Nat.min_eq_left (show 1 + k ≤ 4 by omega)
  have := PrIs.tup (K := K) (f := fun _ => true) ht (by omega) (by omega) (fun i x e => by
    rw [List.getElem?_take] at e
    split at e
    · exact h.ok i x e
    · cases e)
  rwa [show ((List.range ([V.ref l0, .ref l1, .ref l2, .ref l3].take (1 + k)).length).all fun _ => true) = true from by simp] at this
end
theorem cut_to {xs : List V} {n : Nat} (h : n ≤ xs.length) : cutV xs none (some (n : Int)) = xs.take n := by
  unfold cutV
  rw [HT.sIx_none, HT.sIx_nat, Nat.min_eq_left h]
  rfl
theorem cut_from {xs : List V} {n : Nat} (h : n ≤ xs.length) : cutV xs (some (n : Int)) none = xs.drop n := by
  unfold cutV
  rw [HT.sIx_none, HT.sIx_nat, Nat.min_eq_left h]
  exact List.take_of_length_le (by rw [List.length_drop]; omega)
def sp_law_right (T : List (Addr × Str)) : Sp := fun vs H Q _ => ∃ d, vs = [.ref d] ∧ Dc H d ∧ LamX.Tabs T H ∧ ∀ H', Gt T d H H' → Q (.bl true) H'
theorem ok_law_right (T : Tx K mg) (TB_Library___init__ : LamX.TabB base mg T.c_Library___init__ T.P_Library___init__) (TB__law_right : LamX.TabB base mg T.c__law_right T.P__law_right) : FnG P w K mg base CX0 13 T.f__law_right T.d__law_right ["_law_reel"] (sp_law_right (tabs T)) := by
  obtain ⟨oc, od, kV, doc, pm, an, cdM, ct, osl, eM, lkM, hcM⟩ := T.F__law_word_of.ex
  have hbM := T.b__law_word_of
  rw [eM] at lkM hbM
  refine okGL T.F__law_right T.k__law_right sc_law_right (fun vs H Q E h => ?_) (fun A outer s H vs Q E hgd hr h => ?_)
  · obtain ⟨d, rfl, _⟩ := h
    rfl
  · obtain ⟨d, rfl, hd, hT, q⟩ := h
    refine ⟨_, (pss_cons (ps_set (i := 1) sc_law_right.nd rfl (Or.inl rfl) (pe_call (ok_law_elder T) (hr.mono (by decide)) (by rfl) T.g__law_elder T.F__law_elder.kp T.b__law_elder .nil pass0 (pa_cons (pv 0) (pa_cons pe_int pa_nil))))
      (pss_cons (ps_par (i := 2) (j := 3) (by rfl) sc_law_right.nd rfl rfl (by decide) rfl rfl (pa_cons (pe_call (ok_law_library T TB_Library___init__) (hr.mono (by decide)) (by rfl) T.g__law_library T.F__law_library.kp T.b__law_library .nil pass0 (pa_cons (pv 1) pa_nil)) (pa_cons (ClX.pe_cmeth (pe_glob (v := .ref T.C_Candidate) (by rfl) T.m_Candidate rfl) T.cr_Candidate T.cm_Candidate_from_line ((ok_Candidate_from_line T).raw T.b_Candidate_from_line .nil) (hr.mono (by decide)) passL (pa_cons pe_str pa_nil)) pa_nil)) (by rfl))
      (pss_cons (ps_set (i := 4) sc_law_right.nd rfl (Or.inl rfl) (pe_lst (pa_cons pe_non (pa_cons pe_int (pa_cons pe_str (pa_cons (pe_tup pa_nil) (pa_cons (pe_lst pa_nil) (pa_cons pe_dnewK (pa_cons pe_bl (pa_cons (pe_dget (u1 hr.units) (pv 1) pe_str (fun _ _ => rfl)) (pa_cons (pv 3) pa_nil)))))))))))
      (pss_cons (ps_if (pt_cmpR (op_neD hr.units) (pe_lc (own := [("_law_value", 16)]) (g := gName 16) (by rfl) sc_law_right.nd (pi_list (pv 4)) (blkOk_by (own := [("_law_value", 16)]) (N := ["_law_reel", "_law_spec", "_law_library_here", "_law_one", "_law_odd", "_law_names", "_law_name", "_law_good", "_law_bad", "_law_types", "_law_copied", "_law_told", "_law_lines", "_law_at", "_law_wrong", "_law_none", "_law_value"]) (sc := defScope s_law_right) (by decide +kernel)) (fun _ _ _ _ _ => (pg_name (i := 16) sc_law_right.nd rfl (Or.inr rfl) (hf := Or.inl rfl))) (fun _ _ _ _ _ => (pts_one (pt_cmpR op_ne (LamX.pe_lamcall (T := tabs T) (TT := TMet T.C_InvalidWord T.C_InvalidLibrary T.C_InvalidCall T.C_InvalidProgram) (k := 9) (by rfl) T.g__law_word_of T.F__law_word_of.kp lkM hcM hbM sc_law_word_of rfl (Or.inl rfl) (by exact met_to T _ _ rfl rfl) TB__law_right rfl (List.mem_cons_self) (tabs_u_law_right T) (hr.mono (by decide)) (LamX.lamS_by (by rfl)) rfl (fun _ _ _ _ _ => rfl) (fun A' o' s' H' E' f' c' hr' => (pe_call (ok_write_library T) (hr'.mono (by decide)) (by rfl) T.g_write_library T.F_write_library.kp T.b_write_library .nil (passes_call (takes_of rfl rfl rfl rfl) (fun _ _ _ _ h => h)) (pa_cons (pv 16) pa_nil)))) pe_str (nomark _)))) (fun _ _ _ _ _ => (pv 16))) (pe_lst pa_nil) (nomark _)) (pss_one (ps_ret pe_bl)) pss_nil)
      (pss_cons (ps_set (i := 5) sc_law_right.nd rfl (Or.inl rfl) (pe_lst (pa_cons pe_non (pa_cons pe_int (pa_cons pe_bl (pa_cons pe_str (pa_cons pe_str (pa_cons pe_str (pa_cons pe_str (pa_cons pe_str (pa_cons pe_str (pa_cons (pe_tup pa_nil) (pa_cons (pe_lst (pa_cons pe_str pa_nil)) (pa_cons pe_dnewK (pa_cons (pv 2) (pa_cons (pe_tup (pa_cons pe_str pa_nil)) (pa_cons pe_str pa_nil)))))))))))))))))
      (pss_cons (ps_asg (pe_tup (pa_cons (pe_call (ok_law_pick T) (hr.mono (by decide)) (by rfl) T.g__law_pick T.F__law_pick.kp T.b__law_pick .nil pass0 (pa_cons (pv 0) (pa_cons (pv 5) pa_nil))) (pa_cons (pe_tup (pa_cons pe_str (pa_cons pe_str pa_nil))) (pa_cons (pe_call (ok_law_pick T) (hr.mono (by decide)) (by rfl) T.g__law_pick T.F__law_pick.kp T.b__law_pick .nil pass0 (pa_cons (pv 0) (pa_cons (pe_call0 (ok_law_bad_names T) (hr.mono (by decide)) (by rfl) T.g__law_bad_names T.F__law_bad_names.kp T.b__law_bad_names .nil pass0) pa_nil))) pa_nil)))) (pg_tup (n := 3) rfl (pgs_cons (pg_name (i := 6) sc_law_right.nd rfl (Or.inr rfl)) (pgs_cons (pg_name (i := 7) sc_law_right.nd rfl (Or.inr rfl)) (pgs_cons (pg_name (i := 8) sc_law_right.nd rfl (Or.inl rfl)) pgs_nil)))))
      (pss_cons (ps_set (i := 9) sc_law_right.nd rfl (Or.inr rfl) (pe_lst (pa_cons pe_non (pa_cons pe_int (pa_cons (pe_tup pa_nil) (pa_cons (pe_lst pa_nil) (pa_cons pe_dnewK (pa_cons pe_str (pa_cons (pe_lst (pa_cons (pv 7) pa_nil)) (pa_cons (pe_op op_repT (pe_tup (pa_cons (pv 7) pa_nil)) pe_int) (pa_cons (pe_tup (pa_cons (pv 8) pa_nil)) (pa_cons (pe_tup (pa_cons (pv 7) (pa_cons (pv 8) pa_nil))) (pa_cons (pe_tup (pa_cons (pv 8) (pa_cons (pv 7) (pa_cons (pv 7) pa_nil)))) (pa_cons (pv 7) pa_nil))))))))))))))
      (pss_cons (ps_set (i := 9) sc_law_right.nd rfl (Or.inr rfl) (pe_call (ok_law_pick T) (hr.mono (by decide)) (by rfl) T.g__law_pick T.F__law_pick.kp T.b__law_pick .nil pass0 (pa_cons (pv 0) (pa_cons (pv 9) pa_nil))))
      (pss_cons (ps_set (i := 10) sc_law_right.nd rfl (Or.inl rfl) (pe_callB (call_rpZ hgd hr.units) (by rfl) T.n_repr (by decide +kernel) (pa_cons (pv 9) pa_nil)))
      (pss_cons (ps_set (i := 11) sc_law_right.nd rfl (Or.inl rfl) (pe_lst (pa_cons (LamX.pe_lamcall (T := tabs T) (TT := TMet T.C_InvalidWord T.C_InvalidLibrary T.C_InvalidCall T.C_InvalidProgram) (k := 9) (by rfl) T.g__law_word_of T.F__law_word_of.kp lkM hcM hbM sc_law_word_of rfl (Or.inl rfl) (by exact met_to T _ _ rfl rfl) TB__law_right rfl (List.mem_cons_self) (tabs_u_law_right T) (hr.mono (by decide)) (LamX.lamS_by (by rfl)) rfl (fun _ _ _ _ _ => rfl) (fun A' o' s' H' E' f' c' hr' => (pe_call (ok_write_call T) (hr'.mono (by decide)) (by rfl) T.g_write_call T.F_write_call.kp T.b_write_call .nil (passes_call (takes_of rfl rfl rfl rfl) (fun _ _ _ _ h => h)) (pa_cons (pv 6) (pa_cons (pv 9) pa_nil))))) pa_nil)))
      (pss_cons (ps_expr (pe_bm PySem.F.plainAttrs_list PySem.F.slot_list_append PySem.F.type_list_append mt_append (pv 11) (pa_cons (LamX.pe_lamcall (T := tabs T) (TT := TMet T.C_InvalidWord T.C_InvalidLibrary T.C_InvalidCall T.C_InvalidProgram) (k := 9) (by rfl) T.g__law_word_of T.F__law_word_of.kp lkM hcM hbM sc_law_word_of rfl (Or.inl rfl) (by exact met_to T _ _ rfl rfl) TB__law_right rfl (List.mem_cons_self) (tabs_u_law_right T) (hr.mono (by decide)) (LamX.lamS_by (by rfl)) rfl (fun _ _ _ _ _ => rfl) (fun A' o' s' H' E' f' c' hr' => (pe_call (ok_write_call T) (hr'.mono (by decide)) (by rfl) T.g_write_call T.F_write_call.kp T.b_write_call .nil (passes_call (takes_of rfl rfl rfl rfl) (fun _ _ _ _ h => h)) (pa_cons (pv 6) (pa_cons (pe_tup (pa_cons (pv 7) pa_nil)) pa_nil))))) pa_nil)))
      (pss_cons (ps_expr (pe_bm PySem.F.plainAttrs_list PySem.F.slot_list_append PySem.F.type_list_append mt_append (pv 11) (pa_cons (LamX.pe_lamcall (T := tabs T) (TT := TMet T.C_InvalidWord T.C_InvalidLibrary T.C_InvalidCall T.C_InvalidProgram) (k := 9) (by rfl) T.g__law_word_of T.F__law_word_of.kp lkM hcM hbM sc_law_word_of rfl (Or.inl rfl) (by exact met_to T _ _ rfl rfl) TB__law_right rfl (List.mem_cons_self) (tabs_u_law_right T) (hr.mono (by decide)) (LamX.lamS_by (by rfl)) rfl (fun _ _ _ _ _ => rfl) (fun A' o' s' H' E' f' c' hr' => (pe_call (ok_write_call T) (hr'.mono (by decide)) (by rfl) T.g_write_call T.F_write_call.kp T.b_write_call .nil (passes_call (takes_of rfl rfl rfl rfl) (fun _ _ _ _ h => h)) (pa_cons pe_str (pa_cons (pv 9) pa_nil))))) pa_nil)))
      (pss_cons (ps_expr (pe_bm PySem.F.plainAttrs_list PySem.F.slot_list_append PySem.F.type_list_append mt_append (pv 11) (pa_cons (LamX.pe_lamcall (T := tabs T) (TT := TMet T.C_InvalidWord T.C_InvalidLibrary T.C_InvalidCall T.C_InvalidProgram) (k := 9) (by rfl) T.g__law_word_of T.F__law_word_of.kp lkM hcM hbM sc_law_word_of rfl (Or.inl rfl) (by exact met_to T _ _ rfl rfl) TB__law_right rfl (List.mem_cons_self) (tabs_u_law_right T) (hr.mono (by decide)) (LamX.lamS_by (by rfl)) rfl (fun _ _ _ _ _ => rfl) (fun A' o' s' H' E' f' c' hr' => (pe_call (ok_write_call T) (hr'.mono (by decide)) (by rfl) T.g_write_call T.F_write_call.kp T.b_write_call .nil (passes_call (takes_of rfl rfl rfl rfl) (fun _ _ _ _ h => h)) (pa_cons pe_str (pa_cons (pe_op (op_repT : OpR _ _ (rRepT K)) (pe_tup (pa_cons (pv 7) pa_nil)) pe_int) pa_nil))))) pa_nil)))
      (pss_cons (ps_if (PW.pt (pw_or (pt_cmpR (op_neD hr.units) (pv 11) (pe_lst (pa_cons pe_str (pa_cons pe_str (pa_cons pe_str (pa_cons pe_str pa_nil))))) (nomark _)) (pw_or1 (pt_cmpR op_ne (pe_callB (call_rpZ hgd hr.units) (by rfl) T.n_repr (by decide +kernel) (pa_cons (pv 9) pa_nil)) (pv 10) (nomark _))))) (pss_one (ps_ret pe_bl)) pss_nil)
      (pss_cons (ps_set (i := 12) sc_law_right.nd rfl (Or.inr rfl) (pe_lst (pa_cons (pe_tup (pa_cons pe_str (pa_cons (pv 7) pa_nil))) (pa_cons (pe_tup (pa_cons pe_str (pa_cons pe_str (pa_cons (pe_tup (pa_cons pe_int pa_nil)) pa_nil)))) (pa_cons (pe_tup (pa_cons pe_str (pa_cons (pe_tup (pa_cons pe_str pa_nil)) pa_nil))) (pa_cons (pe_tup (pa_cons pe_str (pa_cons pe_str (pa_cons (pe_tup (pa_cons pe_int (pa_cons pe_int (pa_cons pe_int pa_nil)))) pa_nil)))) pa_nil))))))
      (pss_cons (ps_set (i := 13) sc_law_right.nd rfl (Or.inr rfl) (pe_call (ok_law_spin T) (hr.mono (by decide)) (by rfl) T.g__law_spin T.F__law_spin.kp T.b__law_spin .nil pass0 (pa_cons (pv 0) (pa_cons pe_int pa_nil))))
      (pss_cons (ps_set (i := 14) sc_law_right.nd rfl (Or.inr rfl) (pe_call (ok_law_pick T) (hr.mono (by decide)) (by rfl) T.g__law_pick T.F__law_pick.kp T.b__law_pick .nil pass0 (pa_cons (pv 0) (pa_cons (pe_call (ok_law_bad_lines T) (hr.mono (by decide)) (by rfl) T.g__law_bad_lines T.F__law_bad_lines.kp T.b__law_bad_lines .nil pass0 (pa_cons (pv 13) pa_nil)) pa_nil))))
      (pss_cons (ps_set (i := 15) sc_law_right.nd rfl (Or.inr rfl) (pe_call (ok_law_pick T) (hr.mono (by decide)) (by rfl) T.g__law_pick T.F__law_pick.kp T.b__law_pick .nil pass0 (pa_cons (pv 0) (pa_cons (pe_lst (pa_cons pe_non (pa_cons pe_int (pa_cons (pe_tup pa_nil) (pa_cons (pe_lst pa_nil) (pa_cons pe_dnewK (pa_cons pe_str (pa_cons (pv 12) (pa_cons (pe_callTy call_tupL (by rfl) T.n_tuple (by decide +kernel) (pa_cons (pe_slice sl_list (pv 12) (po_some pe_int) po_none) pa_nil)) (pa_cons (pe_tup (pa_cons (pe_callTy call_tupL (by rfl) T.n_tuple (by decide +kernel) (pa_cons (pv 12) pa_nil)) pa_nil)) (pa_cons (pv 2) (pa_cons pe_bl pa_nil)))))))))))) pa_nil))))
      (pss_cons (ps_set (i := 11) sc_law_right.nd rfl (Or.inl rfl) (pe_lst (pa_cons (LamX.pe_lamcall (T := tabs T) (TT := TMet T.C_InvalidWord T.C_InvalidLibrary T.C_InvalidCall T.C_InvalidProgram) (k := 9) (by rfl) T.g__law_word_of T.F__law_word_of.kp lkM hcM hbM sc_law_word_of rfl (Or.inl rfl) (by exact met_to T _ _ rfl rfl) TB__law_right rfl (List.mem_cons_self) (tabs_u_law_right T) (hr.mono (by decide)) (LamX.lamS_by (by rfl)) rfl (fun _ _ _ _ _ => rfl) (fun A' o' s' H' E' f' c' hr' => (pe_call (ok_write_program T) (hr'.mono (by decide)) (by rfl) T.g_write_program T.F_write_program.kp T.b_write_program .nil (passes_call (takes_of rfl rfl rfl rfl) (fun _ _ _ _ h => h)) (pa_cons (pe_callTy (call_tupL : CallR _ _ (rTupL K)) (by rfl) T.n_tuple (by decide +kernel) (pa_cons (pe_op op_cat (pe_op op_cat (pe_slice (sl_list : SlR _ (rSlL K)) (pv 12) po_none (po_some (pv 13))) (pe_lst (pa_cons (pv 14) pa_nil))) (pe_slice (sl_list : SlR _ (rSlL K)) (pv 12) (po_some (pv 13)) po_none)) pa_nil)) pa_nil)))) pa_nil)))
      (pss_cons (ps_expr (pe_bm PySem.F.plainAttrs_list PySem.F.slot_list_append PySem.F.type_list_append mt_append (pv 11) (pa_cons (LamX.pe_lamcall (T := tabs T) (TT := TMet T.C_InvalidWord T.C_InvalidLibrary T.C_InvalidCall T.C_InvalidProgram) (k := 9) (by rfl) T.g__law_word_of T.F__law_word_of.kp lkM hcM hbM sc_law_word_of rfl (Or.inl rfl) (by exact met_to T _ _ rfl rfl) TB__law_right rfl (List.mem_cons_self) (tabs_u_law_right T) (hr.mono (by decide)) (LamX.lamS_by (by rfl)) rfl (fun _ _ _ _ _ => rfl) (fun A' o' s' H' E' f' c' hr' => (pe_call (ok_write_program T) (hr'.mono (by decide)) (by rfl) T.g_write_program T.F_write_program.kp T.b_write_program .nil (passes_call (takes_of rfl rfl rfl rfl) (fun _ _ _ _ h => h)) (pa_cons (pv 15) pa_nil)))) pa_nil)))
      (pss_cons (ps_expr (pe_bm PySem.F.plainAttrs_list PySem.F.slot_list_append PySem.F.type_list_append mt_append (pv 11) (pa_cons (LamX.pe_lamcall (T := tabs T) (TT := TMet T.C_InvalidWord T.C_InvalidLibrary T.C_InvalidCall T.C_InvalidProgram) (k := 9) (by rfl) T.g__law_word_of T.F__law_word_of.kp lkM hcM hbM sc_law_word_of rfl (Or.inl rfl) (by exact met_to T _ _ rfl rfl) TB__law_right rfl (List.mem_cons_self) (tabs_u_law_right T) (hr.mono (by decide)) (LamX.lamS_by (by rfl)) rfl (fun _ _ _ _ _ => rfl) (fun A' o' s' H' E' f' c' hr' => (pe_call (ok_write_program T) (hr'.mono (by decide)) (by rfl) T.g_write_program T.F_write_program.kp T.b_write_program .nil (passes_call (takes_of rfl rfl rfl rfl) (fun _ _ _ _ h => h)) (pa_cons (pe_callTy (call_tupL : CallR _ _ (rTupL K)) (by rfl) T.n_tuple (by decide +kernel) (pa_cons (pe_slice (sl_list : SlR _ (rSlL K)) (pv 12) po_none (po_some (pe_op op_add pe_int (pe_call (ok_law_spin T) (hr'.mono (by decide)) (by rfl) T.g__law_spin T.F__law_spin.kp T.b__law_spin .nil pass0 (pa_cons (pv 0) (pa_cons pe_int pa_nil)))))) pa_nil)) pa_nil)))) pa_nil)))
      (pss_one (ps_ret (pe_cmpR (op_eqD hr.units) (pv 11) (pe_lst (pa_cons pe_str (pa_cons pe_str (pa_cons pe_str pa_nil)))) (nomark _))))))))))))))))))))))))), ?_⟩
    clear lkM hcM hbM eM
    refine seqN fun N1 hN1 => ?_
    walk_at "rd"
    walk_at "rdx"
    refine ⟨d, 3, rfl, hd, by decide, by decide, fun p H1 pl g1 pA el => hN1 _ _ ?_⟩
    clear hN1
    have G1 := (Gt.refl hd hT).gr g1
    refine seqN fun N2 hN2 => ?_
    walk_at "rd"
    walk_at "rdx"
    refine ⟨d, p, pl, rfl, pA, el, G1.tabs, fun x H2 e2 t2 lb => ?_⟩
    have G2 := G1.ext e2 t2
    refine ⟨_, rfl, .inr ⟨_, rfl, (by intro c hc; revert c; decide), by decide, (fun e => by rw [parse0] at e; cases e), fun c hc one H3 s3 cn => hN2 _ _ ?_⟩⟩
    clear hN2
    have G3 := G2.same s3
    have lb3 := lb.same s3
    obtain ⟨am, ab, lr, lo, M, I, hf⟩ := pA
    have hp3' := s3 _ _ (e2 _ _ hf.at_ (fun ps z => nomatch z))
    have hm3 := s3 _ _ (e2 _ _ hf.hm (fun ps z => nomatch z))
    clear hf el e2 lb
    refine seqN fun N3 hN3 => ?_
    walk_at "rd"
    walk_at "rdx"
    refine ⟨by decide, fun p1 hp1 => ⟨by decide, ?_⟩⟩
    have su1 := same_new (o := .tup []) hp1
    have fu1 : upd H3 p1 (.tup []) p1 = some (.tup []) := upd_same
    generalize upd H3 p1 (.tup []) = U1 at *
    intro p2 hp2
    have su2 := same_new (o := .lst []) hp2
    have fu2 : upd U1 p2 (.lst []) p2 = some (.lst []) := upd_same
    generalize upd U1 p2 (.lst []) = U2 at *
    intro p3 hp3
    have su3 := same_new (o := .dK []) hp3
    have fu3 : upd U2 p3 (.dK []) p3 = some (.dK []) := upd_same
    generalize upd U2 p3 (.dK []) = U3 at *
    have su := su1.trans (su2.trans su3)
    refine ⟨.ref am, DGet.k (k := keyM) (su _ _ hp3'), by decide, fun po hpo => hN3 _ _ ?_⟩
    clear hN3
    have su4 := same_new (o := .lst [V.non, V.int 0, V.str (Str.ofString "marks"), V.ref p1, V.ref p2, V.ref p3, V.bl true, V.ref am, V.ref one]) hpo
    have fo : upd U3 po (.lst [V.non, V.int 0, V.str (Str.ofString "marks"), V.ref p1, V.ref p2, V.ref p3, V.bl true, V.ref am, V.ref one]) po = some (.lst [V.non, V.int 0, V.str (Str.ofString "marks"), V.ref p1, V.ref p2, V.ref p3, V.bl true, V.ref am, V.ref one]) := upd_same
    generalize upd U3 po (.lst [V.non, V.int 0, V.str (Str.ofString "marks"), V.ref p1, V.ref p2, V.ref p3, V.bl true, V.ref am, V.ref one]) = H4 at *
    have npo : po ≠ d := (G3.dice.same su).ne hpo
    have s34 := su.trans su4
    have G4 := G3.same s34
    have allO : ∀ y ∈ [V.non, V.int 0, V.str (Str.ofString "marks"), V.ref p1, V.ref p2, V.ref p3, V.bl true, V.ref am, V.ref one], OdL T.C_Candidate H4 y := by
      intro y hy
      have x1 := (su2.trans (su3.trans su4)) _ _ fu1
      have x2 := (su3.trans su4) _ _ fu2
      have x3 := su4 _ _ fu3
      obtain ⟨dx, pa, ra, ka, fs, hc1⟩ := cn.same s34
      simp only [List.mem_cons, List.not_mem_nil, or_false] at hy
      rcases hy with rfl | rfl | rfl | rfl | rfl | rfl | rfl | rfl | rfl
      · exact .inl ⟨_, .non⟩
      · exact .inl ⟨_, .int _⟩
      · exact .inl ⟨_, .str _⟩
      · exact .inl ⟨_, .tup x1⟩
      · exact .inl ⟨_, .lst x2⟩
      · exact .inl ⟨_, .dK x3⟩
      · exact .inl ⟨_, .bl _⟩
      · exact .inl ⟨_, .tup (s34 _ _ hm3)⟩
      · exact .inr ⟨_, _, _, rfl, hc1.at_⟩
    have lb4 := lb3.same s34
    clear fu1 fu2 fu3 su1 su2 su3 su4 su s34 hp3' hm3 cn lb3 hp1 hp2 hp3 hpo
    generalize [V.non, V.int 0, V.str (Str.ofString "marks"), V.ref p1, V.ref p2, V.ref p3, V.bl true, V.ref am, V.ref one] = odd at *
    refine seqN fun N4 hN4 => ?_
    walk_at "rd"
    refine ⟨⟨_, sql_of fo⟩, lc_none (L := tabs T) (d := d) (walk_list (xs := odd)) G4.dice G4.tabs (fun H' g => sql_of (g.lst npo fo)) ?_ ?_⟩
    · intro v H' mv g C C' hC'
      walk_at "rd"
      refine ⟨g.tabs, fun H5 e5 t5 => ?_⟩
      unfold TMet
      walk_at "rd"
      have gv := (gx_of g).trans (Gx.ext g.dice e5)
      refine ⟨v, rfl, ((allO v mv).gx gv).no T, fun H6 s6 => .inr (.inl ⟨rfl, rfl, ?_⟩)⟩
      rw [decide_eq_true rfl]
      exact iteF (hC' H6 (((Gt.refl g.dice g.tabs).ext e5 t5).same s6))
    intro H5 D g5 nD hD fD
    refine ⟨by decide, fun p4 hp4 => ?_⟩
    have s6 := same_new (o := .lst []) hp4
    have f6 : upd H5 p4 (.lst []) p4 = some (.lst []) := upd_same
    generalize upd H5 p4 (.lst []) = H6 at *
    refine neLs (xs := []) (ys := []) (sql_of (s6 _ _ fD)) (sql_of f6) (fun w h => nomatch h) (fun w h => nomatch h) ?_
    rw [decide_eq_true rfl]
    have G6 := (G4.trans g5).same s6
    have gx6 : Gx d H4 H6 := (gx_of g5).trans (Gx.same g5.dice s6)
    obtain ⟨dxl, aml, abl, acl, adl, fsl, lf⟩ := lb4
    have hl6 := ins_gx gx6 lf.at_
    refine ⟨_, rfl, iteF (hN4 _ _ ?_)⟩
    clear hN4 fD f6 allO fo gx6 lf
    refine seqN fun N5 hN5 => ?_
    walk_at "rd"
    refine ⟨by decide, fun p1 hp1 => ⟨by decide, ?_⟩⟩
    have su1 := same_new (o := .tup []) hp1
    have fu1 : upd H6 p1 (.tup []) p1 = some (.tup []) := upd_same
    generalize upd H6 p1 (.tup []) = U1 at *
    intro p2 hp2
    have su2 := same_new (o := .lst [V.str (Str.ofString "f")]) hp2
    have fu2 : upd U1 p2 (.lst [V.str (Str.ofString "f")]) p2 = some (.lst [V.str (Str.ofString "f")]) := upd_same
    generalize upd U1 p2 (.lst [V.str (Str.ofString "f")]) = U2 at *
    intro p3 hp3
    have su3 := same_new (o := .dK []) hp3
    have fu3 : upd U2 p3 (.dK []) p3 = some (.dK []) := upd_same
    generalize upd U2 p3 (.dK []) = U3 at *
    refine ⟨by decide, fun p5 hp5 => ⟨by decide, ?_⟩⟩
    have su4 := same_new (o := .tup [V.str (Str.ofString "f")]) hp5
    have fu4 : upd U3 p5 (.tup [V.str (Str.ofString "f")]) p5 = some (.tup [V.str (Str.ofString "f")]) := upd_same
    generalize upd U3 p5 (.tup [V.str (Str.ofString "f")]) = U4 at *
    intro pn hpn
    have su := su1.trans (su2.trans (su3.trans su4))
    refine hN5 _ _ ?_
    clear hN5
    have su5 := same_new (o := .lst [V.non, V.int 0, V.bl true, V.str (Str.ofString ""), V.str (Str.ofString "A"), V.str (Str.ofString "a b"), V.str (Str.ofString "to"), V.str (Str.ofString "gives"), V.str (Str.ofString "ninechars"), V.ref p1, V.ref p2, V.ref p3, V.ref x, V.ref p5, V.str (Str.ofString "f\n")]) hpn
    have fn : upd U4 pn (.lst [V.non, V.int 0, V.bl true, V.str (Str.ofString ""), V.str (Str.ofString "A"), V.str (Str.ofString "a b"), V.str (Str.ofString "to"), V.str (Str.ofString "gives"), V.str (Str.ofString "ninechars"), V.ref p1, V.ref p2, V.ref p3, V.ref x, V.ref p5, V.str (Str.ofString "f\n")]) pn = some (.lst [V.non, V.int 0, V.bl true, V.str (Str.ofString ""), V.str (Str.ofString "A"), V.str (Str.ofString "a b"), V.str (Str.ofString "to"), V.str (Str.ofString "gives"), V.str (Str.ofString "ninechars"), V.ref p1, V.ref p2, V.ref p3, V.ref x, V.ref p5, V.str (Str.ofString "f\n")]) := upd_same
    generalize upd U4 pn (.lst [V.non, V.int 0, V.bl true, V.str (Str.ofString ""), V.str (Str.ofString "A"), V.str (Str.ofString "a b"), V.str (Str.ofString "to"), V.str (Str.ofString "gives"), V.str (Str.ofString "ninechars"), V.ref p1, V.ref p2, V.ref p3, V.ref x, V.ref p5, V.str (Str.ofString "f\n")]) = H7 at *
    have npn : pn ≠ d := (G6.dice.same su).ne hpn
    have s67 := su.trans su5
    have G7 := G6.same s67
    have allN : ∀ y ∈ [V.non, V.int 0, V.bl true, V.str (Str.ofString ""), V.str (Str.ofString "A"), V.str (Str.ofString "a b"), V.str (Str.ofString "to"), V.str (Str.ofString "gives"), V.str (Str.ofString "ninechars"), V.ref p1, V.ref p2, V.ref p3, V.ref x, V.ref p5, V.str (Str.ofString "f\n")], OdN T.C_Library H7 y := by
      intro y hy
      have x1 := (su2.trans (su3.trans (su4.trans su5))) _ _ fu1
      have x2 := (su3.trans (su4.trans su5)) _ _ fu2
      have x3 := (su4.trans su5) _ _ fu3
      have x4 := su5 _ _ fu4
      simp only [List.mem_cons, List.not_mem_nil, or_false] at hy
      rcases hy with rfl | rfl | rfl | rfl | rfl | rfl | rfl | rfl | rfl | rfl | rfl | rfl | rfl | rfl | rfl
      · exact .inl ⟨_, .non, rfl, fun _ e => nomatch e⟩
      · exact .inl ⟨_, .int _, rfl, fun _ e => nomatch e⟩
      · exact .inl ⟨_, .bl _, rfl, fun _ e => nomatch e⟩
      · exact .inl ⟨_, .str _, by decide +kernel, sv_s (by decide)⟩
      · exact .inl ⟨_, .str _, by decide +kernel, sv_s (by decide)⟩
      · exact .inl ⟨_, .str _, by decide +kernel, sv_s (by decide)⟩
      · exact .inl ⟨_, .str _, by decide +kernel, sv_s (by decide)⟩
      · exact .inl ⟨_, .str _, by decide +kernel, sv_s (by decide)⟩
      · exact .inl ⟨_, .str _, by decide +kernel, sv_s (by decide)⟩
      · exact .inl ⟨_, .tup x1, rfl, fun _ e => nomatch e⟩
      · exact .inl ⟨_, .lst x2, rfl, fun _ e => nomatch e⟩
      · exact .inl ⟨_, .dK x3, rfl, fun _ e => nomatch e⟩
      · exact .inr ⟨_, _, _, rfl, s67 _ _ hl6⟩
      · exact .inl ⟨_, .tup x4, rfl, fun _ e => nomatch e⟩
      · exact .inl ⟨_, .str _, by decide +kernel, sv_s (by decide)⟩
    have hl7 := s67 _ _ hl6
    clear fu1 fu2 fu3 fu4 su1 su2 su3 su4 su5 su s67 hl6 hp1 hp2 hp3 hp5 hpn
    have nel : [V.non, V.int 0, V.bl true, V.str (Str.ofString ""), V.str (Str.ofString "A"), V.str (Str.ofString "a b"), V.str (Str.ofString "to"), V.str (Str.ofString "gives"), V.str (Str.ofString "ninechars"), V.ref p1, V.ref p2, V.ref p3, V.ref x, V.ref p5, V.str (Str.ofString "f\n")] ≠ [] := by simp
    have lel : [V.non, V.int 0, V.bl true, V.str (Str.ofString ""), V.str (Str.ofString "A"), V.str (Str.ofString "a b"), V.str (Str.ofString "to"), V.str (Str.ofString "gives"), V.str (Str.ofString "ninechars"), V.ref p1, V.ref p2, V.ref p3, V.ref x, V.ref p5, V.str (Str.ofString "f\n")].length = 15 := rfl
    generalize [V.non, V.int 0, V.bl true, V.str (Str.ofString ""), V.str (Str.ofString "A"), V.str (Str.ofString "a b"), V.str (Str.ofString "to"), V.str (Str.ofString "gives"), V.str (Str.ofString "ninechars"), V.ref p1, V.ref p2, V.ref p3, V.ref x, V.ref p5, V.str (Str.ofString "f\n")] = nms at *
    refine seqN fun N6 hN6 => ?_
    walk_at "rd"
    walk_at "rdx"
    refine .inl ⟨d, _, rfl, G7.dice, .inl ⟨pn, _, rfl, npn, sql_of fn, nel, by omega, fun name H8 hn8 g8 => ⟨by decide, fun pg hpg => ?_⟩⟩⟩
    have odn := (allN name hn8).gx (Gx.gr g8)
    have s9 := same_new (o := .tup gdL) hpg
    have fg : upd H8 pg (.tup gdL) pg = some (.tup gdL) := upd_same
    generalize upd H8 pg (.tup gdL) = H9 at *
    have G9 := (G7.gr g8).same s9
    refine ⟨d, rfl, G9.dice, fun pb HA bs sA hpb fb neb lb bsB => ?_⟩
    have npb : pb ≠ d := G9.dice.ne hpb
    have GA := G9.same sA
    refine .inl ⟨d, _, rfl, GA.dice, .inl ⟨pb, _, rfl, npb, sql_of fb, neb, by omega, fun bad HB hbd gB => ⟨by decide, fun pt hpt => ?_⟩⟩⟩
    have bdS := (bsB bad hbd).gx (Gx.gr gB)
    have sC := same_new (o := .tup [name, V.ref pg, bad]) hpt
    have fC : upd HB pt (.tup [name, V.ref pg, bad]) pt = some (.tup [name, V.ref pg, bad]) := upd_same
    generalize upd HB pt (.tup [name, V.ref pg, bad]) = HC at *
    refine ⟨_, sqt_of fC, rfl, _, _, rfl, _, _, rfl, _, _, rfl, rfl, hN6 _ _ ?_⟩
    clear hN6
    have GC := (GA.gr gB).same sC
    have gx7C : Gx d H8 HC := (Gx.same g8.dice (s9.trans sA)).trans ((Gx.gr gB).trans (Gx.same gB.dice sC))
    have odnC := odn.gx gx7C
    have bdC := bdS.gx (Gx.same gB.dice sC)
    have fgC := sC _ _ (SmT.gr gB _ _ (sA _ _ fg))
    have hlC := ins_gx ((Gx.gr g8).trans gx7C) hl7
    clear odn bdS fg fn fb bsB hbd hn8 allN nel lel hpb hpt fC gx7C hl7 s9 sA sC hpg
    refine seqN fun N7 hN7 => ?_
    walk_at "rd"
    walk_at "rdx"
    refine ⟨by decide, fun p1 hp1 => ⟨by decide, ?_⟩⟩
    have su1 := same_new (o := .tup []) hp1
    have fu1 : upd HC p1 (.tup []) p1 = some (.tup []) := upd_same
    generalize upd HC p1 (.tup []) = U1 at *
    intro p2 hp2
    have su2 := same_new (o := .lst []) hp2
    have fu2 : upd U1 p2 (.lst []) p2 = some (.lst []) := upd_same
    generalize upd U1 p2 (.lst []) = U2 at *
    intro p3 hp3
    have su3 := same_new (o := .dK []) hp3
    have fu3 : upd U2 p3 (.dK []) p3 = some (.dK []) := upd_same
    generalize upd U2 p3 (.dK []) = U3 at *
    refine ⟨by decide, fun p4 hp4 => ⟨by decide, ?_⟩⟩
    have su4 := same_new (o := .lst [V.ref pg]) hp4
    have fu4 : upd U3 p4 (.lst [V.ref pg]) p4 = some (.lst [V.ref pg]) := upd_same
    generalize upd U3 p4 (.lst [V.ref pg]) = U4 at *
    intro p5 hp5
    have su5 := same_new (o := .tup [V.ref pg]) hp5
    have fu5 : upd U4 p5 (.tup [V.ref pg]) p5 = some (.tup [V.ref pg]) := upd_same
    generalize upd U4 p5 (.tup [V.ref pg]) = U5 at *
    refine ⟨p5, 4, _, rfl, rfl, sqt_of fu5, by simp, by decide, by decide, by simp, fun p6 hp6 => ?_⟩
    rw [show (List.replicate (Int.toNat 4) [V.ref pg]).flatten = [V.ref pg, V.ref pg, V.ref pg, V.ref pg] from rfl]
    have su6 := same_new (o := .tup [V.ref pg, V.ref pg, V.ref pg, V.ref pg]) hp6
    have fu6 : upd U5 p6 (.tup [V.ref pg, V.ref pg, V.ref pg, V.ref pg]) p6 = some (.tup [V.ref pg, V.ref pg, V.ref pg, V.ref pg]) := upd_same
    generalize upd U5 p6 (.tup [V.ref pg, V.ref pg, V.ref pg, V.ref pg]) = U6 at *
    refine ⟨by decide, fun p7 hp7 => ⟨by decide, ?_⟩⟩
    have su7 := same_new (o := .tup [bad]) hp7
    have fu7 : upd U6 p7 (.tup [bad]) p7 = some (.tup [bad]) := upd_same
    generalize upd U6 p7 (.tup [bad]) = U7 at *
    intro p8 hp8
    have su8 := same_new (o := .tup [V.ref pg, bad]) hp8
    have fu8 : upd U7 p8 (.tup [V.ref pg, bad]) p8 = some (.tup [V.ref pg, bad]) := upd_same
    generalize upd U7 p8 (.tup [V.ref pg, bad]) = U8 at *
    refine ⟨by decide, fun p9 hp9 => ⟨by decide, ?_⟩⟩
    have su9 := same_new (o := .tup [bad, V.ref pg, V.ref pg]) hp9
    have fu9 : upd U8 p9 (.tup [bad, V.ref pg, V.ref pg]) p9 = some (.tup [bad, V.ref pg, V.ref pg]) := upd_same
    generalize upd U8 p9 (.tup [bad, V.ref pg, V.ref pg]) = U9 at *
    intro pt hpt
    refine hN7 _ _ ?_
    clear hN7
    have sD := same_new (o := .lst [V.non, V.int 0, V.ref p1, V.ref p2, V.ref p3, V.str (Str.ofString "int"), V.ref p4, V.ref p6, V.ref p7, V.ref p8, V.ref p9, V.ref pg]) hpt
    have ft : upd U9 pt (.lst [V.non, V.int 0, V.ref p1, V.ref p2, V.ref p3, V.str (Str.ofString "int"), V.ref p4, V.ref p6, V.ref p7, V.ref p8, V.ref p9, V.ref pg]) pt = some (.lst [V.non, V.int 0, V.ref p1, V.ref p2, V.ref p3, V.str (Str.ofString "int"), V.ref p4, V.ref p6, V.ref p7, V.ref p8, V.ref p9, V.ref pg]) := upd_same
    generalize upd U9 pt (.lst [V.non, V.int 0, V.ref p1, V.ref p2, V.ref p3, V.str (Str.ofString "int"), V.ref p4, V.ref p6, V.ref p7, V.ref p8, V.ref p9, V.ref pg]) = HD at *
    have t8 := su8.trans (su9.trans sD)
    have t7 := su7.trans t8
    have t6 := su6.trans t7
    have t4 := su4.trans (su5.trans t6)
    have t3 := su3.trans t4
    have t2 := su2.trans t3
    have sCD := su1.trans t2
    have npt : pt ≠ d := (GC.dice.same (su1.trans (su2.trans (su3.trans (su4.trans (su5.trans (su6.trans (su7.trans (su8.trans su9))))))))).ne hpt
    have GD := GC.same sCD
    have gxD : Gx d HC HD := Gx.same GC.dice sCD
    have fgD := sCD _ _ fgC
    have bdD : BadS K d HD bad := bdC.gx gxD
    have odnD := odnC.gx gxD
    have hlD := ins_gx gxD hlC
    have allT : ∀ y ∈ [V.non, V.int 0, V.ref p1, V.ref p2, V.ref p3, V.str (Str.ofString "int"), V.ref p4, V.ref p6, V.ref p7, V.ref p8, V.ref p9, V.ref pg], TsS K d HD y := by
      intro y hy
      have x1 := t2 _ _ fu1
      have x2 := t3 _ _ fu2
      have x3 := t4 _ _ fu3
      have x4 := (su5.trans t6) _ _ fu4
      have x6 := t7 _ _ fu6
      have x7 := t8 _ _ fu7
      have x8 := (su9.trans sD) _ _ fu8
      have x9 := sD _ _ fu9
      have n2 : p2 ≠ d := (GC.dice.same su1).ne hp2
      have n4 : p4 ≠ d := (GC.dice.same (su1.trans (su2.trans su3))).ne hp4
      obtain ⟨xs, b, t, dt, bf⟩ := bdD
      simp only [List.mem_cons, List.not_mem_nil, or_false] at hy
      rcases hy with rfl | rfl | rfl | rfl | rfl | rfl | rfl | rfl | rfl | rfl | rfl | rfl
      · exact ⟨.none, fun H' g => ts_oth .non (by decide) (.inr .non) ⟨by decide +kernel, by decide +kernel, by decide +kernel, fun z e => nomatch e⟩⟩
      · exact ⟨.int 0, fun H' g => ts_oth (.int _) (by decide) (.inl ⟨.int _, rfl⟩) ⟨by decide +kernel, by decide +kernel, by decide +kernel, fun z e => nomatch e⟩⟩
      · exact ⟨.tuple [], fun H' g => ⟨.len (g.tup x1) (by simp), .inl ⟨.tup (sqt_of (g.tup x1)) .nil, rfl⟩, by decide +kernel, by decide +kernel, by decide +kernel, fun z e => nomatch e⟩⟩
      · exact ⟨.list [], fun H' g => ts_oth (.lst (g.lst n2 x2)) (by decide) (.inl ⟨.lst (sql_of (g.lst n2 x2)) .nil, rfl⟩) ⟨by decide +kernel, by decide +kernel, by decide +kernel, fun z e => nomatch e⟩⟩
      · exact ⟨.dict [], fun H' g => ts_oth (.dK (g.dK x3)) (by decide) (.inr (.emp (g.dK x3))) ⟨by decide +kernel, by decide +kernel, by decide +kernel, fun z e => nomatch e⟩⟩
      · exact ⟨.str (Str.ofString "int"), fun H' g => ts_oth (.str _) (by decide) (.inl ⟨.str _, rfl⟩) ⟨by decide +kernel, by decide +kernel, by decide +kernel, fun z e => by cases e; decide +kernel⟩⟩
      · exact ⟨_, fun H' g => ts_list (g.tup fgD) (g.lst n4 x4)⟩
      · exact ⟨_, fun H' g => ts_four (g.tup fgD) (g.tup x6)⟩
      · exact ⟨_, fun H' g => ts_bad1 (g.tup x7) (bf H' g)⟩
      · exact ⟨_, fun H' g => ts_bad2 (g.tup fgD) (g.tup x8) (bf H' g)⟩
      · exact ⟨_, fun H' g => ts_bad3 (g.tup fgD) (g.tup x9) (bf H' g)⟩
      · exact ⟨_, fun H' g => ts_good (g.tup fgD)⟩
    clear fu1 fu2 fu3 fu4 fu5 fu6 fu7 fu8 fu9 su1 su2 su3 su4 su5 su6 su7 su8 su9 sD t2 t3 t4 t6 t7 t8 sCD hp1 hp2 hp3 hp4 hp5 hp6 hp7 hp8 hp9 hpt fgC odnC bdC hlC gxD
    have neT : [V.non, V.int 0, V.ref p1, V.ref p2, V.ref p3, V.str (Str.ofString "int"), V.ref p4, V.ref p6, V.ref p7, V.ref p8, V.ref p9, V.ref pg] ≠ [] := by simp
    have leT : [V.non, V.int 0, V.ref p1, V.ref p2, V.ref p3, V.str (Str.ofString "int"), V.ref p4, V.ref p6, V.ref p7, V.ref p8, V.ref p9, V.ref pg].length = 12 := rfl
    generalize [V.non, V.int 0, V.ref p1, V.ref p2, V.ref p3, V.str (Str.ofString "int"), V.ref p4, V.ref p6, V.ref p7, V.ref p8, V.ref p9, V.ref pg] = tys at *
    refine seqN fun N8 hN8 => ?_
    walk_at "rd"
    walk_at "rdx"
    refine .inl ⟨d, _, rfl, GD.dice, .inl ⟨pt, _, rfl, npt, sql_of ft, neT, by omega, fun types HE hty gE => hN8 _ _ ?_⟩⟩
    clear hN8
    have GE := GD.gr gE
    have gxE : Gx d HD HE := .gr gE
    have tyE : TsS K d HE types := (allT types hty).gx gxE
    have fgE := gxE.tup fgD
    have odnE := odnD.gx gxE
    have hlE := ins_gx gxE hlD
    clear allT neT leT ft npt fgD odnD hlD gxE bdD hty
    refine seqN fun N9 hN9 => ?_
    walk_at "rd"
    walk_at "rdx"
    obtain ⟨dt, tsF⟩ := tyE
    have tsE := tsF HE (Gx.refl GE.dice)
    refine ⟨types, dt, rfl, tsE.2.1, tsE.2.2, hN9 _ _ ?_⟩
    clear hN9 tsE
    refine seqN fun N10 hN10 => ?_
    walk_at "rd"
    refine ⟨GE.tabs, fun I1 e1 t1 => ?_⟩
    unfold TMet
    walk_at "rd"
    refine ⟨name, types, false, false, rfl, (odnE.gx (Gx.ext GE.dice e1)).is T, fun _ I2 s2 => .inl ⟨rfl, by decide, fun pl hpl => hN10 _ _ ?_⟩, fun e => nomatch e⟩
    clear hN10
    have GI := (GE.ext e1 t1).same s2
    have gxI : Gx d HE I2 := (Gx.ext GE.dice e1).trans (Gx.same (GE.ext e1 t1).dice s2)
    have npl : pl ≠ d := GI.dice.ne hpl
    have s3 := same_new (o := .lst [V.str (Str.ofString "word")]) hpl
    have fl1 : upd I2 pl (.lst [V.str (Str.ofString "word")]) pl = some (.lst [V.str (Str.ofString "word")]) := upd_same
    generalize upd I2 pl (.lst [V.str (Str.ofString "word")]) = J1 at *
    have g1 : Gt (tabs T) d I2 J1 := (Gt.refl GI.dice GI.tabs).same s3
    have tsI := fun H' g => tsF H' (gxI.trans g)
    have fgI := gxI.tup fgE
    have odnI := odnE.gx gxI
    have hlI := ins_gx gxI hlE
    clear tsF fgE odnE hlE gxI e1 t1 s2 s3
    refine seqN fun N11 hN11 => ?_
    walk_at "rd"
    refine ⟨.inl ⟨rfl, _, sql_of fl1⟩, g1.tabs, fun K1 e1 t1 => ?_⟩
    unfold TMet
    walk_at "rd"
    refine ⟨by decide, fun pq hpq => ?_⟩
    have s2 := same_new (o := .tup [V.ref pg]) hpq
    have fq : upd K1 pq (.tup [V.ref pg]) pq = some (.tup [V.ref pg]) := upd_same
    generalize upd K1 pq (.tup [V.ref pg]) = K2 at *
    have ga := (g1.ext e1 t1).same s2
    refine ⟨name, .ref pq, false, false, rfl, (odnI.gx (gx_of ga)).is T, fun _ K3 s3 => .inl ⟨rfl, ?_⟩, fun e => nomatch e⟩
    have gb := ga.same s3
    have fl1' : K3 pl = some (.lst [V.str (Str.ofString "word")]) := s3 _ _ (s2 _ _ (e1 _ _ fl1 (fun ps z => nomatch z)))
    refine ⟨pl, _, _, rfl, rfl, fl1', by decide, hN11 _ _ ?_⟩
    have g2 := gb.mut (o := .lst [V.str (Str.ofString "word"), V.str (Str.ofString "word")]) hpl npl fl1'
    have fl2 : upd K3 pl (.lst [V.str (Str.ofString "word"), V.str (Str.ofString "word")]) pl = some (.lst [V.str (Str.ofString "word"), V.str (Str.ofString "word")]) := upd_same
    rw [show [V.str (Str.ofString "word")] ++ [V.str (Str.ofString "word")] = [V.str (Str.ofString "word"), V.str (Str.ofString "word")] from rfl]
    generalize upd K3 pl (.lst [V.str (Str.ofString "word"), V.str (Str.ofString "word")]) = J2 at *
    clear hN11 e1 t1 s2 s3 ga gb fl1 fl1' fq hpq g1
    refine seqN fun N12 hN12 => ?_
    walk_at "rd"
    have nf : ∀ H, NmIs K H (.str (Str.ofString "f")) true := fun H => by
      have := NmIs.kn (K := K) (H := H) (v := .str (Str.ofString "f")) (.str _) (fun y e => by cases e; decide)
      rwa [show nameV (V.str (Str.ofString "f")) = true by decide +kernel] at this
    refine ⟨.inl ⟨rfl, _, sql_of fl2⟩, g2.tabs, fun K1 e1 t1 => ?_⟩
    unfold TMet
    walk_at "rd"
    have ga := g2.ext e1 t1
    refine ⟨_, types, true, false, rfl, nf K1, (fun e => nomatch e), fun _ => ⟨(tsI K1 (gx_of ga)).1, fun _ K3 s3 => .inr (.inr (.inl ⟨rfl, ?_⟩)), fun e => nomatch e⟩⟩
    have gb := ga.same s3
    have fl2' : K3 pl = some (.lst [V.str (Str.ofString "word"), V.str (Str.ofString "word")]) := s3 _ _ (e1 _ _ fl2 (fun ps z => nomatch z))
    refine ⟨pl, _, _, rfl, rfl, fl2', by decide, hN12 _ _ ?_⟩
    have g3 := gb.mut (o := .lst [V.str (Str.ofString "word"), V.str (Str.ofString "word"), V.str (Str.ofString "call")]) hpl npl fl2'
    have fl3 : upd K3 pl (.lst [V.str (Str.ofString "word"), V.str (Str.ofString "word"), V.str (Str.ofString "call")]) pl = some (.lst [V.str (Str.ofString "word"), V.str (Str.ofString "word"), V.str (Str.ofString "call")]) := upd_same
    rw [show [V.str (Str.ofString "word"), V.str (Str.ofString "word")] ++ [V.str (Str.ofString "call")] = [V.str (Str.ofString "word"), V.str (Str.ofString "word"), V.str (Str.ofString "call")] from rfl]
    generalize upd K3 pl (.lst [V.str (Str.ofString "word"), V.str (Str.ofString "word"), V.str (Str.ofString "call")]) = J3 at *
    clear hN12 e1 t1 s3 ga gb fl2 fl2' g2
    refine seqN fun N13 hN13 => ?_
    walk_at "rd"
    refine ⟨.inl ⟨rfl, _, sql_of fl3⟩, g3.tabs, fun K1 e1 t1 => ?_⟩
    unfold TMet
    walk_at "rd"
    refine ⟨by decide, fun pq hpq => ?_⟩
    have s2 := same_new (o := .tup [V.ref pg]) hpq
    have fq : upd K1 pq (.tup [V.ref pg]) pq = some (.tup [V.ref pg]) := upd_same
    generalize upd K1 pq (.tup [V.ref pg]) = K2 at *
    refine ⟨pq, 3, _, rfl, rfl, sqt_of fq, by simp, by decide, by decide, by simp, fun pr hpr => ?_⟩
    rw [show (List.replicate (Int.toNat 3) [V.ref pg]).flatten = [V.ref pg, V.ref pg, V.ref pg] from rfl]
    have s3 := same_new (o := .tup [V.ref pg, V.ref pg, V.ref pg]) hpr
    have fr : upd K2 pr (.tup [V.ref pg, V.ref pg, V.ref pg]) pr = some (.tup [V.ref pg, V.ref pg, V.ref pg]) := upd_same
    generalize upd K2 pr (.tup [V.ref pg, V.ref pg, V.ref pg]) = K3 at *
    have ga := (g3.ext e1 t1).same (s2.trans s3)
    have fg3 := (gx_of ga).tup fgI
    refine ⟨_, .ref pr, true, true, rfl, nf K3, (fun e => nomatch e), fun _ => ⟨.ok (bs := [(pg, [Str.ofString "int", Str.ofString "box"]), (pg, [Str.ofString "int", Str.ofString "box"]), (pg, [Str.ofString "int", Str.ofString "box"])]) fr (by simp) (by simp) (fun p hp => ?_), (fun e => nomatch e), fun _ z K4 s4 => ?_⟩⟩
    · have e : p = (pg, [Str.ofString "int", Str.ofString "box"]) := by simpa using hp
      subst e
      exact ⟨fg3, (show ∀ z ∈ [Str.ofString "int", Str.ofString "box"], isNm z = true by decide +kernel), (by simp), (by simp)⟩
    have gb := ga.same s4
    have fl3' : K4 pl = some (.lst [V.str (Str.ofString "word"), V.str (Str.ofString "word"), V.str (Str.ofString "call")]) := s4 _ _ (s3 _ _ (s2 _ _ (e1 _ _ fl3 (fun ps z => nomatch z))))
    refine ⟨pl, _, _, rfl, rfl, fl3', by decide, hN13 _ _ ?_⟩
    have g4 := gb.mut (o := .lst [V.str (Str.ofString "word"), V.str (Str.ofString "word"), V.str (Str.ofString "call"), V.str (Str.ofString "fine")]) hpl npl fl3'
    have fl4 : upd K4 pl (.lst [V.str (Str.ofString "word"), V.str (Str.ofString "word"), V.str (Str.ofString "call"), V.str (Str.ofString "fine")]) pl = some (.lst [V.str (Str.ofString "word"), V.str (Str.ofString "word"), V.str (Str.ofString "call"), V.str (Str.ofString "fine")]) := upd_same
    rw [show [V.str (Str.ofString "word"), V.str (Str.ofString "word"), V.str (Str.ofString "call")] ++ [V.str (Str.ofString "fine")] = [V.str (Str.ofString "word"), V.str (Str.ofString "word"), V.str (Str.ofString "call"), V.str (Str.ofString "fine")] from rfl]
    generalize upd K4 pl (.lst [V.str (Str.ofString "word"), V.str (Str.ofString "word"), V.str (Str.ofString "call"), V.str (Str.ofString "fine")]) = J4 at *
    clear hN13 e1 t1 s2 s3 s4 ga gb fl3 fl3' g3 fq fr hpq hpr fg3
    refine seqN fun N14 hN14 => ?_
    walk_at "rd"
    walk_at "rdx"
    have plT : ∀ w ∈ [Str.ofString "word", Str.ofString "word", Str.ofString "call", Str.ofString "fine"], Pl w := by
      intro w hw
      simp only [List.mem_cons, List.not_mem_nil, or_false] at hw
      rcases hw with rfl | rfl | rfl | rfl <;> (intro c hc; revert c; decide)
    refine ⟨by decide, fun pr hpr => ?_⟩
    have s5 := same_new (o := .lst [V.str (Str.ofString "word"), V.str (Str.ofString "word"), V.str (Str.ofString "call"), V.str (Str.ofString "fine")]) hpr
    have fr : upd J4 pr (.lst [V.str (Str.ofString "word"), V.str (Str.ofString "word"), V.str (Str.ofString "call"), V.str (Str.ofString "fine")]) pr = some (.lst [V.str (Str.ofString "word"), V.str (Str.ofString "word"), V.str (Str.ofString "call"), V.str (Str.ofString "fine")]) := upd_same
    generalize upd J4 pr (.lst [V.str (Str.ofString "word"), V.str (Str.ofString "word"), V.str (Str.ofString "call"), V.str (Str.ofString "fine")]) = J5 at *
    have g5 := g4.same s5
    refine neLs (xs := [Str.ofString "word", Str.ofString "word", Str.ofString "call", Str.ofString "fine"]) (ys := [Str.ofString "word", Str.ofString "word", Str.ofString "call", Str.ofString "fine"]) (sql_of (s5 _ _ fl4)) (sql_of fr) plT plT ?_
    rw [decide_eq_true rfl]
    have tsJ := tsI J5 (gx_of g5)
    refine ⟨_, rfl, iteF ⟨types, dt, rfl, tsJ.2.1, tsJ.2.2, by simp [scal], ?_⟩⟩
    rw [decide_eq_true rfl]
    refine iteF (hN14 _ _ ?_)
    clear hN14 plT tsJ fl4 fr hpr
    have GJ : Gt (tabs T) d H J5 := GI.trans g5
    have gxJ := gx_of g5
    have fgJ := gxJ.tup fgI
    have hlJ := ins_gx gxJ hlI
    clear tsI odnI fgI hlI g4 g5 gxJ nf npl hpl s5
    refine seqN fun N15 hN15 => ?_
    walk_at "rd"
    walk_at "rdx"
    refine ⟨by decide, fun l0 h1 => ⟨by decide, ?_⟩⟩
    have su1 := same_new (o := .tup [V.str (Str.ofString "value"), V.ref pg]) h1
    have fu1 : upd J5 l0 (.tup [V.str (Str.ofString "value"), V.ref pg]) l0 = some (.tup [V.str (Str.ofString "value"), V.ref pg]) := upd_same
    generalize upd J5 l0 (.tup [V.str (Str.ofString "value"), V.ref pg]) = U1 at *
    intro p0 h2
    have su2 := same_new (o := .tup [V.int 0]) h2
    have fu2 : upd U1 p0 (.tup [V.int 0]) p0 = some (.tup [V.int 0]) := upd_same
    generalize upd U1 p0 (.tup [V.int 0]) = U2 at *
    refine ⟨by decide, fun l1 h3 => ⟨by decide, ?_⟩⟩
    have su3 := same_new (o := .tup [V.str (Str.ofString "call"), V.str (Str.ofString "f"), V.ref p0]) h3
    have fu3 : upd U2 l1 (.tup [V.str (Str.ofString "call"), V.str (Str.ofString "f"), V.ref p0]) l1 = some (.tup [V.str (Str.ofString "call"), V.str (Str.ofString "f"), V.ref p0]) := upd_same
    generalize upd U2 l1 (.tup [V.str (Str.ofString "call"), V.str (Str.ofString "f"), V.ref p0]) = U3 at *
    intro pa h4
    have su4 := same_new (o := .tup [V.str (Str.ofString "a")]) h4
    have fu4 : upd U3 pa (.tup [V.str (Str.ofString "a")]) pa = some (.tup [V.str (Str.ofString "a")]) := upd_same
    generalize upd U3 pa (.tup [V.str (Str.ofString "a")]) = U4 at *
    refine ⟨by decide, fun l2 h5 => ⟨by decide, ?_⟩⟩
    have su5 := same_new (o := .tup [V.str (Str.ofString "value"), V.ref pa]) h5
    have fu5 : upd U4 l2 (.tup [V.str (Str.ofString "value"), V.ref pa]) l2 = some (.tup [V.str (Str.ofString "value"), V.ref pa]) := upd_same
    generalize upd U4 l2 (.tup [V.str (Str.ofString "value"), V.ref pa]) = U5 at *
    intro pq h6
    have su6 := same_new (o := .tup [V.int 1, V.int 0, V.int 2]) h6
    have fu6 : upd U5 pq (.tup [V.int 1, V.int 0, V.int 2]) pq = some (.tup [V.int 1, V.int 0, V.int 2]) := upd_same
    generalize upd U5 pq (.tup [V.int 1, V.int 0, V.int 2]) = U6 at *
    refine ⟨by decide, fun l3 h7 => ⟨by decide, ?_⟩⟩
    have su7 := same_new (o := .tup [V.str (Str.ofString "call"), V.str (Str.ofString "call"), V.ref pq]) h7
    have fu7 : upd U6 l3 (.tup [V.str (Str.ofString "call"), V.str (Str.ofString "call"), V.ref pq]) l3 = some (.tup [V.str (Str.ofString "call"), V.str (Str.ofString "call"), V.ref pq]) := upd_same
    generalize upd U6 l3 (.tup [V.str (Str.ofString "call"), V.str (Str.ofString "call"), V.ref pq]) = U7 at *
    intro pn8 h8
    refine hN15 _ _ ?_
    clear hN15
    have su8 := same_new (o := .lst [V.ref l0, V.ref l1, V.ref l2, V.ref l3]) h8
    have fln : upd U7 pn8 (.lst [V.ref l0, V.ref l1, V.ref l2, V.ref l3]) pn8 = some (.lst [V.ref l0, V.ref l1, V.ref l2, V.ref l3]) := upd_same
    generalize upd U7 pn8 (.lst [V.ref l0, V.ref l1, V.ref l2, V.ref l3]) = HG at *
    have t6 := su6.trans (su7.trans su8)
    have t5 := su5.trans t6
    have t3 := su3.trans (su4.trans t5)
    have sJ := su1.trans (su2.trans t3)
    have npn8 : pn8 ≠ d := (GJ.dice.same (su1.trans (su2.trans (su3.trans (su4.trans (su5.trans (su6.trans su7))))))).ne h8
    have GG := GJ.same sJ
    have gxG : Gx d J5 HG := Gx.same GJ.dice sJ
    have LG : L4 HG l0 l1 l2 l3 pg pa p0 pq := ⟨(su2.trans t3) _ _ fu1, (su4.trans t5) _ _ fu3, t6 _ _ fu5, su8 _ _ fu7, gxG.tup fgJ, t5 _ _ fu4, t3 _ _ fu2, (su7.trans su8) _ _ fu6⟩
    have hlG := ins_gx gxG hlJ
    clear su1 su2 su3 su4 su5 su6 su7 su8 t6 t5 t3 sJ fu1 fu2 fu3 fu4 fu5 fu6 fu7 h1 h2 h3 h4 h5 h6 h7 h8 gxG fgJ hlJ
    refine seqN fun N16 hN16 => ?_
    walk_at "rd"
    walk_at "rdx"
    refine ⟨d, 5, rfl, by decide, by decide, GG.dice, fun k y1 y2 y3 k0 k5 => hN16 _ _ ?_⟩
    clear hN16
    obtain ⟨at_, rfl⟩ : ∃ n : Nat, k = (n : Int) := ⟨k.toNat, (Int.toNat_of_nonneg k0).symm⟩
    have la : at_ ≤ 4 := by omega
    have gK : Gr d HG (upd HG d (.lst [.int y1, .int y2, .int y3])) := Gr.roll GG.dice
    generalize upd HG d (.lst [.int y1, .int y2, .int y3]) = HK at *
    have GK := GG.gr gK
    have gxK := Gx.gr gK
    have LK := LG.gx gxK
    have hlK := ins_gx gxK hlG
    have flK := gxK.lst npn8 fln
    clear LG hlG fln gK k0 k5 gxK
    refine seqN fun N17 hN17 => ?_
    walk_at "rd"
    walk_at "rdx"
    refine ⟨d, at_, rfl, la, GK.dice, fun pb HA bs sA hpb fb neb lb bsB => ?_⟩
    have npb : pb ≠ d := GK.dice.ne hpb
    have GA := GK.same sA
    refine .inl ⟨d, _, rfl, GA.dice, .inl ⟨pb, _, rfl, npb, sql_of fb, neb, by omega, fun wrong HB hwr gB => hN17 _ _ ?_⟩⟩
    clear hN17
    have gxB : Gx d HK HB := (Gx.same GK.dice sA).trans (.gr gB)
    have wrB : LnIs HB at_ wrong false := LnIs.gx (Gx.gr gB) (bsB wrong hwr)
    have GB := GA.gr gB
    have LB := LK.gx gxB
    have hlB := ins_gx gxB hlK
    have flB := gxB.lst npn8 flK
    clear LK hlK flK gB gxB sA fb neb lb bsB hwr hpb npb
    refine seqN fun N18 hN18 => ?_
    walk_at "rd"
    walk_at "rdx"
    refine ⟨by decide, fun p1 h1 => ⟨by decide, ?_⟩⟩
    have su1 := same_new (o := .tup []) h1
    have fu1 : upd HB p1 (.tup []) p1 = some (.tup []) := upd_same
    generalize upd HB p1 (.tup []) = U1 at *
    intro p2 h2
    have su2 := same_new (o := .lst []) h2
    have fu2 : upd U1 p2 (.lst []) p2 = some (.lst []) := upd_same
    generalize upd U1 p2 (.lst []) = U2 at *
    intro p3 h3
    have su3 := same_new (o := .dK []) h3
    have fu3 : upd U2 p3 (.dK []) p3 = some (.dK []) := upd_same
    generalize upd U2 p3 (.dK []) = U3 at *
    refine ⟨pn8, _, rfl, sql_of ((su1.trans (su2.trans su3)) _ _ flB), fun p4 h4 => ?_⟩
    rw [show cutV [V.ref l0, V.ref l1, V.ref l2, V.ref l3] (some 1) none = [V.ref l1, V.ref l2, V.ref l3] from rfl]
    have su4 := same_new (o := .lst [V.ref l1, V.ref l2, V.ref l3]) h4
    have fu4 : upd U3 p4 (.lst [V.ref l1, V.ref l2, V.ref l3]) p4 = some (.lst [V.ref l1, V.ref l2, V.ref l3]) := upd_same
    generalize upd U3 p4 (.lst [V.ref l1, V.ref l2, V.ref l3]) = U4 at *
    refine tupL (sql_of fu4) fun p5 h5 => ?_
    have su5 := same_new (o := .tup [V.ref l1, V.ref l2, V.ref l3]) h5
    have fu5 : upd U4 p5 (.tup [V.ref l1, V.ref l2, V.ref l3]) p5 = some (.tup [V.ref l1, V.ref l2, V.ref l3]) := upd_same
    generalize upd U4 p5 (.tup [V.ref l1, V.ref l2, V.ref l3]) = U5 at *
    refine tupL (sql_of ((su1.trans (su2.trans (su3.trans (su4.trans su5)))) _ _ flB)) fun p6 h6 => ?_
    have su6 := same_new (o := .tup [V.ref l0, V.ref l1, V.ref l2, V.ref l3]) h6
    have fu6 : upd U5 p6 (.tup [V.ref l0, V.ref l1, V.ref l2, V.ref l3]) p6 = some (.tup [V.ref l0, V.ref l1, V.ref l2, V.ref l3]) := upd_same
    generalize upd U5 p6 (.tup [V.ref l0, V.ref l1, V.ref l2, V.ref l3]) = U6 at *
    refine ⟨by decide, fun p7 h7 => ⟨by decide, fun pz hpz => ?_⟩⟩
    have su7 := same_new (o := .tup [V.ref p6]) h7
    have fu7 : upd U6 p7 (.tup [V.ref p6]) p7 = some (.tup [V.ref p6]) := upd_same
    generalize upd U6 p7 (.tup [V.ref p6]) = U7 at *
    have su8 := same_new (o := .lst [V.non, V.int 0, V.ref p1, V.ref p2, V.ref p3, V.str (Str.ofString "value a"), V.ref pn8, V.ref p5, V.ref p7, V.ref x, V.bl true]) hpz
    have fz : upd U7 pz (.lst [V.non, V.int 0, V.ref p1, V.ref p2, V.ref p3, V.str (Str.ofString "value a"), V.ref pn8, V.ref p5, V.ref p7, V.ref x, V.bl true]) pz = some (.lst [V.non, V.int 0, V.ref p1, V.ref p2, V.ref p3, V.str (Str.ofString "value a"), V.ref pn8, V.ref p5, V.ref p7, V.ref x, V.bl true]) := upd_same
    generalize upd U7 pz (.lst [V.non, V.int 0, V.ref p1, V.ref p2, V.ref p3, V.str (Str.ofString "value a"), V.ref pn8, V.ref p5, V.ref p7, V.ref x, V.bl true]) = HC2 at *
    have t7 := su7.trans su8
    have t5 := su6.trans t7
    have t3 := su4.trans (su5.trans t5)
    have t2 := su3.trans t3
    have t1 := su2.trans t2
    have sB := su1.trans t1
    have npz : pz ≠ d := (GB.dice.same (su1.trans (su2.trans (su3.trans (su4.trans (su5.trans (su6.trans su7))))))).ne hpz
    have GC2 := GB.same sB
    have gxC : Gx d HB HC2 := Gx.same GB.dice sB
    have LC := LB.gx gxC
    have hlC := ins_gx gxC hlB
    have wrC : LnIs HC2 at_ wrong false := wrB.gx gxC
    have flC := gxC.lst npn8 flB
    have allZ : ∀ y ∈ [V.non, V.int 0, V.ref p1, V.ref p2, V.ref p3, V.str (Str.ofString "value a"), V.ref pn8, V.ref p5, V.ref p7, V.ref x, V.bl true], OdP0 T.C_Library HC2 y := by
      intro y hy
      have x1 := t1 _ _ fu1
      have x2 := t2 _ _ fu2
      have x3 := t3 _ _ fu3
      have x5 := t5 _ _ fu5
      have x6 := t7 _ _ fu6
      have x7 := su8 _ _ fu7
      simp only [List.mem_cons, List.not_mem_nil, or_false] at hy
      rcases hy with rfl | rfl | rfl | rfl | rfl | rfl | rfl | rfl | rfl | rfl | rfl
      · exact .inl (.inl ⟨_, .non, by decide⟩)
      · exact .inl (.inl ⟨_, .int _, by decide⟩)
      · exact .inr ⟨_, rfl, x1⟩
      · exact .inl (.inl ⟨_, .lst x2, by decide⟩)
      · exact .inl (.inl ⟨_, .dK x3, by decide⟩)
      · exact .inl (.inl ⟨_, .str _, by decide⟩)
      · exact .inl (.inl ⟨_, .lst flC, by decide⟩)
      · refine .inl (.inr (.inr ⟨_, _, rfl, x5, by simp, ?_⟩))
        have f0 : LnIs HC2 0 (.ref l1) false := by
          have := LC.c1 0
          rwa [show (nameV (.str (Str.ofString "f")) && argsB 0 [.int 0]) = false by decide +kernel] at this
        obtain ⟨b1, f1⟩ := LC.any 1 (.ref l2) (by simp)
        obtain ⟨b2, f2⟩ := LC.any 2 (.ref l3) (by simp)
        refine ⟨fun i => match i with | 0 => false | 1 => b1 | _ => b2, fun i x e => ?_, by simp [List.range, List.range.loop]⟩
        match i, e with
        | 0, e => (cases e; exact f0)
        | 1, e => (cases e; exact f1)
        | 2, e => (cases e; exact f2)
      · refine .inl (.inr (.inr ⟨_, _, rfl, x7, by simp, fun _ => false, fun i x e => ?_, rfl⟩))
        match i, e with
        | 0, e => (cases e; exact .nostr x6 (.tup LC.e0) (by decide))
      · exact .inl (.inr (.inl ⟨_, _, _, rfl, hlC⟩))
      · exact .inl (.inl ⟨_, .bl _, by decide⟩)
    clear su1 su2 su3 su4 su5 su6 su7 su8 t7 t5 t3 t2 t1 sB fu1 fu2 fu3 fu4 fu5 fu6 fu7 h1 h2 h3 h4 h5 h6 h7 hpz gxC LB hlB wrB flB hlC
    have neZ : [V.non, V.int 0, V.ref p1, V.ref p2, V.ref p3, V.str (Str.ofString "value a"), V.ref pn8, V.ref p5, V.ref p7, V.ref x, V.bl true] ≠ [] := by simp
    have leZ : [V.non, V.int 0, V.ref p1, V.ref p2, V.ref p3, V.str (Str.ofString "value a"), V.ref pn8, V.ref p5, V.ref p7, V.ref x, V.bl true].length = 11 := rfl
    generalize [V.non, V.int 0, V.ref p1, V.ref p2, V.ref p3, V.str (Str.ofString "value a"), V.ref pn8, V.ref p5, V.ref p7, V.ref x, V.bl true] = nns at *
    refine .inl ⟨d, _, rfl, GC2.dice, .inl ⟨pz, _, rfl, npz, sql_of fz, neZ, by omega, fun none_ HE2 hnn gE => hN18 _ _ ?_⟩⟩
    clear hN18
    have gxE := Gx.gr gE
    have nnE : OdP0 T.C_Library HE2 none_ := (allZ none_ hnn).gx gxE
    have LE := LC.gx gxE
    have wrE : LnIs HE2 at_ wrong false := wrC.gx gxE
    have flE := gxE.lst npn8 flC
    have GE2 := GC2.gr gE
    clear allZ neZ leZ fz npz LC wrC flC gE gxE hnn
    refine seqN fun N19 hN19 => ?_
    walk_at "rd"
    refine ⟨GE2.tabs, fun I1 e1 t1 => ?_⟩
    unfold TMet
    walk_at "rd"
    walk_at "rdx"
    have flI := e1 _ _ flE (fun ps z => nomatch z)
    refine ⟨pn8, _, rfl, sql_of flI, fun p4 h4 => ?_⟩
    rw [cut_to (xs := [V.ref l0, V.ref l1, V.ref l2, V.ref l3]) la]
    have su1 := same_new (o := .lst ([V.ref l0, V.ref l1, V.ref l2, V.ref l3].take at_)) h4
    have fu1 : upd I1 p4 (.lst ([V.ref l0, V.ref l1, V.ref l2, V.ref l3].take at_)) p4 = some (.lst ([V.ref l0, V.ref l1, V.ref l2, V.ref l3].take at_)) := upd_same
    generalize upd I1 p4 (.lst ([V.ref l0, V.ref l1, V.ref l2, V.ref l3].take at_)) = U1 at *
    refine ⟨by decide, fun p5 h5 => ?_⟩
    have su2 := same_new (o := .lst [wrong]) h5
    have fu2 : upd U1 p5 (.lst [wrong]) p5 = some (.lst [wrong]) := upd_same
    generalize upd U1 p5 (.lst [wrong]) = U2 at *
    have lt4 : ([V.ref l0, V.ref l1, V.ref l2, V.ref l3].take at_).length ≤ 4 := by rw [List.length_take]; exact Nat.min_le_right _ _
    have ld4 : ([V.ref l0, V.ref l1, V.ref l2, V.ref l3].drop at_).length ≤ 4 := by rw [List.length_drop]; exact Nat.sub_le _ _
    refine catL (su2 _ _ fu1) fu2 (by rw [List.length_singleton]; omega) fun p6 U3 su3 fu3 => ?_
    refine ⟨pn8, _, rfl, sql_of ((su1.trans (su2.trans su3)) _ _ flI), fun p7 h7 => ?_⟩
    rw [cut_from (xs := [V.ref l0, V.ref l1, V.ref l2, V.ref l3]) la]
    have su4 := same_new (o := .lst ([V.ref l0, V.ref l1, V.ref l2, V.ref l3].drop at_)) h7
    have fu4 : upd U3 p7 (.lst ([V.ref l0, V.ref l1, V.ref l2, V.ref l3].drop at_)) p7 = some (.lst ([V.ref l0, V.ref l1, V.ref l2, V.ref l3].drop at_)) := upd_same
    generalize upd U3 p7 (.lst ([V.ref l0, V.ref l1, V.ref l2, V.ref l3].drop at_)) = U4 at *
    refine catL (su4 _ _ fu3) fu4 (by rw [List.length_append, List.length_singleton]; omega) fun p8 U5 su5 fu5 => ?_
    refine tupL (sql_of fu5) fun p9 h9 => ?_
    have su6 := same_new (o := .tup ([V.ref l0, V.ref l1, V.ref l2, V.ref l3].take at_ ++ [wrong] ++ [V.ref l0, V.ref l1, V.ref l2, V.ref l3].drop at_)) h9
    have fu6 : upd U5 p9 (.tup ([V.ref l0, V.ref l1, V.ref l2, V.ref l3].take at_ ++ [wrong] ++ [V.ref l0, V.ref l1, V.ref l2, V.ref l3].drop at_)) p9 = some (.tup ([V.ref l0, V.ref l1, V.ref l2, V.ref l3].take at_ ++ [wrong] ++ [V.ref l0, V.ref l1, V.ref l2, V.ref l3].drop at_)) := upd_same
    generalize upd U5 p9 (.tup ([V.ref l0, V.ref l1, V.ref l2, V.ref l3].take at_ ++ [wrong] ++ [V.ref l0, V.ref l1, V.ref l2, V.ref l3].drop at_)) = U6 at *
    have sI := su1.trans (su2.trans (su3.trans (su4.trans (su5.trans su6))))
    have ga := (GE2.ext e1 t1).same sI
    have gxa : Gx d HE2 U6 := (Gx.ext GE2.dice e1).trans (Gx.same (GE2.ext e1 t1).dice sI)
    refine ⟨_, rfl, .inl ⟨(LE.gx gxa).bad K (wrE.gx gxa) la fu6, fun U7 s7 => .inr (.inr (.inr ⟨rfl, by decide, fun pl hpl => hN19 _ _ ?_⟩))⟩⟩
    clear hN19
    have GI := ga.same s7
    have gxI : Gx d HE2 U7 := gxa.trans (Gx.same ga.dice s7)
    have npl : pl ≠ d := GI.dice.ne hpl
    have s3 := same_new (o := .lst [V.str (Str.ofString "program")]) hpl
    have fl1 : upd U7 pl (.lst [V.str (Str.ofString "program")]) pl = some (.lst [V.str (Str.ofString "program")]) := upd_same
    generalize upd U7 pl (.lst [V.str (Str.ofString "program")]) = J1 at *
    have g1 : Gt (tabs T) d U7 J1 := (Gt.refl GI.dice GI.tabs).same s3
    have nnI := nnE.gx gxI
    have LI := LE.gx gxI
    have flI := gxI.lst npn8 flE
    clear su1 su2 su3 su4 su5 su6 s7 s3 e1 t1 sI ga gxa gxI fu1 fu2 fu3 fu4 fu5 fu6 h4 h5 h7 h9 wrE nnE LE flE
    refine seqN fun N20 hN20 => ?_
    walk_at "rd"
    refine ⟨.inl ⟨rfl, _, sql_of fl1⟩, g1.tabs, fun K1 e1 t1 => ?_⟩
    unfold TMet
    walk_at "rd"
    have ga := g1.ext e1 t1
    refine ⟨none_, rfl, .inl ⟨(nnI.gx (gx_of ga)).is T, fun K3 s3 => .inr (.inr (.inr ⟨rfl, ?_⟩))⟩⟩
    have gb := ga.same s3
    have fl1' : K3 pl = some (.lst [V.str (Str.ofString "program")]) := s3 _ _ (e1 _ _ fl1 (fun ps z => nomatch z))
    refine ⟨pl, _, _, rfl, rfl, fl1', by decide, hN20 _ _ ?_⟩
    have g2 := gb.mut (o := .lst [V.str (Str.ofString "program"), V.str (Str.ofString "program")]) hpl npl fl1'
    have fl2 : upd K3 pl (.lst [V.str (Str.ofString "program"), V.str (Str.ofString "program")]) pl = some (.lst [V.str (Str.ofString "program"), V.str (Str.ofString "program")]) := upd_same
    rw [show [V.str (Str.ofString "program")] ++ [V.str (Str.ofString "program")] = [V.str (Str.ofString "program"), V.str (Str.ofString "program")] from rfl]
    generalize upd K3 pl (.lst [V.str (Str.ofString "program"), V.str (Str.ofString "program")]) = J2 at *
    clear hN20 e1 t1 s3 ga gb fl1 fl1' g1
    refine seqN fun N21 hN21 => ?_
    walk_at "rd"
    refine ⟨.inl ⟨rfl, _, sql_of fl2⟩, g2.tabs, fun K1 e1 t1 => ?_⟩
    unfold TMet
    walk_at "rd"
    walk_at "rdx"
    have ga := g2.ext e1 t1
    refine ⟨d, 4, rfl, by decide, by decide, ga.dice, fun kk y1 y2 y3 k0 k4 => ⟨kk, rfl, ?_⟩⟩
    obtain ⟨k, rfl⟩ : ∃ n : Nat, kk = (n : Int) := ⟨kk.toNat, (Int.toNat_of_nonneg k0).symm⟩
    have lk : k < 4 := by omega
    have gK : Gr d K1 (upd K1 d (.lst [.int y1, .int y2, .int y3])) := Gr.roll ga.dice
    generalize upd K1 d (.lst [.int y1, .int y2, .int y3]) = K2 at *
    have gb := ga.gr gK
    have gxb := gx_of gb
    have flb := gxb.lst npn8 flI
    refine ⟨pn8, _, rfl, sql_of flb, fun p4 h4 => ?_⟩
    rw [show (1 + (k : Int)) = ((1 + k : Nat) : Int) by omega, cut_to (xs := [V.ref l0, V.ref l1, V.ref l2, V.ref l3]) (show 1 + k ≤ 4 by omega)]
    have su1 := same_new (o := .lst ([V.ref l0, V.ref l1, V.ref l2, V.ref l3].take (1 + k))) h4
    have fu1 : upd K2 p4 (.lst ([V.ref l0, V.ref l1, V.ref l2, V.ref l3].take (1 + k))) p4 = some (.lst ([V.ref l0, V.ref l1, V.ref l2, V.ref l3].take (1 + k))) := upd_same
    generalize upd K2 p4 (.lst ([V.ref l0, V.ref l1, V.ref l2, V.ref l3].take (1 + k))) = U1 at *
    refine tupL (sql_of fu1) fun p9 h9 => ?_
    have su2 := same_new (o := .tup ([V.ref l0, V.ref l1, V.ref l2, V.ref l3].take (1 + k))) h9
    have fu2 : upd U1 p9 (.tup ([V.ref l0, V.ref l1, V.ref l2, V.ref l3].take (1 + k))) p9 = some (.tup ([V.ref l0, V.ref l1, V.ref l2, V.ref l3].take (1 + k))) := upd_same
    generalize upd U1 p9 (.tup ([V.ref l0, V.ref l1, V.ref l2, V.ref l3].take (1 + k))) = U2 at *
    have gc := gb.same (su1.trans su2)
    have Lc := LI.gx (gx_of gc)
    refine ⟨_, rfl, .inr ⟨p9, _, rfl, fu2, Nat.le_trans (by rw [List.length_take]; exact Nat.min_le_right _ _) (show 4 ≤ 8000 by decide), Lc.some_ K lk fu2, fun x hx => Lc.lw x (List.mem_of_mem_take hx), fun z K3 s3 => ?_⟩⟩
    have gd := gc.same s3
    have fl2' : K3 pl = some (.lst [V.str (Str.ofString "program"), V.str (Str.ofString "program")]) := s3 _ _ (su2 _ _ (su1 _ _ ((Gx.gr gK).lst npl (e1 _ _ fl2 (fun ps z => nomatch z)))))
    refine ⟨pl, _, _, rfl, rfl, fl2', by decide, hN21 _ _ ?_⟩
    have g3 := gd.mut (o := .lst [V.str (Str.ofString "program"), V.str (Str.ofString "program"), V.str (Str.ofString "fine")]) hpl npl fl2'
    have fl3 : upd K3 pl (.lst [V.str (Str.ofString "program"), V.str (Str.ofString "program"), V.str (Str.ofString "fine")]) pl = some (.lst [V.str (Str.ofString "program"), V.str (Str.ofString "program"), V.str (Str.ofString "fine")]) := upd_same
    rw [show [V.str (Str.ofString "program"), V.str (Str.ofString "program")] ++ [V.str (Str.ofString "fine")] = [V.str (Str.ofString "program"), V.str (Str.ofString "program"), V.str (Str.ofString "fine")] from rfl]
    generalize upd K3 pl (.lst [V.str (Str.ofString "program"), V.str (Str.ofString "program"), V.str (Str.ofString "fine")]) = J3 at *
    clear hN21 e1 t1 su1 su2 s3 ga gb gxb gc gd fl2 fl2' g2 gK k0 k4 h4 h9 flb
    walk_at "rd"
    have plT : ∀ w ∈ [Str.ofString "program", Str.ofString "program", Str.ofString "fine"], Pl w := by
      intro w hw
      simp only [List.mem_cons, List.not_mem_nil, or_false] at hw
      rcases hw with rfl | rfl | rfl <;> (intro c hc; revert c; decide)
    refine ⟨by decide, fun pr hpr => ?_⟩
    have s4 := same_new (o := .lst [V.str (Str.ofString "program"), V.str (Str.ofString "program"), V.str (Str.ofString "fine")]) hpr
    have fr : upd J3 pr (.lst [V.str (Str.ofString "program"), V.str (Str.ofString "program"), V.str (Str.ofString "fine")]) pr = some (.lst [V.str (Str.ofString "program"), V.str (Str.ofString "program"), V.str (Str.ofString "fine")]) := upd_same
    generalize upd J3 pr (.lst [V.str (Str.ofString "program"), V.str (Str.ofString "program"), V.str (Str.ofString "fine")]) = J4 at *
    refine eqLs (xs := [Str.ofString "program", Str.ofString "program", Str.ofString "fine"]) (ys := [Str.ofString "program", Str.ofString "program", Str.ofString "fine"]) (sql_of (s4 _ _ fl3)) (sql_of fr) plT plT ?_
    rw [decide_eq_true rfl]
    exact q _ (GI.trans (g3.same s4))
end

local macro_rules | `(tactic| walk_at "rdx") => `(tactic| ((try simp only [tFld, gTup, gStar, tJs, tFmt, sFld, tSc_eq, tDGet, tMake, tMakeK, ClX.tCMeth]); try walk_at "rd"))
section
variable {w : World} {K : PySem.W.Frag} {mg : Str → Option Value} {base : Heap}
def spLaw (K : PySem.W.Frag) (cs : List (Addr × Addr)) : Sp := fun vs H Q _ => ∃ (a : Addr) (ns : List Int), vs = [.ref a] ∧ (∀ p ∈ cs, H p.2 = some (.tbl #[])) ∧ SqL K H a (ns.map V.int) ∧ ∀ H', Q (.bl true) H'
structure Bt (K : PySem.W.Frag) (L : List (Addr × Str)) (s : Addr) (ns : List Int) (i : Nat) (H : Hp) : Prop where
  sc : SqL K H s (ns.map V.int)
  tb : LamX.Tabs L H
  dc : 0 < i → ∃ e, Dc H e
def inv_law (K : PySem.W.Frag) (L : List (Addr × Str)) (s : Addr) (ns : List Int) : Nat → L2.St → Hp → Prop := fun i σ H =>
  ∃ (x1 x2 x3 : Option V), σ = [some (.ref s), x1, x2, x3, none, none, none] ∧ Bt K L s ns i H
theorem gt_sql {L : List (Addr × Str)} {H H1 : Hp} {e s : Addr} {o : HO} {xs : List V} (h : SqL K H s xs) (he : H e = none) (g : Gt L e (upd H e o) H1) : SqL K H1 s xs := by
  rcases h with (h | ⟨u, h⟩) | h
  · exact .inl (.inl (g.keep _ _ (ne_of_none h he) (fun ps z => nomatch z) (same_new he _ _ h)))
  · exact .inl (.inr ⟨u, g.keep _ _ (ne_of_none h he) (fun ps z => nomatch z) (same_new he _ _ h)⟩)
  · exact .inr h
theorem ok_law (T : Tx K mg) (TB_Library___init__ : LamX.TabB base mg T.c_Library___init__ T.P_Library___init__) (TB__law_right : LamX.TabB base mg T.c__law_right T.P__law_right) (TB_law : LamX.TabB base mg T.c_law T.P_law) : FnG P w K mg base CX0 14 T.f_law T.d_law ["_law_script"] (spLaw K [(T.c_Library___init__, T.P_Library___init__), (T.c__law_right, T.P__law_right), (T.c_law, T.P_law)]) := by
  obtain ⟨oc, od, kV, doc, pm, an, cdM, ct, osl, eM, lkM, hcM⟩ := T.F__law_word_of.ex
  have hbM := T.b__law_word_of
  rw [eM] at lkM hbM
  refine okGL T.F_law T.k_law sc_law (fun vs H Q E h => ?_) (fun A outer s H vs Q E hgd hr h => ?_)
  · obtain ⟨a, ns, rfl, _⟩ := h
    rfl
  · obtain ⟨a, ns, rfl, hC, hS, q⟩ := h
    refine ⟨_, (pss_cons (ps_for PassesOwn.never rfl (pi_range1 (by rfl) T.n_range (pa_cons (pe_callB (call_max2 rfl) (by rfl) T.n_max (by decide +kernel) (pa_cons pe_int (pa_cons (pe_callB (call_min2 rfl) (by rfl) T.n_min (by decide +kernel) (pa_cons pe_int (pa_cons (pe_callB call_len (by rfl) T.n_len (by decide +kernel) (pa_cons (pv 0) pa_nil)) pa_nil))) pa_nil))) pa_nil)) (pg_name (i := 1) sc_law.nd rfl (Or.inl rfl)) (pss_cons (ps_set (i := 2) sc_law.nd rfl (Or.inl rfl) (pe_call (ok_law_reel_of T) (hr.mono (by decide)) (by rfl) T.g__law_reel_of T.F__law_reel_of.kp T.b__law_reel_of .nil pass0 (pa_cons (pv 0) (pa_cons (pv 1) pa_nil))))
      (pss_one (ps_for PassesOwn.never rfl (pi_range1 (by rfl) T.n_range (pa_cons pe_int pa_nil)) (pg_name (i := 3) sc_law.nd rfl (Or.inl rfl)) (pss_one (ps_if (pt_not (pt_val (pe_callG (ok_law_right T TB_Library___init__ TB__law_right) hgd (hr.mono (by decide)) (by rfl) T.g__law_right T.F__law_right.kp T.b__law_right .nil pass0 (pa_cons (pv 2) pa_nil)))) (pss_one (ps_ret pe_bl)) pss_nil))))))
      (pss_cons (ps_set (i := 4) sc_law.nd rfl (Or.inl rfl) (pe_op op_repL (pe_tup (pa_cons (pe_tup (pa_cons pe_str (pa_cons (pe_tup (pa_cons pe_str pa_nil)) pa_nil))) pa_nil)) pe_int))
      (pss_cons (ps_setLc (i := 5) (own := [("_law_lines", 6)]) (g := gName 6) (by rfl) sc_law.nd rfl rfl (sw_true rfl rfl rfl (by decide +kernel)) (pi_tup (pe_tup (pa_cons (pv 4) (pa_cons (pe_op op_catA (pv 4) (pe_tup (pa_cons (pe_tup (pa_cons pe_str (pa_cons pe_str (pa_cons (pe_tup (pa_cons pe_int pa_nil)) pa_nil)))) pa_nil))) pa_nil)))) (blkOk_by (own := [("_law_lines", 6)]) (N := ["_law_script", "_law_spot", "_law_reel", "_law_turn", "_law_more", "_law_told", "_law_lines"]) (sc := defScope s_law) (by decide +kernel)) (fun _ _ _ _ _ => (pg_name (i := 6) sc_law.nd rfl (Or.inr rfl) (hf := Or.inl rfl))) (fun _ _ _ _ _ => pts_nil) (fun _ _ _ _ _ => (LamX.pe_lamcall (T := tabs T) (TT := TMet T.C_InvalidWord T.C_InvalidLibrary T.C_InvalidCall T.C_InvalidProgram) (k := 9) (by rfl) T.g__law_word_of T.F__law_word_of.kp lkM hcM hbM sc_law_word_of rfl (Or.inl rfl) (by exact met_to T _ _ rfl rfl) TB_law rfl (List.mem_cons_of_mem _ (List.mem_cons_self)) (tabs_u_law T) (hr.mono (by decide)) (LamX.lamS_by (by rfl)) rfl (fun _ _ _ _ _ => rfl) (fun A' o' s' H' E' f' c' hr' => (pe_call (ok_write_program T) (hr'.mono (by decide)) (by rfl) T.g_write_program T.F_write_program.kp T.b_write_program .nil (passes_call (takes_of rfl rfl rfl rfl) (fun _ _ _ _ h => h)) (pa_cons (pv 6) pa_nil))))))
      (pss_one (ps_ret (pe_cmpR (op_eqD hr.units) (pv 5) (pe_lst (pa_cons pe_str (pa_cons pe_str pa_nil))) (nomark _))))))), ?_⟩
    clear lkM hcM hbM eM
    have hT : LamX.Tabs (tabs T) H := by
      intro p hp
      simp only [tabs, List.mem_cons, List.not_mem_nil, or_false] at hp
      rcases hp with rfl | rfl | rfl
      · exact LamX.TabS.nil (hC (T.c__law_right, T.P__law_right) (by simp))
      · exact LamX.TabS.nil (hC (T.c_law, T.P_law) (by simp))
      · exact LamX.TabS.nil (hC (T.c_Library___init__, T.P_Library___init__) (by simp))
    refine seqN fun N1 hN1 => ?_
    walk_at "rdx"
    walk_at "rdx"
    refine ⟨ns.length, .inl ⟨_, hS, by rw [List.length_map]⟩, ?_⟩
    obtain ⟨m, em, hm, hm1⟩ : ∃ m : Nat, (if (if (ns.length : Int) < 5 then (ns.length : Int) else 5) > 1 then if (ns.length : Int) < 5 then (ns.length : Int) else 5 else 1) = (m : Int) ∧ m ≤ 5 ∧ 1 ≤ m := by
      refine ⟨(if (if (ns.length : Int) < 5 then (ns.length : Int) else 5) > 1 then if (ns.length : Int) < 5 then (ns.length : Int) else 5 else 1).toNat, ?_, ?_, ?_⟩ <;> (split <;> split <;> omega)
    rw [em]
    refine ⟨by omega, by omega, forB walk_range (inv_law K (tabs T) a ns) ⟨_, _, _, rfl, hS, hT, fun h => (nomatch h)⟩ (fun _ _ _ _ _ => trivial) ?_ ?_⟩
    · rintro i x' σ K1 K2 hi ⟨x1, x2, x3, rfl, B⟩ ⟨rfl, rfl⟩
      walk_at "rd"
      refine ⟨a, ns, i, by rw [Int.zero_add], B.sc, by omega, fun e x y z he => ?_⟩
      have e0 : Dc (upd K2 e (.lst [.int x, .int y, .int z])) e := ⟨x, y, z, upd_same⟩
      have t0 : LamX.Tabs (tabs T) (upd K2 e (.lst [.int x, .int y, .int z])) := B.tb.ext (same_new he)
      walk_at "rd"
      refine ⟨by decide, by decide, forB walk_range (fun _ σ H => (∃ x3, σ = [some (.ref a), some (.int (0 + (i : Int))), some (.ref e), x3, none, none, none]) ∧ Gt (tabs T) e (upd K2 e (.lst [.int x, .int y, .int z])) H) ⟨⟨_, rfl⟩, Gt.refl e0 t0⟩ (fun _ _ _ _ _ => trivial) ?_ ?_⟩
      · rintro j x'' σ M1 M2 hj ⟨⟨x3', rfl⟩, gm⟩ ⟨rfl, rfl⟩
        walk_at "rd"
        refine ⟨e, rfl, gm.dice, gm.tabs, fun M3 gm2 => ?_⟩
        walk_at "rd"
        exact ⟨⟨_, rfl⟩, gm.trans gm2⟩
      · rintro σ M1 ⟨⟨x3', rfl⟩, gm⟩
        exact ⟨_, _, _, rfl, gt_sql B.sc he gm, gm.tabs, fun _ => ⟨e, gm.dice⟩⟩
    · rintro σ K1 ⟨x1, x2, x3, rfl, B⟩
      obtain ⟨e, he⟩ := B.dc (by omega)
      have g0 : Gt (tabs T) e K1 K1 := Gt.refl he B.tb
      refine hN1 _ _ (seqN fun N2 hN2 => ?_)
      clear hN1
      walk_at "rdx"
      walk_at "rdx"
      refine ⟨by decide, fun pa hpa => ⟨by decide, ?_⟩⟩
      have su1 := same_new (o := .tup [V.str (Str.ofString "a")]) hpa
      have fu1 : upd K1 pa (.tup [V.str (Str.ofString "a")]) pa = some (.tup [V.str (Str.ofString "a")]) := upd_same
      generalize upd K1 pa (.tup [V.str (Str.ofString "a")]) = U1 at *
      intro pb hpb
      have su2 := same_new (o := .tup [V.str (Str.ofString "value"), V.ref pa]) hpb
      have fu2 : upd U1 pb (.tup [V.str (Str.ofString "value"), V.ref pa]) pb = some (.tup [V.str (Str.ofString "value"), V.ref pa]) := upd_same
      generalize upd U1 pb (.tup [V.str (Str.ofString "value"), V.ref pa]) = U2 at *
      refine ⟨by decide, fun pc hpc => ?_⟩
      have su3 := same_new (o := .tup [V.ref pb]) hpc
      have fu3 : upd U2 pc (.tup [V.ref pb]) pc = some (.tup [V.ref pb]) := upd_same
      generalize upd U2 pc (.tup [V.ref pb]) = U3 at *
      refine ⟨pc, 8000, _, rfl, rfl, sqt_of fu3, by simp, by decide, by decide, by simp, fun pm hpm => hN2 _ _ ?_⟩
      clear hN2
      rw [List.flatten_replicate_singleton]
      obtain ⟨mo, hmo⟩ : ∃ mo, mo = List.replicate 8000 (V.ref pb) := ⟨_, rfl⟩
      rw [← hmo]
      have su4 := same_new (o := .tup mo) hpm
      have fm : upd U3 pm (.tup mo) pm = some (.tup mo) := upd_same
      generalize upd U3 pm (.tup mo) = H2 at *
      have lmo : mo.length = 8000 := by rw [hmo, List.length_replicate]
      have emo : ∀ x ∈ mo, x = V.ref pb := fun x hx => List.eq_of_mem_replicate (hmo ▸ hx)
      clear hmo
      have t3 := su3.trans su4
      have fa := (su2.trans t3) _ _ fu1
      have fb := t3 _ _ fu2
      have G2 := g0.same (su1.trans (su2.trans t3))
      clear su1 su2 su3 su4 fu1 fu2 fu3 t3 hpa hpb hpc hpm g0 he B
      refine seqN fun N3 hN3 => ?_
      walk_at "rd"
      walk_at "rdx"
      refine ⟨by decide, fun q1 h1 => ⟨by decide, ?_⟩⟩
      have su1 := same_new (o := .tup [V.int 7999]) h1
      have fu1 : upd H2 q1 (.tup [V.int 7999]) q1 = some (.tup [V.int 7999]) := upd_same
      generalize upd H2 q1 (.tup [V.int 7999]) = U1 at *
      intro q2 h2
      have su2 := same_new (o := .tup [V.str (Str.ofString "call"), V.str (Str.ofString "f"), V.ref q1]) h2
      have fu2 : upd U1 q2 (.tup [V.str (Str.ofString "call"), V.str (Str.ofString "f"), V.ref q1]) q2 = some (.tup [V.str (Str.ofString "call"), V.str (Str.ofString "f"), V.ref q1]) := upd_same
      generalize upd U1 q2 (.tup [V.str (Str.ofString "call"), V.str (Str.ofString "f"), V.ref q1]) = U2 at *
      refine ⟨by decide, fun q3 h3 => ?_⟩
      have su3 := same_new (o := .tup [V.ref q2]) h3
      have fu3 : upd U2 q3 (.tup [V.ref q2]) q3 = some (.tup [V.ref q2]) := upd_same
      generalize upd U2 q3 (.tup [V.ref q2]) = U3 at *
      have nm : mo ≠ [] := fun e => by rw [e] at lmo; cases lmo
      refine ⟨pm, q3, mo, _, rfl, rfl, sqt_of ((su1.trans (su2.trans su3)) _ _ fm), sqt_of fu3, by rw [lmo, sizeLine_eq, List.length_singleton]; omega, fun e => absurd e nm, (fun _ e => nomatch e), fun _ _ po hpo => ?_⟩
      have su4 := same_new (o := .tup (mo ++ [V.ref q2])) hpo
      have fo : upd U3 po (.tup (mo ++ [V.ref q2])) po = some (.tup (mo ++ [V.ref q2])) := upd_same
      generalize upd U3 po (.tup (mo ++ [V.ref q2])) = U4 at *
      refine ⟨by decide, fun pp hpp => ?_⟩
      have su5 := same_new (o := .tup [V.ref pm, V.ref po]) hpp
      have fp : upd U4 pp (.tup [V.ref pm, V.ref po]) pp = some (.tup [V.ref pm, V.ref po]) := upd_same
      generalize upd U4 pp (.tup [V.ref pm, V.ref po]) = H5 at *
      refine ⟨⟨_, sqt_of fp⟩, ?_⟩
      have s25 := su1.trans (su2.trans (su3.trans (su4.trans su5)))
      have G5 := G2.same s25
      have fa5 := s25 _ _ fa
      have fb5 := s25 _ _ fb
      have fm5 := s25 _ _ fm
      have fo5 := su5 _ _ fo
      have lo5 : (mo ++ [V.ref q2]).length = 8001 := by rw [List.length_append, lmo]; rfl
      clear su1 su2 su3 su4 su5 fu1 fu2 fu3 h1 h2 h3 hpo hpp fa fb fm fo s25
      refine lc_gt (T := tabs T) (d := e) (walk_tup (xs := [V.ref pm, V.ref po])) (fun i y => y = .str (if i = 0 then Str.ofString "fine" else Str.ofString "program")) (by rw [sizeLine_eq]; simp) G5.dice G5.tabs (fun H g => sqt_of (g.tup fp)) ?_ (fun _ _ _ _ _ f h => f _ _ h) mono_yes ?_
      · rintro k x H6 H7 hk g ⟨rfl, hx⟩ R hR
        have : k = 0 ∨ k = 1 := by simp only [List.length_cons, List.length_nil] at hk; omega
        rcases this with rfl | rfl
        · cases hx
          walk_at "rd"
          refine ⟨g.tabs, fun I1 e1 t1 => ?_⟩
          unfold TMet
          walk_at "rd"
          have ga := g.ext e1 t1
          have fa6 := (gx_of ga).tup fa5
          have fb6 := (gx_of ga).tup fb5
          have ln : ∀ i, LnIs I1 i (.ref pb) true := fun i => by
            have := LnIs.val (at_ := i) fb6 (Told.tup (xs := [.str (Str.ofString "a")]) fa6 (kn1 (.str _)) (fun y hy => sz100 (Nat.le_trans (st1 (n := 100) (sv_s (by decide)) y hy) (by decide))))
            rwa [show (true && namesV [.str (Str.ofString "a")] 1 401) = true by decide +kernel] at this
          have pr := PrIs.tup (K := K) (f := fun _ => true) ((gx_of ga).tup fm5) (by omega) (by omega) (fun i x e => by rw [emo x (List.mem_of_getElem? e)]; exact ln i)
          rw [show (List.range mo.length).all (fun _ => true) = true from by simp] at pr
          exact ⟨_, rfl, .inr ⟨pm, mo, rfl, (gx_of ga).tup fm5, by omega, pr, fun x hx => by rw [emo x hx]; exact .val (ws := [Str.ofString "a"]) fb6 fa6 (by decide +kernel) (by decide) (by decide), fun z K3 s3 => hR _ _ rfl (((Gt.refl g.dice g.tabs).ext e1 t1).same s3)⟩⟩
        · cases hx
          walk_at "rd"
          refine ⟨g.tabs, fun I1 e1 t1 => ?_⟩
          unfold TMet
          walk_at "rd"
          have ga := g.ext e1 t1
          exact ⟨_, rfl, .inl ⟨.len ((gx_of ga).tup fo5) (by rw [lo5]; omega), fun K3 s3 => .inr (.inr (.inr ⟨rfl, hR _ _ rfl (((Gt.refl g.dice g.tabs).ext e1 t1).same s3)⟩))⟩⟩
      · intro H6 D ys g hD nD hl hP hL
        refine hN3 _ _ ?_
        clear hN3
        obtain ⟨y1, y2, rfl⟩ : ∃ y1 y2, ys = [y1, y2] := by
          match ys, hl with
          | [a, b], _ => exact ⟨a, b, rfl⟩
        have e1 := hP 0 y1 rfl
        have e2 := hP 1 y2 rfl
        rw [if_pos rfl] at e1
        rw [if_neg (by decide)] at e2
        subst e1 e2
        walk_at "rd"
        have plT : ∀ w ∈ [Str.ofString "fine", Str.ofString "program"], Pl w := by
          intro w hw
          simp only [List.mem_cons, List.not_mem_nil, or_false] at hw
          rcases hw with rfl | rfl <;> (intro c hc; revert c; decide)
        refine ⟨by decide, fun pr hpr => ?_⟩
        have s4 := same_new (o := .lst [V.str (Str.ofString "fine"), V.str (Str.ofString "program")]) hpr
        have fr : upd H6 pr (.lst [V.str (Str.ofString "fine"), V.str (Str.ofString "program")]) pr = some (.lst [V.str (Str.ofString "fine"), V.str (Str.ofString "program")]) := upd_same
        generalize upd H6 pr (.lst [V.str (Str.ofString "fine"), V.str (Str.ofString "program")]) = J4 at *
        refine eqLs (xs := [Str.ofString "fine", Str.ofString "program"]) (ys := [Str.ofString "fine", Str.ofString "program"]) (sql_of (s4 _ _ hL)) (sql_of fr) plT plT ?_
        rw [decide_eq_true rfl]
        exact q _
end

open PySem PySem.Spec PyProof.Rows L2 Lv LamX
theorem law_sp (K : PySem.W.Frag) (cs : List (Addr × Addr)) (H : Hp) (a : Addr) (ns : List Int) (_ : ns.length ≤ 63) (hC : ∀ p ∈ cs, H p.2 = some (.tbl #[])) (hS : SqL K H a (ns.map V.int)) : spLaw K cs [.ref a] H (fun v _ => v = .bl true) E0 :=
  ⟨a, ns, rfl, hC, hS, fun _ => rfl⟩
theorem all_mk {q : Program} {w : World} {K : PySem.W.Frag} {h : Heap} {mg : Str → Option Value} {fa : Addr} (X : K.In h) (G : h.Ns mainGlobals mg) (tab : ∀ y, ((recsOf q).any fun e => e.name == y) = true → TabOf mg h y) (hfa : mg "law" = some (.ref fa))
    {f0 : Addr} {od0 an0 : Option Addr} {sl0 : Array (Option Value)} {oc0 kV0 dc0 pm0 cd0 ct0 : Value}
    {f1 : Addr} {od1 an1 : Option Addr} {sl1 : Array (Option Value)} {oc1 kV1 dc1 pm1 cd1 ct1 : Value}
    {f2 : Addr} {od2 an2 : Option Addr} {sl2 : Array (Option Value)} {oc2 kV2 dc2 pm2 cd2 ct2 : Value}
    {f3 : Addr} {od3 an3 : Option Addr} {sl3 : Array (Option Value)} {oc3 kV3 dc3 pm3 cd3 ct3 : Value}
    {f4 : Addr} {od4 an4 : Option Addr} {sl4 : Array (Option Value)} {oc4 kV4 dc4 pm4 cd4 ct4 : Value}
    {f5 : Addr} {od5 an5 : Option Addr} {sl5 : Array (Option Value)} {oc5 kV5 dc5 pm5 cd5 ct5 : Value}
    {f6 : Addr} {od6 an6 : Option Addr} {sl6 : Array (Option Value)} {oc6 kV6 dc6 pm6 cd6 ct6 : Value}
    {f7 : Addr} {od7 an7 : Option Addr} {sl7 : Array (Option Value)} {oc7 kV7 dc7 pm7 cd7 ct7 : Value}
    {f8 : Addr} {od8 an8 : Option Addr} {sl8 : Array (Option Value)} {oc8 kV8 dc8 pm8 cd8 ct8 : Value}
    {f9 : Addr} {od9 an9 : Option Addr} {sl9 : Array (Option Value)} {oc9 kV9 dc9 pm9 cd9 ct9 : Value}
    {f10 : Addr} {od10 an10 : Option Addr} {sl10 : Array (Option Value)} {oc10 kV10 dc10 pm10 cd10 ct10 : Value}
    {f11 : Addr} {od11 an11 : Option Addr} {sl11 : Array (Option Value)} {oc11 kV11 dc11 pm11 cd11 ct11 : Value}
    {f12 : Addr} {od12 an12 : Option Addr} {sl12 : Array (Option Value)} {oc12 kV12 dc12 pm12 cd12 ct12 : Value}
    {f13 : Addr} {od13 an13 : Option Addr} {sl13 : Array (Option Value)} {oc13 kV13 dc13 pm13 cd13 ct13 : Value}
    {f14 : Addr} {od14 an14 : Option Addr} {sl14 : Array (Option Value)} {oc14 kV14 dc14 pm14 cd14 ct14 : Value}
    {f15 : Addr} {od15 an15 : Option Addr} {sl15 : Array (Option Value)} {oc15 kV15 dc15 pm15 cd15 ct15 : Value}
    {f16 : Addr} {od16 an16 : Option Addr} {sl16 : Array (Option Value)} {oc16 kV16 dc16 pm16 cd16 ct16 : Value}
    {f17 : Addr} {od17 an17 : Option Addr} {sl17 : Array (Option Value)} {oc17 kV17 dc17 pm17 cd17 ct17 : Value}
    {f18 : Addr} {od18 an18 : Option Addr} {sl18 : Array (Option Value)} {oc18 kV18 dc18 pm18 cd18 ct18 : Value}
    {f19 : Addr} {od19 an19 : Option Addr} {sl19 : Array (Option Value)} {oc19 kV19 dc19 pm19 cd19 ct19 : Value}
    {f20 : Addr} {od20 an20 : Option Addr} {sl20 : Array (Option Value)} {oc20 kV20 dc20 pm20 cd20 ct20 : Value}
    {f21 : Addr} {od21 an21 : Option Addr} {sl21 : Array (Option Value)} {oc21 kV21 dc21 pm21 cd21 ct21 : Value}
    {f22 : Addr} {od22 an22 : Option Addr} {sl22 : Array (Option Value)} {oc22 kV22 dc22 pm22 cd22 ct22 : Value}
    {f23 : Addr} {od23 an23 : Option Addr} {sl23 : Array (Option Value)} {oc23 kV23 dc23 pm23 cd23 ct23 : Value}
    {f24 : Addr} {od24 an24 : Option Addr} {sl24 : Array (Option Value)} {oc24 kV24 dc24 pm24 cd24 ct24 : Value}
    {f25 : Addr} {od25 an25 : Option Addr} {sl25 : Array (Option Value)} {oc25 kV25 dc25 pm25 cd25 ct25 : Value}
    {f26 : Addr} {od26 an26 : Option Addr} {sl26 : Array (Option Value)} {oc26 kV26 dc26 pm26 cd26 ct26 : Value}
    {f27 : Addr} {od27 an27 : Option Addr} {sl27 : Array (Option Value)} {oc27 kV27 dc27 pm27 cd27 ct27 : Value}
    {f28 : Addr} {od28 an28 : Option Addr} {sl28 : Array (Option Value)} {oc28 kV28 dc28 pm28 cd28 ct28 : Value}
    {f29 : Addr} {od29 an29 : Option Addr} {sl29 : Array (Option Value)} {oc29 kV29 dc29 pm29 cd29 ct29 : Value}
    {f30 : Addr} {od30 an30 : Option Addr} {sl30 : Array (Option Value)} {oc30 kV30 dc30 pm30 cd30 ct30 : Value}
    {f31 : Addr} {od31 an31 : Option Addr} {sl31 : Array (Option Value)} {oc31 kV31 dc31 pm31 cd31 ct31 : Value}
    {f32 : Addr} {od32 an32 : Option Addr} {sl32 : Array (Option Value)} {oc32 kV32 dc32 pm32 cd32 ct32 : Value}
    {f33 : Addr} {od33 an33 : Option Addr} {sl33 : Array (Option Value)} {oc33 kV33 dc33 pm33 cd33 ct33 : Value}
    {f34 : Addr} {od34 an34 : Option Addr} {sl34 : Array (Option Value)} {oc34 kV34 dc34 pm34 cd34 ct34 : Value}
    {f35 : Addr} {od35 an35 : Option Addr} {sl35 : Array (Option Value)} {oc35 kV35 dc35 pm35 cd35 ct35 : Value}
    {f36 : Addr} {od36 an36 : Option Addr} {sl36 : Array (Option Value)} {oc36 kV36 dc36 pm36 cd36 ct36 : Value}
    {f37 : Addr} {od37 an37 : Option Addr} {sl37 : Array (Option Value)} {oc37 kV37 dc37 pm37 cd37 ct37 : Value}
    {f38 : Addr} {od38 an38 : Option Addr} {sl38 : Array (Option Value)} {oc38 kV38 dc38 pm38 cd38 ct38 : Value}
    {f39 : Addr} {od39 an39 : Option Addr} {sl39 : Array (Option Value)} {oc39 kV39 dc39 pm39 cd39 ct39 : Value}
    {f40 : Addr} {od40 an40 : Option Addr} {sl40 : Array (Option Value)} {oc40 kV40 dc40 pm40 cd40 ct40 : Value}
    {f41 : Addr} {od41 an41 : Option Addr} {sl41 : Array (Option Value)} {oc41 kV41 dc41 pm41 cd41 ct41 : Value}
    {f42 : Addr} {od42 an42 : Option Addr} {sl42 : Array (Option Value)} {oc42 kV42 dc42 pm42 cd42 ct42 : Value}
    {f43 : Addr} {od43 an43 : Option Addr} {sl43 : Array (Option Value)} {oc43 kV43 dc43 pm43 cd43 ct43 : Value}
    {f44 : Addr} {od44 an44 : Option Addr} {sl44 : Array (Option Value)} {oc44 kV44 dc44 pm44 cd44 ct44 : Value}
    {f45 : Addr} {od45 an45 : Option Addr} {sl45 : Array (Option Value)} {oc45 kV45 dc45 pm45 cd45 ct45 : Value}
    {f46 : Addr} {od46 an46 : Option Addr} {sl46 : Array (Option Value)} {oc46 kV46 dc46 pm46 cd46 ct46 : Value}
    {f47 : Addr} {od47 an47 : Option Addr} {sl47 : Array (Option Value)} {oc47 kV47 dc47 pm47 cd47 ct47 : Value}
    {pa47 : Addr} {re47 : List Value}
    {f48 : Addr} {od48 an48 : Option Addr} {sl48 : Array (Option Value)} {oc48 dc48 pm48 cd48 ct48 : Value}
    {KD48 : Addr}
    {e48_conversions : Addr} {eo48_conversions : Option Addr} {en48_conversions : Nat} {es48_conversions : Array (Option Value)}
    {e48_candidates : Addr} {eo48_candidates : Option Addr} {en48_candidates : Nat} {es48_candidates : Array (Option Value)}
    {t_MAX_DEPTH : Tok}
    {t_MAX_RANK : Tok}
    {t_MAX_LETTERS : Tok}
    {a_KEYWORDS : Addr}
    {o_KEYWORDS : Option Addr} {n_KEYWORDS : Nat} {sl_KEYWORDS : Array (Option Value)} {t0_KEYWORDS t1_KEYWORDS : Tok}
    {t_MAX_MARKS : Tok}
    {t_MAX_BASES : Tok}
    {t_MAX_CONVERSIONS : Tok}
    {t_MAX_CANDIDATES : Tok}
    {t_MAX_PATTERNS : Tok}
    {t_MAX_NAMES : Tok}
    {t_MAX_LEFT : Tok}
    {t_MAX_FRONT : Tok}
    {t_MAX_LINES : Tok}
    {t_MAX_ARGUMENTS_reached : Tok}
    {t_VALUE : Tok}
    {t_CALL : Tok}
    {t_MAX_ARGUMENTS_texts : Tok}
    {cc44 PP44 : Addr} {ee44 : Value} {dd44 : Option Addr} {uu44 : Array Value} {ll44 : Array (Option Value)}
    {cc45 PP45 : Addr} {ee45 : Value} {dd45 : Option Addr} {uu45 : Array Value} {ll45 : Array (Option Value)}
    {cc48 PP48 : Addr} {ee48 : Value} {dd48 : Option Addr} {uu48 : Array Value} {ll48 : Array (Option Value)}
    {C_InvalidWord : Addr}
    {C_InvalidLibrary : Addr}
    {C_InvalidCall : Addr}
    {C_InvalidProgram : Addr}
    {C_ParseError : Addr}
    {C_Candidate : Addr}
    {C_Library : Addr}
    {nm_ParseError qn_ParseError : Str} {N_ParseError fI_ParseError cda_ParseError cc_ParseError : Addr} {bs_ParseError bm_ParseError sub_ParseError : List Value} {sn_ParseError : List Str} {ab_ParseError : Bool} {col_ParseError : Option Bool} {dd_ParseError : Option Addr} {k0_ParseError k1_ParseError k2_ParseError k3_ParseError k5_ParseError : Option Value}
    {foc_ParseError fdoc_ParseError fpm_ParseError fct_ParseError ccl_ParseError cll_ParseError : Value} {fod_ParseError fan_ParseError cdd_ParseError cld_ParseError : Option Addr} {fsl_ParseError ccs_ParseError csl_ParseError : Array (Option Value)} {vs_ParseError : Array Value} {file_ParseError : Str} {tf_ParseError : Tok}
    (qpg_Candidate : PySem.W.plainGet K C_Candidate Str.empty = true)
    (qhd_Candidate : PySem.W.hasDictIn K C_Candidate = true)
    (qpo_Candidate : PySem.W.plainOver K C_Candidate = true)
    (qsa_Candidate : PySem.W.findIn K (.ref C_Candidate) "__setattr__" = some (some (.builtin "object.__setattr__")))
    (kp_Candidate : PySem.W.keepIn K (.ref C_Candidate) = true)
    (qha_Candidate : PySem.W.findIn K (.ref C_Candidate) "__class__" = some (some (.builtin "object.__class__")))
    (qob_Candidate : PySem.W.mroIn K C_Candidate (.type "object") = some true)
    (qne_Candidate : PySem.W.findIn K (.ref C_Candidate) "__ne__" = some (some (.builtin "object.__ne__")))
    (qzs_Candidate : PySem.W.kitOne K (.type "str") (.ref C_Candidate) = some false)
    (qzt_Candidate : PySem.W.kitOne K (.type "tuple") (.ref C_Candidate) = some false)
    (qzn_Candidate : PySem.W.kitOne K (.type "NoneType") (.ref C_Candidate) = some false)
    (qzi_Candidate : PySem.W.kitOne K (.type "int") (.ref C_Candidate) = some false)
    (qzc_Candidate : PySem.W.kitOne K (.ref C_Candidate) (.type "str") = some false)
    (qzl_Candidate : PySem.W.kitOne K (.type "list") (.ref C_Candidate) = some false)
    (qzd_Candidate : PySem.W.kitOne K (.type "dict") (.ref C_Candidate) = some false)
    (qzb_Candidate : PySem.W.kitOne K (.type "bool") (.ref C_Candidate) = some false)
    (qzu_Candidate : PySem.W.kitOne K (.ref C_Candidate) (.type "tuple") = some false)
    (qhn_Candidate : PySem.W.specialIn K (.builtin "object.__class__") "__get__" = some (some (.builtin "getset_descriptor.__get__")))
    (qht_Candidate : PySem.W.takesIn K (.builtin "object.__class__") = some true)
    (qn_Candidate_own_name : PySem.W.findIn K (.ref C_Candidate) "own_name" = some none)
    (qn_Candidate_own_patterns : PySem.W.findIn K (.ref C_Candidate) "own_patterns" = some none)
    (qn_Candidate_own_result : PySem.W.findIn K (.ref C_Candidate) "own_result" = some none)
    (qn_Candidate_own_key : PySem.W.findIn K (.ref C_Candidate) "own_key" = some none)
    (qpg_Library : PySem.W.plainGet K C_Library Str.empty = true)
    (qhd_Library : PySem.W.hasDictIn K C_Library = true)
    (qpo_Library : PySem.W.plainOver K C_Library = true)
    (qsa_Library : PySem.W.findIn K (.ref C_Library) "__setattr__" = some (some (.builtin "object.__setattr__")))
    (kp_Library : PySem.W.keepIn K (.ref C_Library) = true)
    (qha_Library : PySem.W.findIn K (.ref C_Library) "__class__" = some (some (.builtin "object.__class__")))
    (qob_Library : PySem.W.mroIn K C_Library (.type "object") = some true)
    (qne_Library : PySem.W.findIn K (.ref C_Library) "__ne__" = some (some (.builtin "object.__ne__")))
    (qzs_Library : PySem.W.kitOne K (.type "str") (.ref C_Library) = some false)
    (qzt_Library : PySem.W.kitOne K (.type "tuple") (.ref C_Library) = some false)
    (qzn_Library : PySem.W.kitOne K (.type "NoneType") (.ref C_Library) = some false)
    (qzi_Library : PySem.W.kitOne K (.type "int") (.ref C_Library) = some false)
    (qzc_Library : PySem.W.kitOne K (.ref C_Library) (.type "str") = some false)
    (qzl_Library : PySem.W.kitOne K (.type "list") (.ref C_Library) = some false)
    (qzd_Library : PySem.W.kitOne K (.type "dict") (.ref C_Library) = some false)
    (qzb_Library : PySem.W.kitOne K (.type "bool") (.ref C_Library) = some false)
    (qzu_Library : PySem.W.kitOne K (.ref C_Library) (.type "tuple") = some false)
    (qhn_Library : PySem.W.specialIn K (.builtin "object.__class__") "__get__" = some (some (.builtin "getset_descriptor.__get__")))
    (qht_Library : PySem.W.takesIn K (.builtin "object.__class__") = some true)
    (qn_Library_own_marks : PySem.W.findIn K (.ref C_Library) "own_marks" = some none)
    (qn_Library_own_bases : PySem.W.findIn K (.ref C_Library) "own_bases" = some none)
    (qn_Library_own_conversions : PySem.W.findIn K (.ref C_Library) "own_conversions" = some none)
    (qn_Library_own_candidates : PySem.W.findIn K (.ref C_Library) "own_candidates" = some none)
    (qn_Library_own_tables : PySem.W.findIn K (.ref C_Library) "own_tables" = some none)
    (a0 : PySem.W.nsIn K mainGlobals "is_integer" = some (some (.ref f0)))
    (l0 : K.lookup f0 = some ⟨oc0, od0, .func (PySem.W.fnOf "is_integer" "is_integer" (defArgs s_is_integer) (defBody s_is_integer) (defScope s_is_integer) .none kV0 dc0 pm0 an0 cd0 ct0), sl0⟩)
    (c0 : PySem.W.codeIn K cd0 "is_integer" = true)
    (k0 : PySem.W.keepIn K (.ref f0) = true)
    (a1 : PySem.W.nsIn K mainGlobals "is_integer_within" = some (some (.ref f1)))
    (l1 : K.lookup f1 = some ⟨oc1, od1, .func (PySem.W.fnOf "is_integer_within" "is_integer_within" (defArgs s_is_integer_within) (defBody s_is_integer_within) (defScope s_is_integer_within) .none kV1 dc1 pm1 an1 cd1 ct1), sl1⟩)
    (c1 : PySem.W.codeIn K cd1 "is_integer_within" = true)
    (k1 : PySem.W.keepIn K (.ref f1) = true)
    (a2 : PySem.W.nsIn K mainGlobals "is_name" = some (some (.ref f2)))
    (l2 : K.lookup f2 = some ⟨oc2, od2, .func (PySem.W.fnOf "is_name" "is_name" (defArgs s_is_name) (defBody s_is_name) (defScope s_is_name) .none kV2 dc2 pm2 an2 cd2 ct2), sl2⟩)
    (c2 : PySem.W.codeIn K cd2 "is_name" = true)
    (k2 : PySem.W.keepIn K (.ref f2) = true)
    (a3 : PySem.W.nsIn K mainGlobals "is_names" = some (some (.ref f3)))
    (l3 : K.lookup f3 = some ⟨oc3, od3, .func (PySem.W.fnOf "is_names" "is_names" (defArgs s_is_names) (defBody s_is_names) (defScope s_is_names) .none kV3 dc3 pm3 an3 cd3 ct3), sl3⟩)
    (c3 : PySem.W.codeIn K cd3 "is_names" = true)
    (k3 : PySem.W.keepIn K (.ref f3) = true)
    (a4 : PySem.W.nsIn K mainGlobals "is_type" = some (some (.ref f4)))
    (l4 : K.lookup f4 = some ⟨oc4, od4, .func (PySem.W.fnOf "is_type" "is_type" (defArgs s_is_type) (defBody s_is_type) (defScope s_is_type) .none kV4 dc4 pm4 an4 cd4 ct4), sl4⟩)
    (c4 : PySem.W.codeIn K cd4 "is_type" = true)
    (k4 : PySem.W.keepIn K (.ref f4) = true)
    (a5 : PySem.W.nsIn K mainGlobals "is_ascending" = some (some (.ref f5)))
    (l5 : K.lookup f5 = some ⟨oc5, od5, .func (PySem.W.fnOf "is_ascending" "is_ascending" (defArgs s_is_ascending) (defBody s_is_ascending) (defScope s_is_ascending) .none kV5 dc5 pm5 an5 cd5 ct5), sl5⟩)
    (c5 : PySem.W.codeIn K cd5 "is_ascending" = true)
    (k5 : PySem.W.keepIn K (.ref f5) = true)
    (a6 : PySem.W.nsIn K mainGlobals "write_type" = some (some (.ref f6)))
    (l6 : K.lookup f6 = some ⟨oc6, od6, .func (PySem.W.fnOf "write_type" "write_type" (defArgs s_write_type) (defBody s_write_type) (defScope s_write_type) .none kV6 dc6 pm6 an6 cd6 ct6), sl6⟩)
    (c6 : PySem.W.codeIn K cd6 "write_type" = true)
    (k6 : PySem.W.keepIn K (.ref f6) = true)
    (a7 : PySem.W.nsIn K mainGlobals "is_conversion" = some (some (.ref f7)))
    (l7 : K.lookup f7 = some ⟨oc7, od7, .func (PySem.W.fnOf "is_conversion" "is_conversion" (defArgs s_is_conversion) (defBody s_is_conversion) (defScope s_is_conversion) .none kV7 dc7 pm7 an7 cd7 ct7), sl7⟩)
    (c7 : PySem.W.codeIn K cd7 "is_conversion" = true)
    (k7 : PySem.W.keepIn K (.ref f7) = true)
    (a8 : PySem.W.nsIn K mainGlobals "is_pattern" = some (some (.ref f8)))
    (l8 : K.lookup f8 = some ⟨oc8, od8, .func (PySem.W.fnOf "is_pattern" "is_pattern" (defArgs s_is_pattern) (defBody s_is_pattern) (defScope s_is_pattern) .none kV8 dc8 pm8 an8 cd8 ct8), sl8⟩)
    (c8 : PySem.W.codeIn K cd8 "is_pattern" = true)
    (k8 : PySem.W.keepIn K (.ref f8) = true)
    (a9 : PySem.W.nsIn K mainGlobals "is_result" = some (some (.ref f9)))
    (l9 : K.lookup f9 = some ⟨oc9, od9, .func (PySem.W.fnOf "is_result" "is_result" (defArgs s_is_result) (defBody s_is_result) (defScope s_is_result) .none kV9 dc9 pm9 an9 cd9 ct9), sl9⟩)
    (c9 : PySem.W.codeIn K cd9 "is_result" = true)
    (k9 : PySem.W.keepIn K (.ref f9) = true)
    (a10 : PySem.W.nsIn K mainGlobals "text_of_side" = some (some (.ref f10)))
    (l10 : K.lookup f10 = some ⟨oc10, od10, .func (PySem.W.fnOf "text_of_side" "text_of_side" (defArgs s_text_of_side) (defBody s_text_of_side) (defScope s_text_of_side) .none kV10 dc10 pm10 an10 cd10 ct10), sl10⟩)
    (c10 : PySem.W.codeIn K cd10 "text_of_side" = true)
    (k10 : PySem.W.keepIn K (.ref f10) = true)
    (a11 : PySem.W.nsIn K mainGlobals "line_of_candidate" = some (some (.ref f11)))
    (l11 : K.lookup f11 = some ⟨oc11, od11, .func (PySem.W.fnOf "line_of_candidate" "line_of_candidate" (defArgs s_line_of_candidate) (defBody s_line_of_candidate) (defScope s_line_of_candidate) .none kV11 dc11 pm11 an11 cd11 ct11), sl11⟩)
    (c11 : PySem.W.codeIn K cd11 "line_of_candidate" = true)
    (k11 : PySem.W.keepIn K (.ref f11) = true)
    (a12 : PySem.W.nsIn K mainGlobals "side_of" = some (some (.ref f12)))
    (l12 : K.lookup f12 = some ⟨oc12, od12, .func (PySem.W.fnOf "side_of" "side_of" (defArgs s_side_of) (defBody s_side_of) (defScope s_side_of) .none kV12 dc12 pm12 an12 cd12 ct12), sl12⟩)
    (c12 : PySem.W.codeIn K cd12 "side_of" = true)
    (k12 : PySem.W.keepIn K (.ref f12) = true)
    (a13 : PySem.W.nsIn K mainGlobals "pattern_of" = some (some (.ref f13)))
    (l13 : K.lookup f13 = some ⟨oc13, od13, .func (PySem.W.fnOf "pattern_of" "pattern_of" (defArgs s_pattern_of) (defBody s_pattern_of) (defScope s_pattern_of) .none kV13 dc13 pm13 an13 cd13 ct13), sl13⟩)
    (c13 : PySem.W.codeIn K cd13 "pattern_of" = true)
    (k13 : PySem.W.keepIn K (.ref f13) = true)
    (a14 : PySem.W.nsIn K mainGlobals "result_of_text" = some (some (.ref f14)))
    (l14 : K.lookup f14 = some ⟨oc14, od14, .func (PySem.W.fnOf "result_of_text" "result_of_text" (defArgs s_result_of_text) (defBody s_result_of_text) (defScope s_result_of_text) .none kV14 dc14 pm14 an14 cd14 ct14), sl14⟩)
    (c14 : PySem.W.codeIn K cd14 "result_of_text" = true)
    (k14 : PySem.W.keepIn K (.ref f14) = true)
    (a15 : PySem.W.nsIn K mainGlobals "candidate_of" = some (some (.ref f15)))
    (l15 : K.lookup f15 = some ⟨oc15, od15, .func (PySem.W.fnOf "candidate_of" "candidate_of" (defArgs s_candidate_of) (defBody s_candidate_of) (defScope s_candidate_of) .none kV15 dc15 pm15 an15 cd15 ct15), sl15⟩)
    (c15 : PySem.W.codeIn K cd15 "candidate_of" = true)
    (k15 : PySem.W.keepIn K (.ref f15) = true)
    (a16 : PySem.W.nsIn K mainGlobals "are_patterns" = some (some (.ref f16)))
    (l16 : K.lookup f16 = some ⟨oc16, od16, .func (PySem.W.fnOf "are_patterns" "are_patterns" (defArgs s_are_patterns) (defBody s_are_patterns) (defScope s_are_patterns) .none kV16 dc16 pm16 an16 cd16 ct16), sl16⟩)
    (c16 : PySem.W.codeIn K cd16 "are_patterns" = true)
    (k16 : PySem.W.keepIn K (.ref f16) = true)
    (a17 : PySem.W.nsIn K mainGlobals "names_in_candidate" = some (some (.ref f17)))
    (l17 : K.lookup f17 = some ⟨oc17, od17, .func (PySem.W.fnOf "names_in_candidate" "names_in_candidate" (defArgs s_names_in_candidate) (defBody s_names_in_candidate) (defScope s_names_in_candidate) .none kV17 dc17 pm17 an17 cd17 ct17), sl17⟩)
    (c17 : PySem.W.codeIn K cd17 "names_in_candidate" = true)
    (k17 : PySem.W.keepIn K (.ref f17) = true)
    (a18 : PySem.W.nsIn K mainGlobals "names_in_conversion" = some (some (.ref f18)))
    (l18 : K.lookup f18 = some ⟨oc18, od18, .func (PySem.W.fnOf "names_in_conversion" "names_in_conversion" (defArgs s_names_in_conversion) (defBody s_names_in_conversion) (defScope s_names_in_conversion) .none kV18 dc18 pm18 an18 cd18 ct18), sl18⟩)
    (c18 : PySem.W.codeIn K cd18 "names_in_conversion" = true)
    (k18 : PySem.W.keepIn K (.ref f18) = true)
    (a19 : PySem.W.nsIn K mainGlobals "names_in" = some (some (.ref f19)))
    (l19 : K.lookup f19 = some ⟨oc19, od19, .func (PySem.W.fnOf "names_in" "names_in" (defArgs s_names_in) (defBody s_names_in) (defScope s_names_in) .none kV19 dc19 pm19 an19 cd19 ct19), sl19⟩)
    (c19 : PySem.W.codeIn K cd19 "names_in" = true)
    (k19 : PySem.W.keepIn K (.ref f19) = true)
    (a20 : PySem.W.nsIn K mainGlobals "are_items" = some (some (.ref f20)))
    (l20 : K.lookup f20 = some ⟨oc20, od20, .func (PySem.W.fnOf "are_items" "are_items" (defArgs s_are_items) (defBody s_are_items) (defScope s_are_items) .none kV20 dc20 pm20 an20 cd20 ct20), sl20⟩)
    (c20 : PySem.W.codeIn K cd20 "are_items" = true)
    (k20 : PySem.W.keepIn K (.ref f20) = true)
    (a21 : PySem.W.nsIn K mainGlobals "is_library_of" = some (some (.ref f21)))
    (l21 : K.lookup f21 = some ⟨oc21, od21, .func (PySem.W.fnOf "is_library_of" "is_library_of" (defArgs s_is_library_of) (defBody s_is_library_of) (defScope s_is_library_of) .none kV21 dc21 pm21 an21 cd21 ct21), sl21⟩)
    (c21 : PySem.W.codeIn K cd21 "is_library_of" = true)
    (k21 : PySem.W.keepIn K (.ref f21) = true)
    (a22 : PySem.W.nsIn K mainGlobals "require_library" = some (some (.ref f22)))
    (l22 : K.lookup f22 = some ⟨oc22, od22, .func (PySem.W.fnOf "require_library" "require_library" (defArgs s_require_library) (defBody s_require_library) (defScope s_require_library) .none kV22 dc22 pm22 an22 cd22 ct22), sl22⟩)
    (c22 : PySem.W.codeIn K cd22 "require_library" = true)
    (k22 : PySem.W.keepIn K (.ref f22) = true)
    (a23 : PySem.W.nsIn K mainGlobals "is_line" = some (some (.ref f23)))
    (l23 : K.lookup f23 = some ⟨oc23, od23, .func (PySem.W.fnOf "is_line" "is_line" (defArgs s_is_line) (defBody s_is_line) (defScope s_is_line) .none kV23 dc23 pm23 an23 cd23 ct23), sl23⟩)
    (c23 : PySem.W.codeIn K cd23 "is_line" = true)
    (k23 : PySem.W.keepIn K (.ref f23) = true)
    (a24 : PySem.W.nsIn K mainGlobals "is_program" = some (some (.ref f24)))
    (l24 : K.lookup f24 = some ⟨oc24, od24, .func (PySem.W.fnOf "is_program" "is_program" (defArgs s_is_program) (defBody s_is_program) (defScope s_is_program) .none kV24 dc24 pm24 an24 cd24 ct24), sl24⟩)
    (c24 : PySem.W.codeIn K cd24 "is_program" = true)
    (k24 : PySem.W.keepIn K (.ref f24) = true)
    (a25 : PySem.W.nsIn K mainGlobals "require_program" = some (some (.ref f25)))
    (l25 : K.lookup f25 = some ⟨oc25, od25, .func (PySem.W.fnOf "require_program" "require_program" (defArgs s_require_program) (defBody s_require_program) (defScope s_require_program) .none kV25 dc25 pm25 an25 cd25 ct25), sl25⟩)
    (c25 : PySem.W.codeIn K cd25 "require_program" = true)
    (k25 : PySem.W.keepIn K (.ref f25) = true)
    (a26 : PySem.W.nsIn K mainGlobals "write_library" = some (some (.ref f26)))
    (l26 : K.lookup f26 = some ⟨oc26, od26, .func (PySem.W.fnOf "write_library" "write_library" (defArgs s_write_library) (defBody s_write_library) (defScope s_write_library) .none kV26 dc26 pm26 an26 cd26 ct26), sl26⟩)
    (c26 : PySem.W.codeIn K cd26 "write_library" = true)
    (k26 : PySem.W.keepIn K (.ref f26) = true)
    (a27 : PySem.W.nsIn K mainGlobals "write_call" = some (some (.ref f27)))
    (l27 : K.lookup f27 = some ⟨oc27, od27, .func (PySem.W.fnOf "write_call" "write_call" (defArgs s_write_call) (defBody s_write_call) (defScope s_write_call) .none kV27 dc27 pm27 an27 cd27 ct27), sl27⟩)
    (c27 : PySem.W.codeIn K cd27 "write_call" = true)
    (k27 : PySem.W.keepIn K (.ref f27) = true)
    (a28 : PySem.W.nsIn K mainGlobals "write_program" = some (some (.ref f28)))
    (l28 : K.lookup f28 = some ⟨oc28, od28, .func (PySem.W.fnOf "write_program" "write_program" (defArgs s_write_program) (defBody s_write_program) (defScope s_write_program) .none kV28 dc28 pm28 an28 cd28 ct28), sl28⟩)
    (c28 : PySem.W.codeIn K cd28 "write_program" = true)
    (k28 : PySem.W.keepIn K (.ref f28) = true)
    (a29 : PySem.W.nsIn K mainGlobals "_law_reel_of" = some (some (.ref f29)))
    (l29 : K.lookup f29 = some ⟨oc29, od29, .func (PySem.W.fnOf "_law_reel_of" "_law_reel_of" (defArgs s_law_reel_of) (defBody s_law_reel_of) (defScope s_law_reel_of) .none kV29 dc29 pm29 an29 cd29 ct29), sl29⟩)
    (c29 : PySem.W.codeIn K cd29 "_law_reel_of" = true)
    (k29 : PySem.W.keepIn K (.ref f29) = true)
    (a30 : PySem.W.nsIn K mainGlobals "_law_spin" = some (some (.ref f30)))
    (l30 : K.lookup f30 = some ⟨oc30, od30, .func (PySem.W.fnOf "_law_spin" "_law_spin" (defArgs s_law_spin) (defBody s_law_spin) (defScope s_law_spin) .none kV30 dc30 pm30 an30 cd30 ct30), sl30⟩)
    (c30 : PySem.W.codeIn K cd30 "_law_spin" = true)
    (k30 : PySem.W.keepIn K (.ref f30) = true)
    (a31 : PySem.W.nsIn K mainGlobals "_law_pick" = some (some (.ref f31)))
    (l31 : K.lookup f31 = some ⟨oc31, od31, .func (PySem.W.fnOf "_law_pick" "_law_pick" (defArgs s_law_pick) (defBody s_law_pick) (defScope s_law_pick) .none kV31 dc31 pm31 an31 cd31 ct31), sl31⟩)
    (c31 : PySem.W.codeIn K cd31 "_law_pick" = true)
    (k31 : PySem.W.keepIn K (.ref f31) = true)
    (a32 : PySem.W.nsIn K mainGlobals "_law_mixed" = some (some (.ref f32)))
    (l32 : K.lookup f32 = some ⟨oc32, od32, .func (PySem.W.fnOf "_law_mixed" "_law_mixed" (defArgs s_law_mixed) (defBody s_law_mixed) (defScope s_law_mixed) .none kV32 dc32 pm32 an32 cd32 ct32), sl32⟩)
    (c32 : PySem.W.codeIn K cd32 "_law_mixed" = true)
    (k32 : PySem.W.keepIn K (.ref f32) = true)
    (a33 : PySem.W.nsIn K mainGlobals "_law_words" = some (some (.ref f33)))
    (l33 : K.lookup f33 = some ⟨oc33, od33, .func (PySem.W.fnOf "_law_words" "_law_words" (defArgs s_law_words) (defBody s_law_words) (defScope s_law_words) .none kV33 dc33 pm33 an33 cd33 ct33), sl33⟩)
    (c33 : PySem.W.codeIn K cd33 "_law_words" = true)
    (k33 : PySem.W.keepIn K (.ref f33) = true)
    (a34 : PySem.W.nsIn K mainGlobals "_law_front" = some (some (.ref f34)))
    (l34 : K.lookup f34 = some ⟨oc34, od34, .func (PySem.W.fnOf "_law_front" "_law_front" (defArgs s_law_front) (defBody s_law_front) (defScope s_law_front) .none kV34 dc34 pm34 an34 cd34 ct34), sl34⟩)
    (c34 : PySem.W.codeIn K cd34 "_law_front" = true)
    (k34 : PySem.W.keepIn K (.ref f34) = true)
    (a35 : PySem.W.nsIn K mainGlobals "_law_type" = some (some (.ref f35)))
    (l35 : K.lookup f35 = some ⟨oc35, od35, .func (PySem.W.fnOf "_law_type" "_law_type" (defArgs s_law_type) (defBody s_law_type) (defScope s_law_type) .none kV35 dc35 pm35 an35 cd35 ct35), sl35⟩)
    (c35 : PySem.W.codeIn K cd35 "_law_type" = true)
    (k35 : PySem.W.keepIn K (.ref f35) = true)
    (a36 : PySem.W.nsIn K mainGlobals "_law_rule" = some (some (.ref f36)))
    (l36 : K.lookup f36 = some ⟨oc36, od36, .func (PySem.W.fnOf "_law_rule" "_law_rule" (defArgs s_law_rule) (defBody s_law_rule) (defScope s_law_rule) .none kV36 dc36 pm36 an36 cd36 ct36), sl36⟩)
    (c36 : PySem.W.codeIn K cd36 "_law_rule" = true)
    (k36 : PySem.W.keepIn K (.ref f36) = true)
    (a37 : PySem.W.nsIn K mainGlobals "_law_offer" = some (some (.ref f37)))
    (l37 : K.lookup f37 = some ⟨oc37, od37, .func (PySem.W.fnOf "_law_offer" "_law_offer" (defArgs s_law_offer) (defBody s_law_offer) (defScope s_law_offer) .none kV37 dc37 pm37 an37 cd37 ct37), sl37⟩)
    (c37 : PySem.W.codeIn K cd37 "_law_offer" = true)
    (k37 : PySem.W.keepIn K (.ref f37) = true)
    (a38 : PySem.W.nsIn K mainGlobals "_law_filled" = some (some (.ref f38)))
    (l38 : K.lookup f38 = some ⟨oc38, od38, .func (PySem.W.fnOf "_law_filled" "_law_filled" (defArgs s_law_filled) (defBody s_law_filled) (defScope s_law_filled) .none kV38 dc38 pm38 an38 cd38 ct38), sl38⟩)
    (c38 : PySem.W.codeIn K cd38 "_law_filled" = true)
    (k38 : PySem.W.keepIn K (.ref f38) = true)
    (a39 : PySem.W.nsIn K mainGlobals "_law_elder" = some (some (.ref f39)))
    (l39 : K.lookup f39 = some ⟨oc39, od39, .func (PySem.W.fnOf "_law_elder" "_law_elder" (defArgs s_law_elder) (defBody s_law_elder) (defScope s_law_elder) .none kV39 dc39 pm39 an39 cd39 ct39), sl39⟩)
    (c39 : PySem.W.codeIn K cd39 "_law_elder" = true)
    (k39 : PySem.W.keepIn K (.ref f39) = true)
    (a40 : PySem.W.nsIn K mainGlobals "_law_library" = some (some (.ref f40)))
    (l40 : K.lookup f40 = some ⟨oc40, od40, .func (PySem.W.fnOf "_law_library" "_law_library" (defArgs s_law_library) (defBody s_law_library) (defScope s_law_library) .none kV40 dc40 pm40 an40 cd40 ct40), sl40⟩)
    (c40 : PySem.W.codeIn K cd40 "_law_library" = true)
    (k40 : PySem.W.keepIn K (.ref f40) = true)
    (a41 : PySem.W.nsIn K mainGlobals "_law_word_of" = some (some (.ref f41)))
    (l41 : K.lookup f41 = some ⟨oc41, od41, .func (PySem.W.fnOf "_law_word_of" "_law_word_of" (defArgs s_law_word_of) (defBody s_law_word_of) (defScope s_law_word_of) .none kV41 dc41 pm41 an41 cd41 ct41), sl41⟩)
    (c41 : PySem.W.codeIn K cd41 "_law_word_of" = true)
    (k41 : PySem.W.keepIn K (.ref f41) = true)
    (a42 : PySem.W.nsIn K mainGlobals "_law_bad_names" = some (some (.ref f42)))
    (l42 : K.lookup f42 = some ⟨oc42, od42, .func (PySem.W.fnOf "_law_bad_names" "_law_bad_names" (defArgs s_law_bad_names) (defBody s_law_bad_names) (defScope s_law_bad_names) .none kV42 dc42 pm42 an42 cd42 ct42), sl42⟩)
    (c42 : PySem.W.codeIn K cd42 "_law_bad_names" = true)
    (k42 : PySem.W.keepIn K (.ref f42) = true)
    (a43 : PySem.W.nsIn K mainGlobals "_law_bad_lines" = some (some (.ref f43)))
    (l43 : K.lookup f43 = some ⟨oc43, od43, .func (PySem.W.fnOf "_law_bad_lines" "_law_bad_lines" (defArgs s_law_bad_lines) (defBody s_law_bad_lines) (defScope s_law_bad_lines) .none kV43 dc43 pm43 an43 cd43 ct43), sl43⟩)
    (c43 : PySem.W.codeIn K cd43 "_law_bad_lines" = true)
    (k43 : PySem.W.keepIn K (.ref f43) = true)
    (a44 : PySem.W.nsIn K mainGlobals "_law_right" = some (some (.ref f44)))
    (l44 : K.lookup f44 = some ⟨oc44, od44, .func (PySem.W.fnOf "_law_right" "_law_right" (defArgs s_law_right) (defBody s_law_right) (defScope s_law_right) .none kV44 dc44 pm44 an44 cd44 ct44), sl44⟩)
    (c44 : PySem.W.codeIn K cd44 "_law_right" = true)
    (k44 : PySem.W.keepIn K (.ref f44) = true)
    (a45 : PySem.W.nsIn K mainGlobals "law" = some (some (.ref f45)))
    (l45 : K.lookup f45 = some ⟨oc45, od45, .func (PySem.W.fnOf "law" "law" (defArgs s_law) (defBody s_law) (defScope s_law) .none kV45 dc45 pm45 an45 cd45 ct45), sl45⟩)
    (c45 : PySem.W.codeIn K cd45 "law" = true)
    (k45 : PySem.W.keepIn K (.ref f45) = true)
    (a46 : PySem.W.findIn K (.ref C_Candidate) "__init__" = some (some (.ref f46)))
    (rf46 : PySem.W.isFn K (.ref f46) = true)
    (rm46 : PySem.W.makesIn K C_Candidate = true)
    (l46 : K.lookup f46 = some ⟨oc46, od46, .func (PySem.W.fnOf "__init__" "Candidate.__init__" (defArgs s_Candidate___init__) (defBody s_Candidate___init__) (defScope s_Candidate___init__) .none kV46 dc46 pm46 an46 cd46 ct46), sl46⟩)
    (c46 : PySem.W.codeIn K cd46 "Candidate.__init__" = true)
    (k46 : PySem.W.keepIn K (.ref f46) = true)
    (rr47 : PySem.W.readsIn K C_Candidate (.type "type") = true)
    (rg47 : PySem.W.specialIn K (.ref C_Candidate) "__getattribute__" = some (some (.builtin "type.__getattribute__")))
    (a47 : PySem.W.findCls K (.ref C_Candidate) (.type "type") "from_line" = some (.get (.builtin "classmethod.__get__") (.ref pa47) .none (.ref C_Candidate)))
    (ra47 : PySem.W.recIn K pa47 "classmethod" = some (.ref f47 :: re47))
    (rf47 : PySem.W.fnIn K f47 = true)
    (l47 : K.lookup f47 = some ⟨oc47, od47, .func (PySem.W.fnOf "from_line" "Candidate.from_line" (defArgs s_Candidate_from_line) (defBody s_Candidate_from_line) (defScope s_Candidate_from_line) .none kV47 dc47 pm47 an47 cd47 ct47), sl47⟩)
    (c47 : PySem.W.codeIn K cd47 "Candidate.from_line" = true)
    (k47 : PySem.W.keepIn K (.ref f47) = true)
    (a48 : PySem.W.findIn K (.ref C_Library) "__init__" = some (some (.ref f48)))
    (rf48 : PySem.W.isFn K (.ref f48) = true)
    (rm48 : PySem.W.makesIn K C_Library = true)
    (l48 : K.lookup f48 = some ⟨oc48, od48, .func (PySem.W.fnOf "__init__" "Library.__init__" (defArgs s_Library___init__) (defBody s_Library___init__) (defScope s_Library___init__) .none (.ref KD48) dc48 pm48 an48 cd48 ct48), sl48⟩)
    (c48 : PySem.W.codeIn K cd48 "Library.__init__" = true)
    (k48 : PySem.W.keepIn K (.ref f48) = true)
    (ek48_conversions : PySem.W.nsIn K KD48 "conversions" = some (some (.ref e48_conversions)))
    (el48_conversions : K.lookup e48_conversions = some ⟨.type "tuple", eo48_conversions, .seq #[] en48_conversions, es48_conversions⟩)
    (ek48_candidates : PySem.W.nsIn K KD48 "candidates" = some (some (.ref e48_candidates)))
    (el48_candidates : K.lookup e48_candidates = some ⟨.type "tuple", eo48_candidates, .seq #[] en48_candidates, es48_candidates⟩)
    (e_MAX_DEPTH : PySem.W.nsIn K mainGlobals "MAX_DEPTH" = some (some (.int (400) t_MAX_DEPTH)))
    (e_MAX_RANK : PySem.W.nsIn K mainGlobals "MAX_RANK" = some (some (.int (9) t_MAX_RANK)))
    (e_MAX_LETTERS : PySem.W.nsIn K mainGlobals "MAX_LETTERS" = some (some (.int (8) t_MAX_LETTERS)))
    (e_KEYWORDS : PySem.W.nsIn K mainGlobals "KEYWORDS" = some (some (.ref a_KEYWORDS)))
    (w_KEYWORDS : K.lookup a_KEYWORDS = some ⟨.type "tuple", o_KEYWORDS, .seq #[.str "gives" t0_KEYWORDS, .str "to" t1_KEYWORDS] n_KEYWORDS, sl_KEYWORDS⟩)
    (e_MAX_MARKS : PySem.W.nsIn K mainGlobals "MAX_MARKS" = some (some (.int (8) t_MAX_MARKS)))
    (e_MAX_BASES : PySem.W.nsIn K mainGlobals "MAX_BASES" = some (some (.int (8) t_MAX_BASES)))
    (e_MAX_CONVERSIONS : PySem.W.nsIn K mainGlobals "MAX_CONVERSIONS" = some (some (.int (16) t_MAX_CONVERSIONS)))
    (e_MAX_CANDIDATES : PySem.W.nsIn K mainGlobals "MAX_CANDIDATES" = some (some (.int (16) t_MAX_CANDIDATES)))
    (e_MAX_PATTERNS : PySem.W.nsIn K mainGlobals "MAX_PATTERNS" = some (some (.int (3) t_MAX_PATTERNS)))
    (e_MAX_NAMES : PySem.W.nsIn K mainGlobals "MAX_NAMES" = some (some (.int (5) t_MAX_NAMES)))
    (e_MAX_LEFT : PySem.W.nsIn K mainGlobals "MAX_LEFT" = some (some (.int (2) t_MAX_LEFT)))
    (e_MAX_FRONT : PySem.W.nsIn K mainGlobals "MAX_FRONT" = some (some (.int (3) t_MAX_FRONT)))
    (e_MAX_LINES : PySem.W.nsIn K mainGlobals "MAX_LINES" = some (some (.int (8000) t_MAX_LINES)))
    (e_MAX_ARGUMENTS_reached : PySem.W.nsIn K mainGlobals "MAX_ARGUMENTS_reached" = some (some (.int (3) t_MAX_ARGUMENTS_reached)))
    (e_VALUE : PySem.W.nsIn K mainGlobals "VALUE" = some (some (.str "value" t_VALUE)))
    (e_CALL : PySem.W.nsIn K mainGlobals "CALL" = some (some (.str "call" t_CALL)))
    (e_MAX_ARGUMENTS_texts : PySem.W.nsIn K mainGlobals "MAX_ARGUMENTS_texts" = some (some (.int (3) t_MAX_ARGUMENTS_texts)))
    (z_abs : PySem.W.nsIn K mainGlobals "abs" = some none)
    (z_all : PySem.W.nsIn K mainGlobals "all" = some none)
    (z_any : PySem.W.nsIn K mainGlobals "any" = some none)
    (z_bool : PySem.W.nsIn K mainGlobals "bool" = some none)
    (z_classmethod : PySem.W.nsIn K mainGlobals "classmethod" = some none)
    (z_dict : PySem.W.nsIn K mainGlobals "dict" = some none)
    (z_enumerate : PySem.W.nsIn K mainGlobals "enumerate" = some none)
    (z_int : PySem.W.nsIn K mainGlobals "int" = some none)
    (z_isinstance : PySem.W.nsIn K mainGlobals "isinstance" = some none)
    (z_len : PySem.W.nsIn K mainGlobals "len" = some none)
    (z_list : PySem.W.nsIn K mainGlobals "list" = some none)
    (z_max : PySem.W.nsIn K mainGlobals "max" = some none)
    (z_min : PySem.W.nsIn K mainGlobals "min" = some none)
    (z_one : PySem.W.nsIn K mainGlobals "one" = some none)
    (z_range : PySem.W.nsIn K mainGlobals "range" = some none)
    (z_repr : PySem.W.nsIn K mainGlobals "repr" = some none)
    (z_sorted : PySem.W.nsIn K mainGlobals "sorted" = some none)
    (z_str : PySem.W.nsIn K mainGlobals "str" = some none)
    (z_tuple : PySem.W.nsIn K mainGlobals "tuple" = some none)
    (z_zip : PySem.W.nsIn K mainGlobals "zip" = some none)
    (cd44_ : cd44 = .ref cc44)
    (lc44 : K.lookup cc44 = some ⟨ee44, dd44, .fields uu44, ll44⟩)
    (pv44 : uu44[11]? = some (.ref PP44))
    (np44 : K.lookup PP44 = none)
    (rc44 : ((recsOf q).any fun e => e.name == "_law_right") = true)
    (cd45_ : cd45 = .ref cc45)
    (lc45 : K.lookup cc45 = some ⟨ee45, dd45, .fields uu45, ll45⟩)
    (pv45 : uu45[11]? = some (.ref PP45))
    (np45 : K.lookup PP45 = none)
    (rc45 : ((recsOf q).any fun e => e.name == "law") = true)
    (cd48_ : cd48 = .ref cc48)
    (lc48 : K.lookup cc48 = some ⟨ee48, dd48, .fields uu48, ll48⟩)
    (pv48 : uu48[11]? = some (.ref PP48))
    (np48 : K.lookup PP48 = none)
    (hc48 : PySem.W.codeHdIn K cc48 PP48 = true)
    (ht48 : h.get? PP48 = some { cls := .none, data := .fields #[] })
    (rn44_45 : PP44 ≠ PP45)
    (rn44_48 : PP44 ≠ PP48)
    (rn45_48 : PP45 ≠ PP48)
    (e_InvalidWord : PySem.W.nsIn K mainGlobals "InvalidWord" = some (some (.ref C_InvalidWord)))
    (e_InvalidLibrary : PySem.W.nsIn K mainGlobals "InvalidLibrary" = some (some (.ref C_InvalidLibrary)))
    (e_InvalidCall : PySem.W.nsIn K mainGlobals "InvalidCall" = some (some (.ref C_InvalidCall)))
    (e_InvalidProgram : PySem.W.nsIn K mainGlobals "InvalidProgram" = some (some (.ref C_InvalidProgram)))
    (e_ParseError : PySem.W.nsIn K mainGlobals "ParseError" = some (some (.ref C_ParseError)))
    (e_Candidate : PySem.W.nsIn K mainGlobals "Candidate" = some (some (.ref C_Candidate)))
    (e_Library : PySem.W.nsIn K mainGlobals "Library" = some (some (.ref C_Library)))
    (ex_InvalidWord : PySem.W.excIn K C_InvalidWord [.type "ValueError", .type "Exception", .type "BaseException", .type "object"] "ValueError.__new__" = true)
    (kp_InvalidWord : PySem.W.keepIn K (.ref C_InvalidWord) = true)
    (sb_InvalidWord : PySem.W.subIn K (.ref C_InvalidWord) (.type "BaseException") = some true)
    (ty_InvalidWord : PySem.W.typeIn K (.ref C_InvalidWord) = some (.type "type"))
    (hg_InvalidWord : PySem.W.findIn K (.ref C_InvalidWord) "__getattribute__" = some (some (.builtin "BaseException.__getattribute__")))
    (hk_InvalidWord : PySem.W.findIn K (.ref C_InvalidWord) "__getattr__" = some none)
    (hd_InvalidWord : PySem.W.hasDictIn K C_InvalidWord = true)
    (ha_InvalidWord : PySem.W.findIn K (.ref C_InvalidWord) "__class__" = some (some (.builtin "object.__class__")))
    (hn_InvalidWord : PySem.W.specialIn K (.builtin "object.__class__") "__get__" = some (some (.builtin "getset_descriptor.__get__")))
    (ht_InvalidWord : PySem.W.takesIn K (.builtin "object.__class__") = some true)
    (hm_InvalidWord : PySem.W.mroIn K C_InvalidWord (.type "object") = some true)
    (ex_InvalidLibrary : PySem.W.excIn K C_InvalidLibrary [.type "ValueError", .type "Exception", .type "BaseException", .type "object"] "ValueError.__new__" = true)
    (kp_InvalidLibrary : PySem.W.keepIn K (.ref C_InvalidLibrary) = true)
    (sb_InvalidLibrary : PySem.W.subIn K (.ref C_InvalidLibrary) (.type "BaseException") = some true)
    (ty_InvalidLibrary : PySem.W.typeIn K (.ref C_InvalidLibrary) = some (.type "type"))
    (hg_InvalidLibrary : PySem.W.findIn K (.ref C_InvalidLibrary) "__getattribute__" = some (some (.builtin "BaseException.__getattribute__")))
    (hk_InvalidLibrary : PySem.W.findIn K (.ref C_InvalidLibrary) "__getattr__" = some none)
    (hd_InvalidLibrary : PySem.W.hasDictIn K C_InvalidLibrary = true)
    (ha_InvalidLibrary : PySem.W.findIn K (.ref C_InvalidLibrary) "__class__" = some (some (.builtin "object.__class__")))
    (hn_InvalidLibrary : PySem.W.specialIn K (.builtin "object.__class__") "__get__" = some (some (.builtin "getset_descriptor.__get__")))
    (ht_InvalidLibrary : PySem.W.takesIn K (.builtin "object.__class__") = some true)
    (hm_InvalidLibrary : PySem.W.mroIn K C_InvalidLibrary (.type "object") = some true)
    (ex_InvalidCall : PySem.W.excIn K C_InvalidCall [.type "ValueError", .type "Exception", .type "BaseException", .type "object"] "ValueError.__new__" = true)
    (kp_InvalidCall : PySem.W.keepIn K (.ref C_InvalidCall) = true)
    (sb_InvalidCall : PySem.W.subIn K (.ref C_InvalidCall) (.type "BaseException") = some true)
    (ty_InvalidCall : PySem.W.typeIn K (.ref C_InvalidCall) = some (.type "type"))
    (hg_InvalidCall : PySem.W.findIn K (.ref C_InvalidCall) "__getattribute__" = some (some (.builtin "BaseException.__getattribute__")))
    (hk_InvalidCall : PySem.W.findIn K (.ref C_InvalidCall) "__getattr__" = some none)
    (hd_InvalidCall : PySem.W.hasDictIn K C_InvalidCall = true)
    (ha_InvalidCall : PySem.W.findIn K (.ref C_InvalidCall) "__class__" = some (some (.builtin "object.__class__")))
    (hn_InvalidCall : PySem.W.specialIn K (.builtin "object.__class__") "__get__" = some (some (.builtin "getset_descriptor.__get__")))
    (ht_InvalidCall : PySem.W.takesIn K (.builtin "object.__class__") = some true)
    (hm_InvalidCall : PySem.W.mroIn K C_InvalidCall (.type "object") = some true)
    (ex_InvalidProgram : PySem.W.excIn K C_InvalidProgram [.type "ValueError", .type "Exception", .type "BaseException", .type "object"] "ValueError.__new__" = true)
    (kp_InvalidProgram : PySem.W.keepIn K (.ref C_InvalidProgram) = true)
    (sb_InvalidProgram : PySem.W.subIn K (.ref C_InvalidProgram) (.type "BaseException") = some true)
    (ty_InvalidProgram : PySem.W.typeIn K (.ref C_InvalidProgram) = some (.type "type"))
    (hg_InvalidProgram : PySem.W.findIn K (.ref C_InvalidProgram) "__getattribute__" = some (some (.builtin "BaseException.__getattribute__")))
    (hk_InvalidProgram : PySem.W.findIn K (.ref C_InvalidProgram) "__getattr__" = some none)
    (hd_InvalidProgram : PySem.W.hasDictIn K C_InvalidProgram = true)
    (ha_InvalidProgram : PySem.W.findIn K (.ref C_InvalidProgram) "__class__" = some (some (.builtin "object.__class__")))
    (hn_InvalidProgram : PySem.W.specialIn K (.builtin "object.__class__") "__get__" = some (some (.builtin "getset_descriptor.__get__")))
    (ht_InvalidProgram : PySem.W.takesIn K (.builtin "object.__class__") = some true)
    (hm_InvalidProgram : PySem.W.mroIn K C_InvalidProgram (.type "object") = some true)
    (ycl_ParseError : K.lookup C_ParseError = some (excClassObj nm_ParseError qn_ParseError C_ParseError N_ParseError bs_ParseError bm_ParseError true sn_ParseError sub_ParseError ab_ParseError col_ParseError dd_ParseError k0_ParseError k1_ParseError k2_ParseError k3_ParseError k5_ParseError "ValueError.__new__"))
    (yve_ParseError : PySem.HandSPX.refsVE bm_ParseError = true)
    (ysa_ParseError : PySem.W.findIn K (.ref C_ParseError) "__setattr__" = some (some (.builtin "object.__setattr__")))
    (yga_ParseError : PySem.W.findIn K (.ref C_ParseError) "__getattribute__" = some (some (.builtin "BaseException.__getattribute__")))
    (ygg_ParseError : PySem.W.findIn K (.ref C_ParseError) "__getattr__" = some none)
    (yno_ParseError : PySem.W.findIn K (.ref C_ParseError) "line" = some none)
    (yic_ParseError : PySem.W.findIn K (.ref C_ParseError) "__init__" = some (some (.ref fI_ParseError)))
    (ytc_ParseError : PySem.W.typeIn K (.ref fI_ParseError) = some (.type "function"))
    (ykc_ParseError : PySem.W.keepIn K (.ref C_ParseError) = true)
    (yex_ParseError : PySem.W.subIn K (.ref C_ParseError) (.type "BaseException") = some true)
    (yvc_ParseError : PySem.W.subIn K (.ref C_ParseError) (.type "ValueError") = some true)
    (yty_ParseError : PySem.W.typeIn K (.ref C_ParseError) = some (.type "type"))
    (yhd_ParseError : PySem.W.hasDictIn K C_ParseError = true)
    (ysu_ParseError : PySem.W.ks_superIn K C_ParseError C_ParseError "__init__" = some (some (.builtin "ValueError.__init__")))
    (yop_ParseError : PySem.W.nsIn K cStatics "thirdparty.any" = some none)
    (yms_ParseError : PySem.W.mroIn K C_ParseError (.ref C_ParseError) = some true)
    (yns_ParseError : PySem.W.nsIn K mainGlobals "super" = some none)
    (yto_ParseError : (P.main.scope.names.lookup ("super" : Str)).isSome = false)
    (yfn_ParseError : K.lookup fI_ParseError = some ⟨foc_ParseError, fod_ParseError, .func (PySem.W.ksFn "__init__" "ParseError.__init__" (PySem.PeX.iA "line" ⟨⟨19, 17, 19, 21⟩, ⟨19, 23, 19, 27⟩, ⟨20, 8, 20, 13⟩, ⟨20, 8, 20, 15⟩, ⟨20, 8, 20, 24⟩, ⟨20, 27, 20, 32⟩, ⟨20, 33, 20, 37⟩, ⟨20, 32, 20, 38⟩, ⟨20, 38, 20, 53⟩, ⟨20, 25, 20, 54⟩, ⟨20, 8, 20, 55⟩, ⟨20, 8, 20, 55⟩, ⟨21, 8, 21, 12⟩, ⟨21, 8, 21, 17⟩, ⟨21, 20, 21, 24⟩, ⟨21, 8, 21, 24⟩⟩) (PySem.PeX.iB "line" "line " " cannot be read" ⟨⟨19, 17, 19, 21⟩, ⟨19, 23, 19, 27⟩, ⟨20, 8, 20, 13⟩, ⟨20, 8, 20, 15⟩, ⟨20, 8, 20, 24⟩, ⟨20, 27, 20, 32⟩, ⟨20, 33, 20, 37⟩, ⟨20, 32, 20, 38⟩, ⟨20, 38, 20, 53⟩, ⟨20, 25, 20, 54⟩, ⟨20, 8, 20, 55⟩, ⟨20, 8, 20, 55⟩, ⟨21, 8, 21, 12⟩, ⟨21, 8, 21, 17⟩, ⟨21, 20, 21, 24⟩, ⟨21, 8, 21, 24⟩⟩) (PySem.PeX.iS "line") .none .none fdoc_ParseError fpm_ParseError fan_ParseError (.ref cda_ParseError) fct_ParseError cc_ParseError), fsl_ParseError⟩)
    (yci_ParseError : PySem.W.codeIn K (.ref cda_ParseError) "ParseError.__init__" = true)
    (yce_ParseError : K.lookup cc_ParseError = some ⟨cll_ParseError, cld_ParseError, .cell (some (.ref C_ParseError)), csl_ParseError⟩)
    (yco_ParseError : K.lookup cda_ParseError = some ⟨ccl_ParseError, cdd_ParseError, .fields vs_ParseError, ccs_ParseError⟩)
    (yvs_ParseError : vs_ParseError[2]? = some (.str file_ParseError tf_ParseError))
    (yfi_ParseError : ((P.main.file : Str) == file_ParseError) = true)
    (zt_InvalidWord : PySem.W.typeIn K (.ref C_InvalidWord) = some (.type "type"))
    (su_InvalidWord_InvalidWord : PySem.W.subIn K (.ref C_InvalidWord) (.ref C_InvalidWord) = some true)
    (zb_InvalidWord : PySem.W.subIn K (.ref C_InvalidWord) (.type "BaseException") = some true)
    (zd_InvalidWord : PySem.W.hasDictIn K C_InvalidWord = true)
    (su_InvalidLibrary_InvalidWord : PySem.W.subIn K (.ref C_InvalidLibrary) (.ref C_InvalidWord) = some false)
    (zt_InvalidLibrary : PySem.W.typeIn K (.ref C_InvalidLibrary) = some (.type "type"))
    (su_InvalidLibrary_InvalidLibrary : PySem.W.subIn K (.ref C_InvalidLibrary) (.ref C_InvalidLibrary) = some true)
    (zb_InvalidLibrary : PySem.W.subIn K (.ref C_InvalidLibrary) (.type "BaseException") = some true)
    (zd_InvalidLibrary : PySem.W.hasDictIn K C_InvalidLibrary = true)
    (su_InvalidCall_InvalidWord : PySem.W.subIn K (.ref C_InvalidCall) (.ref C_InvalidWord) = some false)
    (su_InvalidCall_InvalidLibrary : PySem.W.subIn K (.ref C_InvalidCall) (.ref C_InvalidLibrary) = some false)
    (zt_InvalidCall : PySem.W.typeIn K (.ref C_InvalidCall) = some (.type "type"))
    (su_InvalidCall_InvalidCall : PySem.W.subIn K (.ref C_InvalidCall) (.ref C_InvalidCall) = some true)
    (zb_InvalidCall : PySem.W.subIn K (.ref C_InvalidCall) (.type "BaseException") = some true)
    (zd_InvalidCall : PySem.W.hasDictIn K C_InvalidCall = true)
    (su_InvalidProgram_InvalidWord : PySem.W.subIn K (.ref C_InvalidProgram) (.ref C_InvalidWord) = some false)
    (su_InvalidProgram_InvalidLibrary : PySem.W.subIn K (.ref C_InvalidProgram) (.ref C_InvalidLibrary) = some false)
    (su_InvalidProgram_InvalidCall : PySem.W.subIn K (.ref C_InvalidProgram) (.ref C_InvalidCall) = some false)
    (zt_InvalidProgram : PySem.W.typeIn K (.ref C_InvalidProgram) = some (.type "type"))
    (su_InvalidProgram_InvalidProgram : PySem.W.subIn K (.ref C_InvalidProgram) (.ref C_InvalidProgram) = some true)
    (zb_InvalidProgram : PySem.W.subIn K (.ref C_InvalidProgram) (.type "BaseException") = some true)
    (zd_InvalidProgram : PySem.W.hasDictIn K C_InvalidProgram = true)
    (zt_Library : PySem.W.typeIn K (.ref C_Library) = some (.type "type"))
    (su_Candidate_Library : PySem.W.subIn K (.ref C_Candidate) (.ref C_Library) = some false)
    (ic_Library : PySem.W.isClsIn K C_Library = true)
    (rq_Candidate_Library : (Value.ref C_Candidate == Value.ref C_Library) = false)
    : ∃ (fd : FuncData) (cs : List (Addr × Addr)), (∀ p ∈ cs, h.get? p.2 = some { cls := .none, data := .fields #[] }) ∧ (∀ p ∈ cs, K.lookup p.2 = none) ∧ (∀ p ∈ cs, PySem.W.CodeHd h p.1 p.2) ∧ (∀ (s : Shared) (v : Value), BindsTo s fd ⟨[v], []⟩ [("_law_script", v)]) ∧
      ∀ base : Heap, K.In base → base.Ns mainGlobals mg → (∀ p ∈ cs, TabB base mg p.1 p.2) → FnG P w K mg base CX0 14 fa fd ["_law_script"] (spLaw K cs) := by
  have e : fa = f45 := Value.ref.inj (Option.some.inj (hfa.symm.trans (PySem.W.mg_of X G a45)))
  rw [e]
  let T : Tx K mg := {
    ha_Candidate := qha_Candidate,
    ob_Candidate := qob_Candidate,
    ne_Candidate := qne_Candidate,
    zs_Candidate := qzs_Candidate,
    zt_Candidate := qzt_Candidate,
    zn_Candidate := qzn_Candidate,
    zi_Candidate := qzi_Candidate,
    zc_Candidate := qzc_Candidate,
    zl_Candidate := qzl_Candidate,
    zd_Candidate := qzd_Candidate,
    zb_Candidate := qzb_Candidate,
    zu_Candidate := qzu_Candidate,
    hn_Candidate := qhn_Candidate,
    ht_Candidate := qht_Candidate,
    cl_Candidate := ⟨qpg_Candidate, qhd_Candidate, qpo_Candidate, qsa_Candidate⟩, kp_Candidate := kp_Candidate,
    no_Candidate_own_name := qn_Candidate_own_name,
    no_Candidate_own_patterns := qn_Candidate_own_patterns,
    no_Candidate_own_result := qn_Candidate_own_result,
    no_Candidate_own_key := qn_Candidate_own_key,
    ha_Library := qha_Library,
    ob_Library := qob_Library,
    ne_Library := qne_Library,
    zs_Library := qzs_Library,
    zt_Library := qzt_Library,
    zn_Library := qzn_Library,
    zi_Library := qzi_Library,
    zc_Library := qzc_Library,
    zl_Library := qzl_Library,
    zd_Library := qzd_Library,
    zb_Library := qzb_Library,
    zu_Library := qzu_Library,
    hn_Library := qhn_Library,
    ht_Library := qht_Library,
    cl_Library := ⟨qpg_Library, qhd_Library, qpo_Library, qsa_Library⟩, kp_Library := kp_Library,
    no_Library_own_marks := qn_Library_own_marks,
    no_Library_own_bases := qn_Library_own_bases,
    no_Library_own_conversions := qn_Library_own_conversions,
    no_Library_own_candidates := qn_Library_own_candidates,
    no_Library_own_tables := qn_Library_own_tables,
    f_is_integer := f0, d_is_integer := _, F_is_integer := fun_mk (st := s_is_integer) l0 c0 k0,
    b_is_integer := (fun_mk (st := s_is_integer) l0 c0 k0).binds (ps := ["value"]) fun _ _ _ _ _ _ us hl => match us, hl with | [_], _ => rfl,
    g_is_integer := PySem.W.mg_of X G a0,
    f_is_integer_within := f1, d_is_integer_within := _, F_is_integer_within := fun_mk (st := s_is_integer_within) l1 c1 k1,
    b_is_integer_within := (fun_mk (st := s_is_integer_within) l1 c1 k1).binds (ps := ["value", "least", "most"]) fun _ _ _ _ _ _ us hl => match us, hl with | [_, _, _], _ => rfl,
    g_is_integer_within := PySem.W.mg_of X G a1,
    f_is_name := f2, d_is_name := _, F_is_name := fun_mk (st := s_is_name) l2 c2 k2,
    b_is_name := (fun_mk (st := s_is_name) l2 c2 k2).binds (ps := ["value"]) fun _ _ _ _ _ _ us hl => match us, hl with | [_], _ => rfl,
    g_is_name := PySem.W.mg_of X G a2,
    f_is_names := f3, d_is_names := _, F_is_names := fun_mk (st := s_is_names) l3 c3 k3,
    b_is_names := (fun_mk (st := s_is_names) l3 c3 k3).binds (ps := ["value", "least", "most"]) fun _ _ _ _ _ _ us hl => match us, hl with | [_, _, _], _ => rfl,
    g_is_names := PySem.W.mg_of X G a3,
    f_is_type := f4, d_is_type := _, F_is_type := fun_mk (st := s_is_type) l4 c4 k4,
    b_is_type := (fun_mk (st := s_is_type) l4 c4 k4).binds (ps := ["value"]) fun _ _ _ _ _ _ us hl => match us, hl with | [_], _ => rfl,
    g_is_type := PySem.W.mg_of X G a4,
    f_is_ascending := f5, d_is_ascending := _, F_is_ascending := fun_mk (st := s_is_ascending) l5 c5 k5,
    b_is_ascending := (fun_mk (st := s_is_ascending) l5 c5 k5).binds (ps := ["values"]) fun _ _ _ _ _ _ us hl => match us, hl with | [_], _ => rfl,
    g_is_ascending := PySem.W.mg_of X G a5,
    f_write_type := f6, d_write_type := _, F_write_type := fun_mk (st := s_write_type) l6 c6 k6,
    b_write_type := (fun_mk (st := s_write_type) l6 c6 k6).binds (ps := ["names"]) fun _ _ _ _ _ _ us hl => match us, hl with | [_], _ => rfl,
    g_write_type := PySem.W.mg_of X G a6,
    f_is_conversion := f7, d_is_conversion := _, F_is_conversion := fun_mk (st := s_is_conversion) l7 c7 k7,
    b_is_conversion := (fun_mk (st := s_is_conversion) l7 c7 k7).binds (ps := ["value"]) fun _ _ _ _ _ _ us hl => match us, hl with | [_], _ => rfl,
    g_is_conversion := PySem.W.mg_of X G a7,
    f_is_pattern := f8, d_is_pattern := _, F_is_pattern := fun_mk (st := s_is_pattern) l8 c8 k8,
    b_is_pattern := (fun_mk (st := s_is_pattern) l8 c8 k8).binds (ps := ["value"]) fun _ _ _ _ _ _ us hl => match us, hl with | [_], _ => rfl,
    g_is_pattern := PySem.W.mg_of X G a8,
    f_is_result := f9, d_is_result := _, F_is_result := fun_mk (st := s_is_result) l9 c9 k9,
    b_is_result := (fun_mk (st := s_is_result) l9 c9 k9).binds (ps := ["value", "patterns"]) fun _ _ _ _ _ _ us hl => match us, hl with | [_, _], _ => rfl,
    g_is_result := PySem.W.mg_of X G a9,
    f_text_of_side := f10, d_text_of_side := _, F_text_of_side := fun_mk (st := s_text_of_side) l10 c10 k10,
    b_text_of_side := (fun_mk (st := s_text_of_side) l10 c10 k10).binds (ps := ["is_open", "names"]) fun _ _ _ _ _ _ us hl => match us, hl with | [_, _], _ => rfl,
    g_text_of_side := PySem.W.mg_of X G a10,
    f_line_of_candidate := f11, d_line_of_candidate := _, F_line_of_candidate := fun_mk (st := s_line_of_candidate) l11 c11 k11,
    b_line_of_candidate := (fun_mk (st := s_line_of_candidate) l11 c11 k11).binds (ps := ["candidate"]) fun _ _ _ _ _ _ us hl => match us, hl with | [_], _ => rfl,
    g_line_of_candidate := PySem.W.mg_of X G a11,
    f_side_of := f12, d_side_of := _, F_side_of := fun_mk (st := s_side_of) l12 c12 k12,
    b_side_of := (fun_mk (st := s_side_of) l12 c12 k12).binds (ps := ["words"]) fun _ _ _ _ _ _ us hl => match us, hl with | [_], _ => rfl,
    g_side_of := PySem.W.mg_of X G a12,
    f_pattern_of := f13, d_pattern_of := _, F_pattern_of := fun_mk (st := s_pattern_of) l13 c13 k13,
    b_pattern_of := (fun_mk (st := s_pattern_of) l13 c13 k13).binds (ps := ["text"]) fun _ _ _ _ _ _ us hl => match us, hl with | [_], _ => rfl,
    g_pattern_of := PySem.W.mg_of X G a13,
    f_result_of_text := f14, d_result_of_text := _, F_result_of_text := fun_mk (st := s_result_of_text) l14 c14 k14,
    b_result_of_text := (fun_mk (st := s_result_of_text) l14 c14 k14).binds (ps := ["text"]) fun _ _ _ _ _ _ us hl => match us, hl with | [_], _ => rfl,
    g_result_of_text := PySem.W.mg_of X G a14,
    f_candidate_of := f15, d_candidate_of := _, F_candidate_of := fun_mk (st := s_candidate_of) l15 c15 k15,
    b_candidate_of := (fun_mk (st := s_candidate_of) l15 c15 k15).binds (ps := ["line"]) fun _ _ _ _ _ _ us hl => match us, hl with | [_], _ => rfl,
    g_candidate_of := PySem.W.mg_of X G a15,
    f_are_patterns := f16, d_are_patterns := _, F_are_patterns := fun_mk (st := s_are_patterns) l16 c16 k16,
    b_are_patterns := (fun_mk (st := s_are_patterns) l16 c16 k16).binds (ps := ["value"]) fun _ _ _ _ _ _ us hl => match us, hl with | [_], _ => rfl,
    g_are_patterns := PySem.W.mg_of X G a16,
    f_names_in_candidate := f17, d_names_in_candidate := _, F_names_in_candidate := fun_mk (st := s_names_in_candidate) l17 c17 k17,
    b_names_in_candidate := (fun_mk (st := s_names_in_candidate) l17 c17 k17).binds (ps := ["candidate"]) fun _ _ _ _ _ _ us hl => match us, hl with | [_], _ => rfl,
    g_names_in_candidate := PySem.W.mg_of X G a17,
    f_names_in_conversion := f18, d_names_in_conversion := _, F_names_in_conversion := fun_mk (st := s_names_in_conversion) l18 c18 k18,
    b_names_in_conversion := (fun_mk (st := s_names_in_conversion) l18 c18 k18).binds (ps := ["conversion"]) fun _ _ _ _ _ _ us hl => match us, hl with | [_], _ => rfl,
    g_names_in_conversion := PySem.W.mg_of X G a18,
    f_names_in := f19, d_names_in := _, F_names_in := fun_mk (st := s_names_in) l19 c19 k19,
    b_names_in := (fun_mk (st := s_names_in) l19 c19 k19).binds (ps := ["item"]) fun _ _ _ _ _ _ us hl => match us, hl with | [_], _ => rfl,
    g_names_in := PySem.W.mg_of X G a19,
    f_are_items := f20, d_are_items := _, F_are_items := fun_mk (st := s_are_items) l20 c20 k20,
    b_are_items := (fun_mk (st := s_are_items) l20 c20 k20).binds (ps := ["conversions", "candidates"]) fun _ _ _ _ _ _ us hl => match us, hl with | [_, _], _ => rfl,
    g_are_items := PySem.W.mg_of X G a20,
    f_is_library_of := f21, d_is_library_of := _, F_is_library_of := fun_mk (st := s_is_library_of) l21 c21 k21,
    b_is_library_of := (fun_mk (st := s_is_library_of) l21 c21 k21).binds (ps := ["marks", "bases", "conversions", "candidates"]) fun _ _ _ _ _ _ us hl => match us, hl with | [_, _, _, _], _ => rfl,
    g_is_library_of := PySem.W.mg_of X G a21,
    f_require_library := f22, d_require_library := _, F_require_library := fun_mk (st := s_require_library) l22 c22 k22,
    b_require_library := (fun_mk (st := s_require_library) l22 c22 k22).binds (ps := ["value"]) fun _ _ _ _ _ _ us hl => match us, hl with | [_], _ => rfl,
    g_require_library := PySem.W.mg_of X G a22,
    f_is_line := f23, d_is_line := _, F_is_line := fun_mk (st := s_is_line) l23 c23 k23,
    b_is_line := (fun_mk (st := s_is_line) l23 c23 k23).binds (ps := ["at", "value"]) fun _ _ _ _ _ _ us hl => match us, hl with | [_, _], _ => rfl,
    g_is_line := PySem.W.mg_of X G a23,
    f_is_program := f24, d_is_program := _, F_is_program := fun_mk (st := s_is_program) l24 c24 k24,
    b_is_program := (fun_mk (st := s_is_program) l24 c24 k24).binds (ps := ["value"]) fun _ _ _ _ _ _ us hl => match us, hl with | [_], _ => rfl,
    g_is_program := PySem.W.mg_of X G a24,
    f_require_program := f25, d_require_program := _, F_require_program := fun_mk (st := s_require_program) l25 c25 k25,
    b_require_program := (fun_mk (st := s_require_program) l25 c25 k25).binds (ps := ["value"]) fun _ _ _ _ _ _ us hl => match us, hl with | [_], _ => rfl,
    g_require_program := PySem.W.mg_of X G a25,
    f_write_library := f26, d_write_library := _, F_write_library := fun_mk (st := s_write_library) l26 c26 k26,
    b_write_library := (fun_mk (st := s_write_library) l26 c26 k26).binds (ps := ["library"]) fun _ _ _ _ _ _ us hl => match us, hl with | [_], _ => rfl,
    g_write_library := PySem.W.mg_of X G a26,
    f_write_call := f27, d_write_call := _, F_write_call := fun_mk (st := s_write_call) l27 c27 k27,
    b_write_call := (fun_mk (st := s_write_call) l27 c27 k27).binds (ps := ["name", "types"]) fun _ _ _ _ _ _ us hl => match us, hl with | [_, _], _ => rfl,
    g_write_call := PySem.W.mg_of X G a27,
    f_write_program := f28, d_write_program := _, F_write_program := fun_mk (st := s_write_program) l28 c28 k28,
    b_write_program := (fun_mk (st := s_write_program) l28 c28 k28).binds (ps := ["program"]) fun _ _ _ _ _ _ us hl => match us, hl with | [_], _ => rfl,
    g_write_program := PySem.W.mg_of X G a28,
    f__law_reel_of := f29, d__law_reel_of := _, F__law_reel_of := fun_mk (st := s_law_reel_of) l29 c29 k29,
    b__law_reel_of := (fun_mk (st := s_law_reel_of) l29 c29 k29).binds (ps := ["_law_script", "_law_spot"]) fun _ _ _ _ _ _ us hl => match us, hl with | [_, _], _ => rfl,
    g__law_reel_of := PySem.W.mg_of X G a29,
    f__law_spin := f30, d__law_spin := _, F__law_spin := fun_mk (st := s_law_spin) l30 c30 k30,
    b__law_spin := (fun_mk (st := s_law_spin) l30 c30 k30).binds (ps := ["_law_reel", "_law_total"]) fun _ _ _ _ _ _ us hl => match us, hl with | [_, _], _ => rfl,
    g__law_spin := PySem.W.mg_of X G a30,
    f__law_pick := f31, d__law_pick := _, F__law_pick := fun_mk (st := s_law_pick) l31 c31 k31,
    b__law_pick := (fun_mk (st := s_law_pick) l31 c31 k31).binds (ps := ["_law_reel", "_law_items"]) fun _ _ _ _ _ _ us hl => match us, hl with | [_, _], _ => rfl,
    g__law_pick := PySem.W.mg_of X G a31,
    f__law_mixed := f32, d__law_mixed := _, F__law_mixed := fun_mk (st := s_law_mixed) l32 c32 k32,
    b__law_mixed := (fun_mk (st := s_law_mixed) l32 c32 k32).binds (ps := ["_law_reel", "_law_items"]) fun _ _ _ _ _ _ us hl => match us, hl with | [_, _], _ => rfl,
    g__law_mixed := PySem.W.mg_of X G a32,
    f__law_words := f33, d__law_words := _, F__law_words := fun_mk (st := s_law_words) l33 c33 k33,
    b__law_words := (fun_mk (st := s_law_words) l33 c33 k33).binds (ps := ["_law_reel", "_law_size"]) fun _ _ _ _ _ _ us hl => match us, hl with | [_, _], _ => rfl,
    g__law_words := PySem.W.mg_of X G a33,
    f__law_front := f34, d__law_front := _, F__law_front := fun_mk (st := s_law_front) l34 c34 k34,
    b__law_front := (fun_mk (st := s_law_front) l34 c34 k34).binds (ps := ["_law_reel", "_law_spec", "_law_most"]) fun _ _ _ _ _ _ us hl => match us, hl with | [_, _, _], _ => rfl,
    g__law_front := PySem.W.mg_of X G a34,
    f__law_type := f35, d__law_type := _, F__law_type := fun_mk (st := s_law_type) l35 c35 k35,
    b__law_type := (fun_mk (st := s_law_type) l35 c35 k35).binds (ps := ["_law_reel", "_law_spec", "_law_most"]) fun _ _ _ _ _ _ us hl => match us, hl with | [_, _, _], _ => rfl,
    g__law_type := PySem.W.mg_of X G a35,
    f__law_rule := f36, d__law_rule := _, F__law_rule := fun_mk (st := s_law_rule) l36 c36 k36,
    b__law_rule := (fun_mk (st := s_law_rule) l36 c36 k36).binds (ps := ["_law_reel", "_law_spec"]) fun _ _ _ _ _ _ us hl => match us, hl with | [_, _], _ => rfl,
    g__law_rule := PySem.W.mg_of X G a36,
    f__law_offer := f37, d__law_offer := _, F__law_offer := fun_mk (st := s_law_offer) l37 c37 k37,
    b__law_offer := (fun_mk (st := s_law_offer) l37 c37 k37).binds (ps := ["_law_reel", "_law_spec", "_law_names"]) fun _ _ _ _ _ _ us hl => match us, hl with | [_, _, _], _ => rfl,
    g__law_offer := PySem.W.mg_of X G a37,
    f__law_filled := f38, d__law_filled := _, F__law_filled := fun_mk (st := s_law_filled) l38 c38 k38,
    b__law_filled := (fun_mk (st := s_law_filled) l38 c38 k38).binds (ps := ["_law_reel", "_law_spec", "_law_names", "_law_size"]) fun _ _ _ _ _ _ us hl => match us, hl with | [_, _, _, _], _ => rfl,
    g__law_filled := PySem.W.mg_of X G a38,
    f__law_elder := f39, d__law_elder := _, F__law_elder := fun_mk (st := s_law_elder) l39 c39 k39,
    b__law_elder := (fun_mk (st := s_law_elder) l39 c39 k39).binds (ps := ["_law_reel", "_law_size"]) fun _ _ _ _ _ _ us hl => match us, hl with | [_, _], _ => rfl,
    g__law_elder := PySem.W.mg_of X G a39,
    f__law_library := f40, d__law_library := _, F__law_library := fun_mk (st := s_law_library) l40 c40 k40,
    b__law_library := (fun_mk (st := s_law_library) l40 c40 k40).binds (ps := ["_law_spec"]) fun _ _ _ _ _ _ us hl => match us, hl with | [_], _ => rfl,
    g__law_library := PySem.W.mg_of X G a40,
    f__law_word_of := f41, d__law_word_of := _, F__law_word_of := fun_mk (st := s_law_word_of) l41 c41 k41,
    b__law_word_of := (fun_mk (st := s_law_word_of) l41 c41 k41).binds (ps := ["_law_call"]) fun _ _ _ _ _ _ us hl => match us, hl with | [_], _ => rfl,
    g__law_word_of := PySem.W.mg_of X G a41,
    f__law_bad_names := f42, d__law_bad_names := _, F__law_bad_names := fun_mk (st := s_law_bad_names) l42 c42 k42,
    b__law_bad_names := (fun_mk (st := s_law_bad_names) l42 c42 k42).binds (ps := []) fun _ _ _ _ _ _ us hl => match us, hl with | [], _ => rfl,
    g__law_bad_names := PySem.W.mg_of X G a42,
    f__law_bad_lines := f43, d__law_bad_lines := _, F__law_bad_lines := fun_mk (st := s_law_bad_lines) l43 c43 k43,
    b__law_bad_lines := (fun_mk (st := s_law_bad_lines) l43 c43 k43).binds (ps := ["_law_at"]) fun _ _ _ _ _ _ us hl => match us, hl with | [_], _ => rfl,
    g__law_bad_lines := PySem.W.mg_of X G a43,
    f__law_right := f44, d__law_right := _, F__law_right := fun_mk (st := s_law_right) l44 c44 k44,
    b__law_right := (fun_mk (st := s_law_right) l44 c44 k44).binds (ps := ["_law_reel"]) fun _ _ _ _ _ _ us hl => match us, hl with | [_], _ => rfl,
    g__law_right := PySem.W.mg_of X G a44,
    f_law := f45, d_law := _, F_law := fun_mk (st := s_law) l45 c45 k45,
    b_law := (fun_mk (st := s_law) l45 c45 k45).binds (ps := ["_law_script"]) fun _ _ _ _ _ _ us hl => match us, hl with | [_], _ => rfl,
    g_law := PySem.W.mg_of X G a45,
    mk_Candidate := ⟨rm46, a46, rf46, kp_Candidate⟩,
    f_Candidate___init__ := f46, d_Candidate___init__ := _, F_Candidate___init__ := fun_mk (st := s_Candidate___init__) l46 c46 k46,
    b_Candidate___init__ := (fun_mk (st := s_Candidate___init__) l46 c46 k46).binds (ps := ["self", "name", "patterns", "result"]) fun _ _ _ _ _ _ us hl => match us, hl with | [_, _, _, _], _ => rfl,
    mc_Candidate := .type "type", cr_Candidate := ⟨rr47, rg47⟩, pa_Candidate_from_line := pa47, cm_Candidate_from_line := ⟨a47, ⟨_, ra47⟩, rf47⟩,
    f_Candidate_from_line := f47, d_Candidate_from_line := _, F_Candidate_from_line := fun_mk (st := s_Candidate_from_line) l47 c47 k47,
    b_Candidate_from_line := (fun_mk (st := s_Candidate_from_line) l47 c47 k47).binds (ps := ["cls", "line"]) fun _ _ _ _ _ _ us hl => match us, hl with | [_, _], _ => rfl,
    mk_Library := ⟨rm48, a48, rf48, kp_Library⟩,
    f_Library___init__ := f48, d_Library___init__ := _, F_Library___init__ := fun_mk (st := s_Library___init__) l48 c48 k48,
    e_Library___init___conversions := e48_conversions, q_Library___init___conversions := fun H => .inr ⟨_, _, _, el48_conversions, rfl, rfl, (by show 0 ≤ sizeLine; decide), .nil⟩,
    e_Library___init___candidates := e48_candidates, q_Library___init___candidates := fun H => .inr ⟨_, _, _, el48_candidates, rfl, rfl, (by show 0 ≤ sizeLine; decide), .nil⟩,
    kb0_Library___init__ := ⟨fun s us ws X l1 l2 => match us, l1, ws, l2 with | [_, _, _], _, [], _ => BindsTo.of_looks fun M => KwChain.looks (D := KD48) (l := [("conversions", .ref e48_conversions), ("candidates", .ref e48_candidates)]) X (by simp only [List.forall_mem_cons, List.not_mem_nil, false_implies, implies_true, and_true, ek48_conversions, ek48_candidates, and_self]) ⟨_, _, _, _, _, _, rfl, rfl, ⟨_, _, _, _, _, _, rfl, rfl, rfl⟩⟩, fun r1 r2 => r1.append (r2.append (.cons rfl (.cons rfl (.nil))))⟩,
    kb1_Library___init__ := ⟨fun s us ws X l1 l2 => match us, l1, ws, l2 with | [_, _, _], _, [_], _ => BindsTo.of_looks fun M => KwChain.looks (D := KD48) (l := [("candidates", .ref e48_candidates)]) X (by simp only [List.forall_mem_cons, List.not_mem_nil, false_implies, implies_true, and_true, ek48_candidates, and_self]) ⟨_, _, _, _, _, _, rfl, rfl, rfl⟩, fun r1 r2 => r1.append (r2.append (.cons rfl (.nil)))⟩,
    kb2_Library___init__ := ⟨fun s us ws X l1 l2 => match us, l1, ws, l2 with | [_, _, _], _, [_, _], _ => BindsTo.of_looks fun M => KwChain.looks (D := KD48) (l := []) X (by simp only [List.not_mem_nil, false_implies, implies_true]) rfl, fun r1 r2 => r1.append (r2.append (.nil))⟩,
    t_MAX_DEPTH := t_MAX_DEPTH, m_MAX_DEPTH := PySem.W.mg_of X G e_MAX_DEPTH,
    t_MAX_RANK := t_MAX_RANK, m_MAX_RANK := PySem.W.mg_of X G e_MAX_RANK,
    t_MAX_LETTERS := t_MAX_LETTERS, m_MAX_LETTERS := PySem.W.mg_of X G e_MAX_LETTERS,
    a_KEYWORDS := a_KEYWORDS, m_KEYWORDS := PySem.W.mg_of X G e_KEYWORDS, q_KEYWORDS := fun H => .inr ⟨_, _, _, w_KEYWORDS, rfl, rfl, (by show 2 ≤ sizeLine; decide), .cons ⟨_, rfl⟩ (.cons ⟨_, rfl⟩ (.nil))⟩,
    t_MAX_MARKS := t_MAX_MARKS, m_MAX_MARKS := PySem.W.mg_of X G e_MAX_MARKS,
    t_MAX_BASES := t_MAX_BASES, m_MAX_BASES := PySem.W.mg_of X G e_MAX_BASES,
    t_MAX_CONVERSIONS := t_MAX_CONVERSIONS, m_MAX_CONVERSIONS := PySem.W.mg_of X G e_MAX_CONVERSIONS,
    t_MAX_CANDIDATES := t_MAX_CANDIDATES, m_MAX_CANDIDATES := PySem.W.mg_of X G e_MAX_CANDIDATES,
    t_MAX_PATTERNS := t_MAX_PATTERNS, m_MAX_PATTERNS := PySem.W.mg_of X G e_MAX_PATTERNS,
    t_MAX_NAMES := t_MAX_NAMES, m_MAX_NAMES := PySem.W.mg_of X G e_MAX_NAMES,
    t_MAX_LEFT := t_MAX_LEFT, m_MAX_LEFT := PySem.W.mg_of X G e_MAX_LEFT,
    t_MAX_FRONT := t_MAX_FRONT, m_MAX_FRONT := PySem.W.mg_of X G e_MAX_FRONT,
    t_MAX_LINES := t_MAX_LINES, m_MAX_LINES := PySem.W.mg_of X G e_MAX_LINES,
    t_MAX_ARGUMENTS_reached := t_MAX_ARGUMENTS_reached, m_MAX_ARGUMENTS_reached := PySem.W.mg_of X G e_MAX_ARGUMENTS_reached,
    t_VALUE := t_VALUE, m_VALUE := PySem.W.mg_of X G e_VALUE,
    t_CALL := t_CALL, m_CALL := PySem.W.mg_of X G e_CALL,
    t_MAX_ARGUMENTS_texts := t_MAX_ARGUMENTS_texts, m_MAX_ARGUMENTS_texts := PySem.W.mg_of X G e_MAX_ARGUMENTS_texts,
    n_abs := PySem.W.mg_none_of X G z_abs,
    n_all := PySem.W.mg_none_of X G z_all,
    n_any := PySem.W.mg_none_of X G z_any,
    n_bool := PySem.W.mg_none_of X G z_bool,
    n_classmethod := PySem.W.mg_none_of X G z_classmethod,
    n_dict := PySem.W.mg_none_of X G z_dict,
    n_enumerate := PySem.W.mg_none_of X G z_enumerate,
    n_int := PySem.W.mg_none_of X G z_int,
    n_isinstance := PySem.W.mg_none_of X G z_isinstance,
    n_len := PySem.W.mg_none_of X G z_len,
    n_list := PySem.W.mg_none_of X G z_list,
    n_max := PySem.W.mg_none_of X G z_max,
    n_min := PySem.W.mg_none_of X G z_min,
    n_one := PySem.W.mg_none_of X G z_one,
    n_range := PySem.W.mg_none_of X G z_range,
    n_repr := PySem.W.mg_none_of X G z_repr,
    n_sorted := PySem.W.mg_none_of X G z_sorted,
    n_str := PySem.W.mg_none_of X G z_str,
    n_tuple := PySem.W.mg_none_of X G z_tuple,
    n_zip := PySem.W.mg_none_of X G z_zip,
    c__law_right := cc44, P__law_right := PP44, k__law_right := cd44_,
    c_law := cc45, P_law := PP45, k_law := cd45_,
    c_Library___init__ := cc48, P_Library___init__ := PP48, k_Library___init__ := cd48_,
    pn__law_right_law := rn44_45,
    pn__law_right_Library___init__ := rn44_48,
    pn_law_Library___init__ := rn45_48,
    C_InvalidWord := C_InvalidWord, m_InvalidWord := PySem.W.mg_of X G e_InvalidWord,
    C_InvalidLibrary := C_InvalidLibrary, m_InvalidLibrary := PySem.W.mg_of X G e_InvalidLibrary,
    C_InvalidCall := C_InvalidCall, m_InvalidCall := PySem.W.mg_of X G e_InvalidCall,
    C_InvalidProgram := C_InvalidProgram, m_InvalidProgram := PySem.W.mg_of X G e_InvalidProgram,
    C_ParseError := C_ParseError, m_ParseError := PySem.W.mg_of X G e_ParseError,
    C_Candidate := C_Candidate, m_Candidate := PySem.W.mg_of X G e_Candidate,
    C_Library := C_Library, m_Library := PySem.W.mg_of X G e_Library,
    x_InvalidWord := ⟨PySem.W.mg_of X G e_InvalidWord, ex_InvalidWord, kp_InvalidWord, sb_InvalidWord, ty_InvalidWord, ⟨hg_InvalidWord, hk_InvalidWord, sb_InvalidWord, hd_InvalidWord, ha_InvalidWord, hn_InvalidWord, ht_InvalidWord, hm_InvalidWord⟩⟩,
    x_InvalidLibrary := ⟨PySem.W.mg_of X G e_InvalidLibrary, ex_InvalidLibrary, kp_InvalidLibrary, sb_InvalidLibrary, ty_InvalidLibrary, ⟨hg_InvalidLibrary, hk_InvalidLibrary, sb_InvalidLibrary, hd_InvalidLibrary, ha_InvalidLibrary, hn_InvalidLibrary, ht_InvalidLibrary, hm_InvalidLibrary⟩⟩,
    x_InvalidCall := ⟨PySem.W.mg_of X G e_InvalidCall, ex_InvalidCall, kp_InvalidCall, sb_InvalidCall, ty_InvalidCall, ⟨hg_InvalidCall, hk_InvalidCall, sb_InvalidCall, hd_InvalidCall, ha_InvalidCall, hn_InvalidCall, ht_InvalidCall, hm_InvalidCall⟩⟩,
    x_InvalidProgram := ⟨PySem.W.mg_of X G e_InvalidProgram, ex_InvalidProgram, kp_InvalidProgram, sb_InvalidProgram, ty_InvalidProgram, ⟨hg_InvalidProgram, hk_InvalidProgram, sb_InvalidProgram, hd_InvalidProgram, ha_InvalidProgram, hn_InvalidProgram, ht_InvalidProgram, hm_InvalidProgram⟩⟩,
    fI_ParseError := fI_ParseError, p_ParseError := { gC := PySem.W.mg_of X G e_ParseError, cls := ⟨_, _, _, _, _, _, _, _, _, _, _, _, _, _, _, ycl_ParseError, yve_ParseError⟩, sa := ysa_ParseError, ga := yga_ParseError, gg := ygg_ParseError, noN := yno_ParseError, iC := yic_ParseError, tC := ytc_ParseError, kC := ykc_ParseError, exC := yex_ParseError, veC := yvc_ParseError, tyC := yty_ParseError, hdC := yhd_ParseError, sup := ysu_ParseError, op := yop_ParseError, msub := yms_ParseError, nsup := PySem.W.mg_none_of X G yns_ParseError, top := yto_ParseError, fn := ⟨_, _, _, _, _, _, _, _, ⟨⟨19, 17, 19, 21⟩, ⟨19, 23, 19, 27⟩, ⟨20, 8, 20, 13⟩, ⟨20, 8, 20, 15⟩, ⟨20, 8, 20, 24⟩, ⟨20, 27, 20, 32⟩, ⟨20, 33, 20, 37⟩, ⟨20, 32, 20, 38⟩, ⟨20, 38, 20, 53⟩, ⟨20, 25, 20, 54⟩, ⟨20, 8, 20, 55⟩, ⟨20, 8, 20, 55⟩, ⟨21, 8, 21, 12⟩, ⟨21, 8, 21, 17⟩, ⟨21, 20, 21, 24⟩, ⟨21, 8, 21, 24⟩⟩, _, _, _, _, _, _, _, _, _, _, yfn_ParseError, yci_ParseError, yce_ParseError, yco_ParseError, yvs_ParseError, yfi_ParseError, rfl⟩ },
    exm_InvalidWord_InvalidWord := PySem.W.exm_ref zb_InvalidWord zd_InvalidWord zt_InvalidWord su_InvalidWord_InvalidWord,
    exm_InvalidLibrary_InvalidWord := PySem.W.exm_ref zb_InvalidWord zd_InvalidWord zt_InvalidWord su_InvalidLibrary_InvalidWord,
    exm_InvalidLibrary_InvalidLibrary := PySem.W.exm_ref zb_InvalidLibrary zd_InvalidLibrary zt_InvalidLibrary su_InvalidLibrary_InvalidLibrary,
    exm_InvalidCall_InvalidWord := PySem.W.exm_ref zb_InvalidWord zd_InvalidWord zt_InvalidWord su_InvalidCall_InvalidWord,
    exm_InvalidCall_InvalidLibrary := PySem.W.exm_ref zb_InvalidLibrary zd_InvalidLibrary zt_InvalidLibrary su_InvalidCall_InvalidLibrary,
    exm_InvalidCall_InvalidCall := PySem.W.exm_ref zb_InvalidCall zd_InvalidCall zt_InvalidCall su_InvalidCall_InvalidCall,
    exm_InvalidProgram_InvalidWord := PySem.W.exm_ref zb_InvalidWord zd_InvalidWord zt_InvalidWord su_InvalidProgram_InvalidWord,
    exm_InvalidProgram_InvalidLibrary := PySem.W.exm_ref zb_InvalidLibrary zd_InvalidLibrary zt_InvalidLibrary su_InvalidProgram_InvalidLibrary,
    exm_InvalidProgram_InvalidCall := PySem.W.exm_ref zb_InvalidCall zd_InvalidCall zt_InvalidCall su_InvalidProgram_InvalidCall,
    exm_InvalidProgram_InvalidProgram := PySem.W.exm_ref zb_InvalidProgram zd_InvalidProgram zt_InvalidProgram su_InvalidProgram_InvalidProgram,
    kit_Candidate_Library := kit_sub rq_Candidate_Library zt_Library su_Candidate_Library ic_Library }
  have t44 := tab_at X (PySem.W.mg_of X G a44) l44 cd44_ lc44 pv44 (tab "_law_right" rc44)
  have t45 := tab_at X (PySem.W.mg_of X G a45) l45 cd45_ lc45 pv45 (tab "law" rc45)
  have t48 : h.get? PP48 = some { cls := .none, data := .fields #[] } ∧ PySem.W.CodeHd h cc48 PP48 := ⟨ht48, PySem.W.codeHd_of_K X hc48⟩
  refine ⟨T.d_law, [(cc48, PP48), (cc44, PP44), (cc45, PP45)], ?_, ?_, ?_, fun s v => .of_eq rfl, fun base _ _ TB => ok_law T (TB (cc48, PP48) (by simp)) (TB (cc44, PP44) (by simp)) (TB (cc45, PP45) (by simp))⟩
  · intro p hp
    simp only [List.mem_cons, List.not_mem_nil, or_false] at hp
    rcases hp with rfl | rfl | rfl
    · exact t48.1
    · exact t44.1
    · exact t45.1
  · intro p hp
    simp only [List.mem_cons, List.not_mem_nil, or_false] at hp
    rcases hp with rfl | rfl | rfl
    · exact np48
    · exact np44
    · exact np45
  · intro p hp
    simp only [List.mem_cons, List.not_mem_nil, or_false] at hp
    rcases hp with rfl | rfl | rfl
    · exact t48.2
    · exact t44.2
    · exact t45.2
end K84
open PySem PySem.W PyProof.Rows
set_option maxHeartbeats 0 in
theorem PySem.Challenge.cw_laterivals_k84_errors_of_texts_holds : PySem.Challenge.rw_laterivals_k84_errors_of_texts.Holds := by
  w_on; o_law; k_head; (case hw => w_witness2)
  k_fill
  refine Lv.walkGY (l := PySem.Challenge.rw_laterivals_k84_errors_of_texts) (n := 63) (k := 14) (x := "_law_script") (sp := K84.spLaw) rfl (by decide) rfl ⟨rfl, by decide, by decide⟩ (fun w h Y => PySem.W.km_in_of Y) ?F K84.law_sp
  case F =>
    intro w mg fa h KX Y G hmg tab
    refine' K84.all_mk KX G tab hmg ?qpg_Candidate ?qhd_Candidate ?qpo_Candidate ?qsa_Candidate ?kp_Candidate ?qha_Candidate ?qob_Candidate ?qne_Candidate ?qzs_Candidate ?qzt_Candidate ?qzn_Candidate ?qzi_Candidate ?qzc_Candidate ?qzl_Candidate ?qzd_Candidate ?qzb_Candidate ?qzu_Candidate ?qhn_Candidate ?qht_Candidate ?qn_Candidate_own_name ?qn_Candidate_own_patterns ?qn_Candidate_own_result ?qn_Candidate_own_key ?qpg_Library ?qhd_Library ?qpo_Library ?qsa_Library ?kp_Library ?qha_Library ?qob_Library ?qne_Library ?qzs_Library ?qzt_Library ?qzn_Library ?qzi_Library ?qzc_Library ?qzl_Library ?qzd_Library ?qzb_Library ?qzu_Library ?qhn_Library ?qht_Library ?qn_Library_own_marks ?qn_Library_own_bases ?qn_Library_own_conversions ?qn_Library_own_candidates ?qn_Library_own_tables ?a0 ?l0 ?c0 ?k0 ?a1 ?l1 ?c1 ?k1 ?a2 ?l2 ?c2 ?k2 ?a3 ?l3 ?c3 ?k3 ?a4 ?l4 ?c4 ?k4 ?a5 ?l5 ?c5 ?k5 ?a6 ?l6 ?c6 ?k6 ?a7 ?l7 ?c7 ?k7 ?a8 ?l8 ?c8 ?k8 ?a9 ?l9 ?c9 ?k9 ?a10 ?l10 ?c10 ?k10 ?a11 ?l11 ?c11 ?k11 ?a12 ?l12 ?c12 ?k12 ?a13 ?l13 ?c13 ?k13 ?a14 ?l14 ?c14 ?k14 ?a15 ?l15 ?c15 ?k15 ?a16 ?l16 ?c16 ?k16 ?a17 ?l17 ?c17 ?k17 ?a18 ?l18 ?c18 ?k18 ?a19 ?l19 ?c19 ?k19 ?a20 ?l20 ?c20 ?k20 ?a21 ?l21 ?c21 ?k21 ?a22 ?l22 ?c22 ?k22 ?a23 ?l23 ?c23 ?k23 ?a24 ?l24 ?c24 ?k24 ?a25 ?l25 ?c25 ?k25 ?a26 ?l26 ?c26 ?k26 ?a27 ?l27 ?c27 ?k27 ?a28 ?l28 ?c28 ?k28 ?a29 ?l29 ?c29 ?k29 ?a30 ?l30 ?c30 ?k30 ?a31 ?l31 ?c31 ?k31 ?a32 ?l32 ?c32 ?k32 ?a33 ?l33 ?c33 ?k33 ?a34 ?l34 ?c34 ?k34 ?a35 ?l35 ?c35 ?k35 ?a36 ?l36 ?c36 ?k36 ?a37 ?l37 ?c37 ?k37 ?a38 ?l38 ?c38 ?k38 ?a39 ?l39 ?c39 ?k39 ?a40 ?l40 ?c40 ?k40 ?a41 ?l41 ?c41 ?k41 ?a42 ?l42 ?c42 ?k42 ?a43 ?l43 ?c43 ?k43 ?a44 ?l44 ?c44 ?k44 ?a45 ?l45 ?c45 ?k45 ?a46 ?rf46 ?rm46 ?l46 ?c46 ?k46 ?rg47 ?rr47 ?a47 ?ra47 ?rf47 ?l47 ?c47 ?k47 ?a48 ?rf48 ?rm48 ?l48 ?c48 ?k48 ?ek48_conversions ?el48_conversions ?ek48_candidates ?el48_candidates ?e_MAX_DEPTH ?e_MAX_RANK ?e_MAX_LETTERS ?e_KEYWORDS ?w_KEYWORDS ?e_MAX_MARKS ?e_MAX_BASES ?e_MAX_CONVERSIONS ?e_MAX_CANDIDATES ?e_MAX_PATTERNS ?e_MAX_NAMES ?e_MAX_LEFT ?e_MAX_FRONT ?e_MAX_LINES ?e_MAX_ARGUMENTS_reached ?e_VALUE ?e_CALL ?e_MAX_ARGUMENTS_texts ?z_abs ?z_all ?z_any ?z_bool ?z_classmethod ?z_dict ?z_enumerate ?z_int ?z_isinstance ?z_len ?z_list ?z_max ?z_min ?z_one ?z_range ?z_repr ?z_sorted ?z_str ?z_tuple ?z_zip ?cd44_ ?lc44 ?pv44 ?np44 ?rc44 ?cd45_ ?lc45 ?pv45 ?np45 ?rc45 ?cd48_ ?lc48 ?pv48 ?np48 ?hc48 ?ht48 ?rn44_45 ?rn44_48 ?rn45_48 ?e_InvalidWord ?e_InvalidLibrary ?e_InvalidCall ?e_InvalidProgram ?e_ParseError ?e_Candidate ?e_Library ?ex_InvalidWord ?kp_InvalidWord ?sb_InvalidWord ?ty_InvalidWord ?hg_InvalidWord ?hk_InvalidWord ?hd_InvalidWord ?ha_InvalidWord ?hn_InvalidWord ?ht_InvalidWord ?hm_InvalidWord ?ex_InvalidLibrary ?kp_InvalidLibrary ?sb_InvalidLibrary ?ty_InvalidLibrary ?hg_InvalidLibrary ?hk_InvalidLibrary ?hd_InvalidLibrary ?ha_InvalidLibrary ?hn_InvalidLibrary ?ht_InvalidLibrary ?hm_InvalidLibrary ?ex_InvalidCall ?kp_InvalidCall ?sb_InvalidCall ?ty_InvalidCall ?hg_InvalidCall ?hk_InvalidCall ?hd_InvalidCall ?ha_InvalidCall ?hn_InvalidCall ?ht_InvalidCall ?hm_InvalidCall ?ex_InvalidProgram ?kp_InvalidProgram ?sb_InvalidProgram ?ty_InvalidProgram ?hg_InvalidProgram ?hk_InvalidProgram ?hd_InvalidProgram ?ha_InvalidProgram ?hn_InvalidProgram ?ht_InvalidProgram ?hm_InvalidProgram ?ycl_ParseError ?yve_ParseError ?ysa_ParseError ?yga_ParseError ?ygg_ParseError ?yno_ParseError ?yic_ParseError ?ytc_ParseError ?ykc_ParseError ?yex_ParseError ?yvc_ParseError ?yty_ParseError ?yhd_ParseError ?ysu_ParseError ?yop_ParseError ?yms_ParseError ?yns_ParseError ?yto_ParseError ?yfn_ParseError ?yci_ParseError ?yce_ParseError ?yco_ParseError ?yvs_ParseError ?yfi_ParseError ?zt_InvalidWord ?su_InvalidWord_InvalidWord ?zb_InvalidWord ?zd_InvalidWord ?su_InvalidLibrary_InvalidWord ?zt_InvalidLibrary ?su_InvalidLibrary_InvalidLibrary ?zb_InvalidLibrary ?zd_InvalidLibrary ?su_InvalidCall_InvalidWord ?su_InvalidCall_InvalidLibrary ?zt_InvalidCall ?su_InvalidCall_InvalidCall ?zb_InvalidCall ?zd_InvalidCall ?su_InvalidProgram_InvalidWord ?su_InvalidProgram_InvalidLibrary ?su_InvalidProgram_InvalidCall ?zt_InvalidProgram ?su_InvalidProgram_InvalidProgram ?zb_InvalidProgram ?zd_InvalidProgram ?zt_Library ?su_Candidate_Library ?ic_Library ?rq_Candidate_Library
    (case e_MAX_DEPTH => k_is)
    (case e_MAX_RANK => k_is)
    (case e_MAX_LETTERS => k_is)
    (case e_KEYWORDS => k_is)
    (case e_MAX_MARKS => k_is)
    (case e_MAX_BASES => k_is)
    (case e_MAX_CONVERSIONS => k_is)
    (case e_MAX_CANDIDATES => k_is)
    (case e_MAX_PATTERNS => k_is)
    (case e_MAX_NAMES => k_is)
    (case e_MAX_LEFT => k_is)
    (case e_MAX_FRONT => k_is)
    (case e_MAX_LINES => k_is)
    (case e_MAX_ARGUMENTS_reached => k_is)
    (case e_VALUE => k_is)
    (case e_CALL => k_is)
    (case e_MAX_ARGUMENTS_texts => k_is)
    (case e_InvalidWord => k_is)
    (case e_InvalidLibrary => k_is)
    (case e_InvalidCall => k_is)
    (case e_InvalidProgram => k_is)
    (case e_ParseError => k_is)
    (case e_Candidate => k_is)
    (case e_Library => k_is)
    (case qpg_Candidate => k_is)
    (case qhd_Candidate => k_is)
    (case qpo_Candidate => k_is)
    (case qsa_Candidate => k_is)
    (case kp_Candidate => k_is)
    (case qha_Candidate => k_is)
    (case qob_Candidate => k_is)
    (case qne_Candidate => k_is)
    (case qzs_Candidate => kernel_rfl)
    (case qzt_Candidate => kernel_rfl)
    (case qzn_Candidate => kernel_rfl)
    (case qzi_Candidate => kernel_rfl)
    (case qzc_Candidate => kernel_rfl)
    (case qzl_Candidate => kernel_rfl)
    (case qzd_Candidate => kernel_rfl)
    (case qzb_Candidate => kernel_rfl)
    (case qzu_Candidate => kernel_rfl)
    (case qhn_Candidate => k_is)
    (case qht_Candidate => k_is)
    (case qn_Candidate_own_name => k_is)
    (case qn_Candidate_own_patterns => k_is)
    (case qn_Candidate_own_result => k_is)
    (case qn_Candidate_own_key => k_is)
    (case qpg_Library => k_is)
    (case qhd_Library => k_is)
    (case qpo_Library => k_is)
    (case qsa_Library => k_is)
    (case kp_Library => k_is)
    (case qha_Library => k_is)
    (case qob_Library => k_is)
    (case qne_Library => k_is)
    (case qzs_Library => kernel_rfl)
    (case qzt_Library => kernel_rfl)
    (case qzn_Library => kernel_rfl)
    (case qzi_Library => kernel_rfl)
    (case qzc_Library => kernel_rfl)
    (case qzl_Library => kernel_rfl)
    (case qzd_Library => kernel_rfl)
    (case qzb_Library => kernel_rfl)
    (case qzu_Library => kernel_rfl)
    (case qhn_Library => k_is)
    (case qht_Library => k_is)
    (case qn_Library_own_marks => k_is)
    (case qn_Library_own_bases => k_is)
    (case qn_Library_own_conversions => k_is)
    (case qn_Library_own_candidates => k_is)
    (case qn_Library_own_tables => k_is)
    (case a0 => k_is)
    (case l0 => k_is)
    (case c0 => k_is)
    (case k0 => k_is)
    (case a1 => k_is)
    (case l1 => k_is)
    (case c1 => k_is)
    (case k1 => k_is)
    (case a2 => k_is)
    (case l2 => k_is)
    (case c2 => k_is)
    (case k2 => k_is)
    (case a3 => k_is)
    (case l3 => k_is)
    (case c3 => k_is)
    (case k3 => k_is)
    (case a4 => k_is)
    (case l4 => k_is)
    (case c4 => k_is)
    (case k4 => k_is)
    (case a5 => k_is)
    (case l5 => k_is)
    (case c5 => k_is)
    (case k5 => k_is)
    (case a6 => k_is)
    (case l6 => k_is)
    (case c6 => k_is)
    (case k6 => k_is)
    (case a7 => k_is)
    (case l7 => k_is)
    (case c7 => k_is)
    (case k7 => k_is)
    (case a8 => k_is)
    (case l8 => k_is)
    (case c8 => k_is)
    (case k8 => k_is)
    (case a9 => k_is)
    (case l9 => k_is)
    (case c9 => k_is)
    (case k9 => k_is)
    (case a10 => k_is)
    (case l10 => k_is)
    (case c10 => k_is)
    (case k10 => k_is)
    (case a11 => k_is)
    (case l11 => k_is)
    (case c11 => k_is)
    (case k11 => k_is)
    (case a12 => k_is)
    (case l12 => k_is)
    (case c12 => k_is)
    (case k12 => k_is)
    (case a13 => k_is)
    (case l13 => k_is)
    (case c13 => k_is)
    (case k13 => k_is)
    (case a14 => k_is)
    (case l14 => k_is)
    (case c14 => k_is)
    (case k14 => k_is)
    (case a15 => k_is)
    (case l15 => k_is)
    (case c15 => k_is)
    (case k15 => k_is)
    (case a16 => k_is)
    (case l16 => k_is)
    (case c16 => k_is)
    (case k16 => k_is)
    (case a17 => k_is)
    (case l17 => k_is)
    (case c17 => k_is)
    (case k17 => k_is)
    (case a18 => k_is)
    (case l18 => k_is)
    (case c18 => k_is)
    (case k18 => k_is)
    (case a19 => k_is)
    (case l19 => k_is)
    (case c19 => k_is)
    (case k19 => k_is)
    (case a20 => k_is)
    (case l20 => k_is)
    (case c20 => k_is)
    (case k20 => k_is)
    (case a21 => k_is)
    (case l21 => k_is)
    (case c21 => k_is)
    (case k21 => k_is)
    (case a22 => k_is)
    (case l22 => k_is)
    (case c22 => k_is)
    (case k22 => k_is)
    (case a23 => k_is)
    (case l23 => k_is)
    (case c23 => k_is)
    (case k23 => k_is)
    (case a24 => k_is)
    (case l24 => k_is)
    (case c24 => k_is)
    (case k24 => k_is)
    (case a25 => k_is)
    (case l25 => k_is)
    (case c25 => k_is)
    (case k25 => k_is)
    (case a26 => k_is)
    (case l26 => k_is)
    (case c26 => k_is)
    (case k26 => k_is)
    (case a27 => k_is)
    (case l27 => k_is)
    (case c27 => k_is)
    (case k27 => k_is)
    (case a28 => k_is)
    (case l28 => k_is)
    (case c28 => k_is)
    (case k28 => k_is)
    (case a29 => k_is)
    (case l29 => k_is)
    (case c29 => k_is)
    (case k29 => k_is)
    (case a30 => k_is)
    (case l30 => k_is)
    (case c30 => k_is)
    (case k30 => k_is)
    (case a31 => k_is)
    (case l31 => k_is)
    (case c31 => k_is)
    (case k31 => k_is)
    (case a32 => k_is)
    (case l32 => k_is)
    (case c32 => k_is)
    (case k32 => k_is)
    (case a33 => k_is)
    (case l33 => k_is)
    (case c33 => k_is)
    (case k33 => k_is)
    (case a34 => k_is)
    (case l34 => k_is)
    (case c34 => k_is)
    (case k34 => k_is)
    (case a35 => k_is)
    (case l35 => k_is)
    (case c35 => k_is)
    (case k35 => k_is)
    (case a36 => k_is)
    (case l36 => k_is)
    (case c36 => k_is)
    (case k36 => k_is)
    (case a37 => k_is)
    (case l37 => k_is)
    (case c37 => k_is)
    (case k37 => k_is)
    (case a38 => k_is)
    (case l38 => k_is)
    (case c38 => k_is)
    (case k38 => k_is)
    (case a39 => k_is)
    (case l39 => k_is)
    (case c39 => k_is)
    (case k39 => k_is)
    (case a40 => k_is)
    (case l40 => k_is)
    (case c40 => k_is)
    (case k40 => k_is)
    (case a41 => k_is)
    (case l41 => k_is)
    (case c41 => k_is)
    (case k41 => k_is)
    (case a42 => k_is)
    (case l42 => k_is)
    (case c42 => k_is)
    (case k42 => k_is)
    (case a43 => k_is)
    (case l43 => k_is)
    (case c43 => k_is)
    (case k43 => k_is)
    (case a44 => k_is)
    (case l44 => k_is)
    (case c44 => k_is)
    (case k44 => k_is)
    (case a45 => k_is)
    (case l45 => k_is)
    (case c45 => k_is)
    (case k45 => k_is)
    (case a46 => k_is)
    (case rf46 => k_is)
    (case rm46 => k_is)
    (case l46 => k_is)
    (case c46 => k_is)
    (case k46 => k_is)
    (case rg47 => k_is)
    (case rr47 => k_is)
    (case a47 => k_is)
    (case ra47 => k_is)
    (case rf47 => k_is)
    (case l47 => k_is)
    (case c47 => k_is)
    (case k47 => k_is)
    (case a48 => k_is)
    (case rf48 => k_is)
    (case rm48 => k_is)
    (case l48 => k_is)
    (case c48 => k_is)
    (case k48 => k_is)
    (case ek48_conversions => k_is)
    (case el48_conversions => k_is)
    (case ek48_candidates => k_is)
    (case el48_candidates => k_is)
    (case w_KEYWORDS => k_is)
    (case z_abs => k_is)
    (case z_all => k_is)
    (case z_any => k_is)
    (case z_bool => k_is)
    (case z_classmethod => k_is)
    (case z_dict => k_is)
    (case z_enumerate => k_is)
    (case z_int => k_is)
    (case z_isinstance => k_is)
    (case z_len => k_is)
    (case z_list => k_is)
    (case z_max => k_is)
    (case z_min => k_is)
    (case z_one => k_is)
    (case z_range => k_is)
    (case z_repr => k_is)
    (case z_sorted => k_is)
    (case z_str => k_is)
    (case z_tuple => k_is)
    (case z_zip => k_is)
    (case cd44_ => rfl)
    (case lc44 => k_is)
    (case pv44 => rfl)
    (case np44 => first | k_is | rfl)
    (case rc44 => rfl)
    (case cd45_ => rfl)
    (case lc45 => k_is)
    (case pv45 => rfl)
    (case np45 => first | k_is | rfl)
    (case rc45 => rfl)
    (case cd48_ => rfl)
    (case lc48 => k_is)
    (case pv48 => rfl)
    (case np48 => first | k_is | rfl)
    (case hc48 => first | k_is | kernel_rfl)
    (case ht48 => exact PySem.W.km_tabs_of Y _ (by first | k_mem | decide))
    (case rn44_45 => decide)
    (case rn44_48 => decide)
    (case rn45_48 => decide)
    (case ex_InvalidWord => k_exc)
    (case kp_InvalidWord => k_is)
    (case sb_InvalidWord => k_is)
    (case ty_InvalidWord => k_is)
    (case hg_InvalidWord => k_is)
    (case hk_InvalidWord => k_is)
    (case hd_InvalidWord => k_is)
    (case ha_InvalidWord => k_is)
    (case hn_InvalidWord => k_is)
    (case ht_InvalidWord => k_is)
    (case hm_InvalidWord => k_is)
    (case ex_InvalidLibrary => k_exc)
    (case kp_InvalidLibrary => k_is)
    (case sb_InvalidLibrary => k_is)
    (case ty_InvalidLibrary => k_is)
    (case hg_InvalidLibrary => k_is)
    (case hk_InvalidLibrary => k_is)
    (case hd_InvalidLibrary => k_is)
    (case ha_InvalidLibrary => k_is)
    (case hn_InvalidLibrary => k_is)
    (case ht_InvalidLibrary => k_is)
    (case hm_InvalidLibrary => k_is)
    (case ex_InvalidCall => k_exc)
    (case kp_InvalidCall => k_is)
    (case sb_InvalidCall => k_is)
    (case ty_InvalidCall => k_is)
    (case hg_InvalidCall => k_is)
    (case hk_InvalidCall => k_is)
    (case hd_InvalidCall => k_is)
    (case ha_InvalidCall => k_is)
    (case hn_InvalidCall => k_is)
    (case ht_InvalidCall => k_is)
    (case hm_InvalidCall => k_is)
    (case ex_InvalidProgram => k_exc)
    (case kp_InvalidProgram => k_is)
    (case sb_InvalidProgram => k_is)
    (case ty_InvalidProgram => k_is)
    (case hg_InvalidProgram => k_is)
    (case hk_InvalidProgram => k_is)
    (case hd_InvalidProgram => k_is)
    (case ha_InvalidProgram => k_is)
    (case hn_InvalidProgram => k_is)
    (case ht_InvalidProgram => k_is)
    (case hm_InvalidProgram => k_is)
    (case ycl_ParseError => k_is)
    (case yve_ParseError => decide +kernel)
    (case ysa_ParseError => k_is)
    (case yga_ParseError => k_is)
    (case ygg_ParseError => k_is)
    (case yno_ParseError => k_is)
    (case yic_ParseError => k_is)
    (case ytc_ParseError => k_is)
    (case ykc_ParseError => k_is)
    (case yex_ParseError => k_is)
    (case yvc_ParseError => k_is)
    (case yty_ParseError => k_is)
    (case yhd_ParseError => k_is)
    (case ysu_ParseError => ks_is)
    (case yop_ParseError => k_is)
    (case yms_ParseError => k_is)
    (case yns_ParseError => k_is)
    (case yto_ParseError => decide +kernel)
    (case yfn_ParseError => k_is)
    (case yci_ParseError => k_is)
    (case yce_ParseError => k_is)
    (case yco_ParseError => k_is)
    (case yvs_ParseError => rfl)
    (case yfi_ParseError => rfl)
    (case zt_InvalidWord => k_is)
    (case su_InvalidWord_InvalidWord => k_is)
    (case zb_InvalidWord => k_is)
    (case zd_InvalidWord => k_is)
    (case su_InvalidLibrary_InvalidWord => k_is)
    (case zt_InvalidLibrary => k_is)
    (case su_InvalidLibrary_InvalidLibrary => k_is)
    (case zb_InvalidLibrary => k_is)
    (case zd_InvalidLibrary => k_is)
    (case su_InvalidCall_InvalidWord => k_is)
    (case su_InvalidCall_InvalidLibrary => k_is)
    (case zt_InvalidCall => k_is)
    (case su_InvalidCall_InvalidCall => k_is)
    (case zb_InvalidCall => k_is)
    (case zd_InvalidCall => k_is)
    (case su_InvalidProgram_InvalidWord => k_is)
    (case su_InvalidProgram_InvalidLibrary => k_is)
    (case su_InvalidProgram_InvalidCall => k_is)
    (case zt_InvalidProgram => k_is)
    (case su_InvalidProgram_InvalidProgram => k_is)
    (case zb_InvalidProgram => k_is)
    (case zd_InvalidProgram => k_is)
    (case zt_Library => k_is)
    (case su_Candidate_Library => k_is)
    (case ic_Library => k_is)
    (case rq_Candidate_Library => rfl)

