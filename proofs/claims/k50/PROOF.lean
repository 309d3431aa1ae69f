import PyProof.Rows.All
import HandS.ForMost
import HandS.HotCalls
import HandS.ForExc
import HandS.ExcInit
import HandS.WordsExc
import OpenK.KCls
import HandS.ExcValue
import PyProof.CollectIter
import KE.KDictKeyed
import HandS.Ends
import HandS.Defaults
import HandS.TupAny
import KE.KDictZip
import KE.GoesMore
import KE.GoesEnum
import KE.KItemsList
import KE.KDictPairs
import PyProof.TupleKey
import HandS.SortOrd
import KE.KSortTupAny
import HandS.List
import HandS.ExcCtx
import HandS.SuiteRaise
import HandS.Hot
import HandS.RaiseFrom
import HandS.ExcInitHot
import PyProof.NsDelKeeps
import KE.KTryMore
import HandS.CallSlots
import HandS.Deep
import HandS.Wide
import HandS.IsInst
import HandS.Codes
import HandS.Flow
import HandS.Style
import PyProof.StrOps2
import HandS.TryOnly
import HandS.Zip
import HandS.Rev
import HandS.Strs
import HandS.SetFor
import HandS.ExcField
import HandS.DictComp
import PyProof.ReprRoads
import PyProof.CallFns
import HandS.TupMul
import HandS.More
import HandS.FStr
import HandS.RaiseMore
import PyProof.InstNe
import HandS.WordsDict
import KE.KRevSl
import HandS.ExcIs
import KE.KExcIs
import KE.KIndexOf
import PyProof.DictUpdate
import HandS.Iter
import KE.DataEq
import PyProof.Rows.InDataRows
import KE.SortData
import HandS.Set
import PyProof.TupleOfSeq
import PyProof.TupleOfStr
import HandS.Dict
import PyProof.Rows.IntBool
import PyProof.CallStr
import HandS.RevTup
import HandS.ReplaceLit
import KE.KxWritten
import KE.KEqDict
import PyProof.NeKinds
import KE.KEqNest
import KE.KIntText
import KE.IntTextLaws
import PyProof.ReprLen
import PyProof.P3Eq
import PyProof.Rows.ReprOcc
import KE.RegKIsAll
import PySem.Challenge.RW_knockamid_k50_refusals_by_their_classes
set_option Elab.async false
set_option linter.all false
set_option maxRecDepth 100000
set_option maxHeartbeats 4000000
/-! own exceptions whose __init__ calls their own base's, then keeps one thing -/
namespace KW
open PySem L2
/-- what the own base class must say, so that Base.__init__ is ValueError's -/
structure KiC (K : PySem.W.Frag) (D : Addr) : Prop where
  ga : PySem.W.specialIn K (.ref D) "__getattribute__" = some (some (.builtin "type.__getattribute__"))
  rd : PySem.W.readsIn K D (.type "type") = true
  fi : PySem.W.findCls K (.ref D) (.type "type") "__init__" = some (.val (.builtin "ValueError.__init__"))
section
variable {X : Cx} {e : Expr} {es : List Expr} {ta : TA} {p1 p2 pos : Pos} {nm : Str} {D : Addr}
theorem pe_kinit {pl : Sem Bool} (hg : Gl X nm) (hm : X.mg nm = some (.ref D)) (S : KiC X.K D) (ha : PA X (e :: es) ta) (hdb : (nm == ("__debug__" : Str)) = false)
    (hc : eval (.Call (.Attribute (.Name nm p1) "__init__" p2) (e :: es) [] pos) X.env = (do
      let ov ← eval (.Name nm p1) X.env
      standAt p2.atName
      let (f, first) ← holding [ov] (getMethod ov "__init__" pl)
      callWith pos f first (backTo pos (starEach (e :: es) X.env)) (backToKw pos (keywordEach [] X.env))) := by rfl)
    (he : starEach (e :: es) X.env = (false, eval e X.env) :: starEach es X.env := by rfl) (hpl : (backTo pos (starEach es X.env)).any (·.1) = false := by rfl) :
    PE X (.Call (.Attribute (.Name nm p1) "__init__" p2) (e :: es) [] pos) (tVeI X.K ta) := by
  refine ⟨fun pins s σ H Q I h => ?_⟩
  refine PySem.W.methodCall_KW (ld_glob I hg hm ?_ hdb) hc
  refine PySem.W.method_cls I.kIn S.ga (PySem.W.cls_value I.kIn S.rd S.fi (by decide +kernel) ?_)
  show wpAny _ _ (callWith pos (Value.builtin "ValueError.__init__") [] (backTo pos (starEach (e :: es) X.env)) []) _ _ _
  refine PyProof.Rows.callWith_method1 (thn (ha.run pos pins _ σ H _ (I.tok _) h) fun us s1 ⟨vs, H1, I1, r1, a, C, ws, ev, hl, T, ea, q⟩ => ?_) he hpl
  subst ev
  cases r1 with
  | @cons _ u0 _ ur ra rw' =>
    obtain rfl : u0 = Value.ref a := ra
    have hlen : ur.length ≤ sizeLine := by
      rw [← Paired.length rw', sizeLine_eq]
      omega
    exact oinit_ok T I1 ea hlen fun s' J => ⟨.non, H1, J, rfl, q⟩
end
/-- an own exception's __init__: what it keeps -/
def spX (K : PySem.W.Frag) (f : Str) : Sp := fun vs H Q _ => ∃ (a C : Addr) (y : V), vs = [.ref a, y] ∧ OexC K C ∧ PySem.W.findIn K (.ref C) f = some none ∧ H a = some (exo a C none) ∧
  ∀ dx, H dx = none → dx ≠ a → Q .non (upd (upd H dx (exd dx [(f, y)])) a (exo a C (some dx)))
section
variable {prog : Program} {w : World} {K : PySem.W.Frag} {mg : Str → Option Value} {x qual p1 fl msg : Str} {st : Stmt} {f D : Addr} {fd : FuncData}
theorem ex_ok {q1 q2 q3 q5 q6 q7 q8 q9 q10 q11 : Pos} {q4 : Nat} (F : Fun K x qual st f fd) (S : FnScope ["self", p1] ["self", p1] (defScope st))
    (hb : defBody st = [.Expr (.Call (.Attribute (.Name "KnockError" q1) "__init__" q2) [.Name "self" q3, .Constant (.str msg) q4 q5] [] q6) q7, .Assign [.Attribute (.Name "self" q8) fl q9] (.Name p1 q10) q11])
    (hs : (defScope st).names.lookup ("KnockError" : Str) = some .globalImplicit) (hv : Vis (defScope st) "self") (hv1 : Vis (defScope st) p1) (hm : mg "KnockError" = some (.ref D)) (Kc : KiC K D)
    {pl : Env → Sem Bool} (hc : ∀ env : Env, eval (.Call (.Attribute (.Name "KnockError" q1) "__init__" q2) [.Name "self" q3, .Constant (.str msg) q4 q5] [] q6) env = (do
      let ov ← eval (.Name "KnockError" q1) env
      standAt q2.atName
      let (f, first) ← holding [ov] (getMethod ov "__init__" (pl env))
      callWith q6 f first (backTo q6 (starEach [.Name "self" q3, .Constant (.str msg) q4 q5] env)) (backToKw q6 (keywordEach [] env))))
    (hd1 : (p1 == ("__debug__" : Str)) = false) (hd2 : (p1 == ("__classdict__" : Str)) = false) (base : Heap) :
    FnOk prog w K mg base (L2.CX prog w) 1 f fd ["self", p1] (spX K fl) ∧ L2H.FnH prog w K mg base (L2.CX prog w) 1 f fd ["self", p1] (spX K fl) := by
  refine ⟨?_, ?_⟩
  · exact F.okX S (fun vs H Q E ⟨_, _, _, e, _⟩ => by rw [e]; rfl) fun cdv Ar outer s H vs Q E hr ⟨a, C, y, e, T, hno, hH, hQ⟩ => by
      subst e
      rw [hb]
      refine ⟨_, pss_cons (ps_expr (pe_kinit (X := cxOf (L2.CX prog w) prog w K mg base ["self", p1] qual (defScope st) f cdv Ar outer s H E) hs hm Kc (pa_cons (pe_var (i := 0) rfl hv) (pa_cons pe_str pa_nil)) (by decide) (hc _))) (pss_one (ps_ost (pe_var (i := 0) rfl hv) (pe_var (i := 1) rfl hv1 hd1 hd2))), ?_⟩
      refine ⟨_, rfl, a, C, [.str msg], rfl, by show 1 ≤ 1000; decide, T, hH, ?_⟩
      refine ⟨y, rfl, .ref a, rfl, a, C, rfl, T, hno, .inl ⟨hH, fun dx n1 n2 => hQ dx n1 n2⟩⟩
  · obtain ⟨oc, od, kV, doc, pm, an, cdv, ct, osl, rfl, lk, hcd⟩ := F.ex
    exact L2H.fn_ofH lk hcd S (fun vs H Q E ⟨_, _, _, e, _⟩ => by rw [e]; rfl) fun Ar outer s H vs Q E p0 hot hr ⟨a, C, y, e, T, hno, hH, hQ⟩ => by
      subst e
      rw [hb]
      refine ⟨_, pss_cons (ps_expr (pe_kinit (X := L2H.cxH (L2.CX prog w) prog w K mg base ["self", p1] qual (defScope st) f cdv Ar outer s H E p0) hs hm Kc (pa_cons (pe_var (i := 0) rfl hv) (pa_cons pe_str pa_nil)) (by decide) (hc _))) (pss_one (ps_ost (pe_var (i := 0) rfl hv) (pe_var (i := 1) rfl hv1 hd1 hd2))), ?_⟩
      refine ⟨_, rfl, a, C, [.str msg], rfl, by show 1 ≤ 1000; decide, T, hH, ?_⟩
      refine ⟨y, rfl, .ref a, rfl, a, C, rfl, T, hno, .inl ⟨hH, fun dx n1 n2 => hQ dx n1 n2⟩⟩
/-- one that keeps nothing -/
def spX0 (K : PySem.W.Frag) : Sp := fun vs H Q _ => ∃ a C : Addr, vs = [.ref a] ∧ OexC K C ∧ H a = some (exo a C none) ∧ Q .non H
theorem ex_ok0 {q1 q2 q3 q5 q6 q7 : Pos} {q4 : Nat} (F : Fun K x qual st f fd) (S : FnScope ["self"] ["self"] (defScope st))
    (hb : defBody st = [.Expr (.Call (.Attribute (.Name "KnockError" q1) "__init__" q2) [.Name "self" q3, .Constant (.str msg) q4 q5] [] q6) q7])
    (hs : (defScope st).names.lookup ("KnockError" : Str) = some .globalImplicit) (hv : Vis (defScope st) "self") (hm : mg "KnockError" = some (.ref D)) (Kc : KiC K D)
    {pl : Env → Sem Bool} (hc : ∀ env : Env, eval (.Call (.Attribute (.Name "KnockError" q1) "__init__" q2) [.Name "self" q3, .Constant (.str msg) q4 q5] [] q6) env = (do
      let ov ← eval (.Name "KnockError" q1) env
      standAt q2.atName
      let (f, first) ← holding [ov] (getMethod ov "__init__" (pl env))
      callWith q6 f first (backTo q6 (starEach [.Name "self" q3, .Constant (.str msg) q4 q5] env)) (backToKw q6 (keywordEach [] env)))) (base : Heap) :
    FnOk prog w K mg base (L2.CX prog w) 1 f fd ["self"] (spX0 K) :=
  F.okX S (fun vs H Q E ⟨_, _, e, _⟩ => by rw [e]; rfl) fun cdv Ar outer s H vs Q E hr ⟨a, C, e, T, hH, hQ⟩ => by
    subst e
    rw [hb]
    refine ⟨_, pss_cons (ps_expr (pe_kinit (X := cxOf (L2.CX prog w) prog w K mg base ["self"] qual (defScope st) f cdv Ar outer s H E) hs hm Kc (pa_cons (pe_var (i := 0) rfl hv) (pa_cons pe_str pa_nil)) (by decide) (hc _))) pss_nil, ?_⟩
    exact ⟨_, rfl, a, C, [.str msg], rfl, by show 1 ≤ 1000; decide, T, hH, hQ⟩
end
end KW

set_option Elab.async false
set_option linter.all false
set_option maxRecDepth 100000
set_option maxHeartbeats 4000000
/-! a, *b = a tuple -/
namespace KW
open PySem L2 PyProof.Rows
section
variable {prog : Program} {w : World} {A : Around} {E : Value → Shared → Prop} {s : Shared}
end
section
variable {P : Program} {w : World} {H : Hp} {h : Heap} {a : Addr} {o : HO}
end
section
variable {X : Cx} {e1 e2 : Expr} {k : Nat} {pos p : Pos} {t : TGs}
end
end KW

set_option Elab.async false
set_option linter.all false
set_option maxRecDepth 100000
set_option maxHeartbeats 4000000
/-! dicts whose keys are nested tuples -/
namespace KW
open PySem L2
mutual
/-- a value that is the key k -/
inductive NkV (K : PySem.W.Frag) (H : Hp) : NestedKey → V → Prop
  | non : NkV K H .none .non
  | bl (b : Bool) : NkV K H (.num (if b = true then 1 else 0)) (.bl b)
  | int (i : Int) : NkV K H (.num i) (.int i)
  | str (x : Str) : NkV K H (.text x) (.str x)
  | tup {a : Addr} {xs : List V} {ks : List NestedKey} : SqT K H a xs → NkVs K H ks xs → NkV K H (.tup ks) (.ref a)
inductive NkVs (K : PySem.W.Frag) (H : Hp) : List NestedKey → List V → Prop
  | nil : NkVs K H [] []
  | cons {k : NestedKey} {ks : List NestedKey} {v : V} {vs : List V} : NkV K H k v → NkVs K H ks vs → NkVs K H (k :: ks) (v :: vs)
end
section
variable {X : Cx} {pins : List (Addr × Obj)} {σ : St} {H : Hp} {s : Shared}
mutual
theorem NkV.is (I : Inv X pins σ H s) : ∀ (k : NestedKey) (v : V) (u : Value), NkV X.K H k v → RelV v u → NestedIs s.heap k u
  | .none, _, _, h, r => by cases h; cases r; exact .none
  | .num i, _, _, h, r => by
    cases h with
    | bl b => cases r; exact .bool rfl
    | int i => obtain ⟨t, rfl⟩ := r; exact .int i t
  | .text x, _, _, h, r => by cases h; obtain ⟨t, rfl⟩ := r; exact .text x t
  | .tup ks, _, _, h, r => by
    cases h with
    | tup hs ha =>
      cases r
      obtain ⟨its, rv, ⟨o, ho, hc, n, hd⟩, _⟩ := I.tuple hs
      exact .tup ho hc hd (by simpa using NkVs.is I ks _ its ha rv)
theorem NkVs.is (I : Inv X pins σ H s) : ∀ (ks : List NestedKey) (vs : List V) (us : List Value), NkVs X.K H ks vs → Vals vs us → NestedAll s.heap ks us
  | [], _, _, h, r => by cases h; cases r; exact .nil
  | k :: ks, _, _, h, r => by
    cases h with
    | cons h1 h2 =>
      cases r with
      | cons r1 r2 => exact .cons (NkV.is I k _ _ h1 r1) (NkVs.is I ks _ _ h2 r2)
end
end
/-- a dict of nested keys: each with where its tuple stands -/
def NkP (p : NestedKey × Addr × V) (q : NestedKey × Addr × Value) : Prop := p.1 = q.1 ∧ p.2.1 = q.2.1 ∧ RelV p.2.2 q.2.2
def dnH (P : Program) (w : World) (d : Addr) (xs : List (NestedKey × Addr × V)) : HO := .ext fun h => (d == sysModules) = false ∧ xs.length ≤ sizeLine ∧ ∃ ys : List (NestedKey × Addr × Value), Paired NkP xs ys ∧
  ∃ o es ep, h.get? d = some o ∧ o.ExactDict ∧ o.data = .dict es ep ∧ es.toList = ys.map (entryOfKey (nestedKind P w)) ∧ (ys.map (·.1)).Nodup
def getN (xs : List (NestedKey × Addr × V)) (k : NestedKey) : Option V := (xs.find? fun x => decide (x.1 = k)).map (·.2.2)
def putN (xs : List (NestedKey × Addr × V)) (k : NestedKey) (b : Addr) (v : V) : List (NestedKey × Addr × V) :=
  if (getN xs k).isSome then xs.map (fun x => if x.1 = k then (x.1, x.2.1, v) else x) else xs ++ [(k, b, v)]
theorem atKey_paired {k : NestedKey} : ∀ {xs : List (NestedKey × Addr × V)} {ys : List (NestedKey × Addr × Value)}, Paired NkP xs ys → RelO (getN xs k) ((atKey ys k).map (·.2))
  | _, _, .nil => True.intro
  | _, _, .cons (a := a) (b := b) r t => by
    have ih := atKey_paired (k := k) t
    unfold getN atKey at ih ⊢
    simp only [List.find?_cons, ← r.1]
    by_cases e : a.1 = k
    · simp only [e, decide_true, Option.map_some]; exact r.2.2
    · simp only [e, decide_false]; exact ih
theorem putN_paired {k : NestedKey} {b : Addr} {v : V} {u : Value} {xs : List (NestedKey × Addr × V)} {ys : List (NestedKey × Addr × Value)} (h : Paired NkP xs ys) (r : RelV v u) : Paired NkP (putN xs k b v) (storedH ys k b u) := by
  have q := (atKey_paired (k := k) h).isSome_eq
  rw [Option.isSome_map] at q
  unfold putN storedH
  rw [q]
  split
  · rename_i hs
    clear q hs
    induction h with
    | nil => exact .nil
    | @cons a c as cs r1 t ih =>
      refine .cons ?_ ih
      show NkP (if a.1 = k then (a.1, a.2.1, v) else a) (putAt k u c)
      unfold putAt
      rw [← r1.1]
      by_cases e : a.1 = k
      · rw [if_pos e, if_pos e]; exact ⟨rfl, r1.2.1, r⟩
      · rw [if_neg e, if_neg e]; exact r1
  · exact Paired.snoc h ⟨rfl, rfl, r⟩
section
variable {P : Program} {w : World} {H H' : Hp} {h h' : Heap} {a : Addr} {xs : List (NestedKey × Addr × V)}
theorem dn_rd (x : ObjOk P w H h a (dnH P w a xs)) : (a == sysModules) = false ∧ xs.length ≤ sizeLine ∧ ∃ ys : List (NestedKey × Addr × Value), Paired NkP xs ys ∧
    ∃ o es ep, h.get? a = some o ∧ o.ExactDict ∧ o.data = .dict es ep ∧ es.toList = ys.map (entryOfKey (nestedKind P w)) ∧ (ys.map (·.1)).Nodup := x.1
theorem dn_mk (h0 : (a == sysModules) = false) (hl : xs.length ≤ sizeLine) {ys : List (NestedKey × Addr × Value)} (hp : Paired NkP xs ys) {o : Obj} {es : Array DictEntry} {ep : Nat} (e1 : h.get? a = some o) (e2 : o.ExactDict) (e3 : o.data = .dict es ep)
    (e4 : es.toList = ys.map (entryOfKey (nestedKind P w))) (e5 : (ys.map (·.1)).Nodup) : ObjOk P w H h a (dnH P w a xs) :=
  ⟨⟨h0, hl, ys, hp, o, es, ep, e1, e2, e3, e4, e5⟩, ⟨o, e1⟩, fun h1 h2 ⟨z0, z1, zs, z2, q, fs, fp, f1, f2, f3, f4, f5⟩ k => ⟨z0, z1, zs, z2, q, fs, fp, k _ f1, f2, f3, f4, f5⟩⟩
/-- all keys stand -/
def NkAll (K : PySem.W.Frag) (H : Hp) (xs : List (NestedKey × Addr × V)) : Prop := ∀ x ∈ xs, NkV K H x.1 (.ref x.2.1) ∧ x.1.depth ≤ 8
theorem dn_dict {X : Cx} {pins : List (Addr × Obj)} {σ : St} {s : Shared} (I : Inv X pins σ H s) (e : H a = some (dnH X.prog X.w a xs)) (ka : NkAll X.K H xs) :
    (a == sysModules) = false ∧ xs.length ≤ sizeLine ∧ ∃ ys, Paired NkP xs ys ∧ s.heap.DictOfH (nestedKind X.prog X.w) a ys := by
  obtain ⟨h0, hl, ys, hp, o, es, ep, e1, e2, e3, e4, e5⟩ := dn_rd (I.hok a _ e)
  refine ⟨h0, hl, ys, hp, o, es, ep, e1, e2, e3, e4, fun y hy => ?_, e5⟩
  have : ∀ {xs : List (NestedKey × Addr × V)} {ys : List (NestedKey × Addr × Value)}, Paired NkP xs ys → NkAll X.K H xs → ∀ y ∈ ys, NestedIs s.heap y.1 (.ref y.2.1) ∧ y.1.depth ≤ 8 := by
    intro xs ys hp
    induction hp with
    | nil => intro _ y hy; cases hy
    | @cons p q ps qs r t ih =>
      intro ka y hy
      rcases List.mem_cons.mp hy with rfl | hy
      · obtain ⟨n1, n2⟩ := ka p (List.mem_cons_self ..)
        rw [r.1, r.2.1] at n1
        rw [r.1] at n2
        exact ⟨NkV.is I _ _ _ n1 rfl, n2⟩
      · exact ih (fun x hx => ka x (List.mem_cons_of_mem _ hx)) y hy
  exact this hp ka y hy
end
section
variable {X : Cx} {pos : Pos}
/-- d[y] = v -/
theorem n_setItem {pins : List (Addr × Obj)} {σ : St} {H : Hp} {s : Shared} {a b : Addr} {k : NestedKey} {xs : List (NestedKey × Addr × V)} {v : V} {r : Value} {Q : Unit → Shared → Prop} {E : Value → Shared → Prop} (hu : X.A.units + 9 < cLine) (I : Inv X pins σ H s)
    (e : H a = some (dnH X.prog X.w a xs)) (ka : NkAll X.K H xs) (kb : NkV X.K H k (.ref b)) (kd : k.depth ≤ 8) (hz : xs.length < sizeLine) (rv : RelV v r) (h : ∀ s', Inv X pins σ (upd H a (dnH X.prog X.w a (putN xs k b v))) s' → Q () s') :
    wpAny (model X.prog X.w) X.A (setItem (.ref a) (.ref b) r) Q E s := by
  obtain ⟨h0, hl, ys, hp, dd⟩ := dn_dict I e ka
  refine wpAny_setItem_heap (knd := nestedKind X.prog X.w) (hsz := by rw [← Paired.length hp]; exact hl) (show X.A.units + 1 + 8 < cLine by omega) ⟨NkV.is I _ _ _ kb rfl, kd⟩ dd fun h' dd' hs => h _ ?_
  obtain ⟨q, es, ep, hq, h2, h3, h4, _, h5⟩ := dd'
  refine d_write I (by rw [e]; exact True.intro) hs ⟨q, hq⟩ (dn_mk h0 ?_ (putN_paired hp rv) hq h2 h3 h4 h5)
  unfold putN
  split
  · rw [List.length_map]; exact hl
  · simp; omega
end
end KW

set_option Elab.async false
set_option linter.all false
set_option maxRecDepth 100000
set_option maxHeartbeats 4000000
/-! dicts, by values -/
namespace KW
open PySem L2
section
variable {X : Cx}
/-- d[k], d a dict of ints and texts -/
def rDkI : R2 := fun x y H Q => ∃ a kvs k v, x = .ref a ∧ y = kV k ∧ Rd H a (.dK kvs) ∧ valV kvs k = some v ∧ Q v H
theorem ix_dk (hu : X.A.units + 9 < cLine) : IxR X rDkI := by
  intro value slice pins s σ H x y v u Q I rx ry h hs
  obtain ⟨a, kvs, k, z, rfl, rfl, e, ev, q⟩ := h
  obtain rfl : v = Value.ref a := rx
  obtain ⟨h0, hd, vs, rel, dd⟩ := dk_rd I.hok e
  obtain ⟨r, hw, rr⟩ := RelO.some_of (v := z) (o := valueAt vs k) (by rw [← ev]; exact rel.val k)
  exact PyProof.Rows.subscriptTail_builtinR (x := r) dd.typeIs PySem.F.slot_dict_getitem.lookup (wpAny_getItem_of (kV_is ry) dd.mapOf hw ⟨rfl, z, H, I.tok _, rr, q⟩) hs
def rTdI (K : PySem.W.Frag) (P : Program) (w : World) : R2 := fun x y H Q => ∃ a b k xs v, x = .ref a ∧ y = .ref b ∧ H a = some (dnH P w a xs) ∧ NkAll K H xs ∧ NkV K H k (.ref b) ∧ k.depth ≤ 8 ∧ getN xs k = some v ∧ Q v H
theorem ix_td (hu : X.A.units + 9 < cLine) : IxR X (rTdI X.K X.prog X.w) := by
  intro value slice pins s σ H x y v u Q I rx ry h hs
  obtain ⟨a, b, k, xs, z, rfl, rfl, e, ka, kb, kd, ev, q⟩ := h
  obtain rfl : v = Value.ref a := rx
  obtain rfl : u = Value.ref b := ry
  obtain ⟨h0, hl, ys, hp, dd⟩ := dn_dict I e ka
  obtain ⟨r, hu', rr⟩ := RelO.some_of (v := z) (o := (atKey ys k).map (·.2)) (by rw [← ev]; exact atKey_paired hp)
  obtain ⟨p, hp1, hp2⟩ := Option.map_eq_some_iff.mp hu'
  exact PyProof.Rows.subscriptTail_builtinR (x := r) dd.typeIs PySem.F.slot_dict_getitem.lookup
    (wpAny_getItem_heap (knd := nestedKind X.prog X.w) (show X.A.units + 1 + 8 < cLine by omega) ⟨NkV.is I _ _ _ kb rfl, kd⟩ dd hp1 ⟨hp2, z, H, I.tok _, by rw [hp2]; exact rr, q⟩) hs
/-- d[k] = v -/
theorem pset_or {t u : TSet} (h : PSet X t) (h' : PSet X u) : PSet X (fun o i v H R => t o i v H R ∨ u o i v H R) := by
  intro pins s σ H o i v ov iv r Q I ro ri rv q
  rcases q with q | q
  · exact h pins s σ H o i v ov iv r Q I ro ri rv q
  · exact h' pins s σ H o i v ov iv r Q I ro ri rv q
def rDkS : TSet := fun o i v H R => ∃ a kvs k, o = .ref a ∧ i = kV k ∧ H a = some (.dK kvs) ∧ kvs.length < sizeLine ∧ R (upd H a (.dK (putK kvs k v)))
theorem set_dk (hu : X.A.units + 9 < cLine) : PSet X rDkS := by
  intro pins s σ H o i v ov iv u Q I ro ri rv h
  obtain ⟨a, kvs, k, rfl, rfl, e, hl, q⟩ := h
  obtain rfl : ov = Value.ref a := ro
  exact d_setItem (by omega) I (DPut.k e hl) ri rv fun s1 I1 => ⟨_, I1, q⟩
def rTdS (K : PySem.W.Frag) (P : Program) (w : World) : TSet := fun o i v H R => ∃ a b k xs, o = .ref a ∧ i = .ref b ∧ H a = some (dnH P w a xs) ∧ NkAll K H xs ∧ NkV K H k (.ref b) ∧ k.depth ≤ 8 ∧ xs.length < sizeLine ∧ R (upd H a (dnH P w a (putN xs k b v)))
theorem set_td (hu : X.A.units + 9 < cLine) : PSet X (rTdS X.K X.prog X.w) := by
  intro pins s σ H o i v ov iv u Q I ro ri rv h
  obtain ⟨a, b, k, xs, rfl, rfl, e, ka, kb, kd, hl, q⟩ := h
  obtain rfl : ov = Value.ref a := ro
  obtain rfl : iv = Value.ref b := ri
  exact n_setItem hu I e ka kb kd hl rv fun s1 I1 => ⟨_, I1, q⟩
end
end KW

set_option Elab.async false
set_option linter.all false
set_option maxRecDepth 100000
set_option maxHeartbeats 4000000
/-! defs run where nothing is being shown (repr asks that) -/
namespace KW
open PySem PySem.Spec PyProof.Rows L2
/-- the def's promise, where no repr is under way -/
structure FnG (P : Program) (w : World) (K : PySem.W.Frag) (mg : Str → Option Value) (base : Heap) (cx : CXT) (k : Nat) (f : Addr) (fd : FuncData) (ps : List Str) (sp : Sp) : Prop where
  len : ∀ vs H Q E, sp vs H Q E → vs.length = ps.length
  run : ∀ (B : Around) (out : List Env) (s : Shared) (H : Hp) (as : Args) (us : List Value) (vs : List V) (Q : VK) (E : XK), B.guards = some [] → Room k B → Env0 P w K mg base B out s H → BindsTo s fd as (ps.zip us) → Vals vs us → sp vs H Q E →
    codeAny (model P w) B (.call (.ref f) as) (CR cx out P w H s Q E) s
section
variable {P : Program} {w : World} {K : PySem.W.Frag} {mg : Str → Option Value} {base : Heap} {cx : CXT} {k j : Nat} {f : Addr} {fd : FuncData} {ps : List Str} {sp sp' : Sp}
theorem FnG.imp (F : FnG P w K mg base cx k f fd ps sp) (i : ∀ vs H Q E, sp' vs H Q E → sp vs H Q E) : FnG P w K mg base cx k f fd ps sp' :=
  ⟨fun vs H Q E q => F.len vs H Q E (i _ _ _ _ q), fun B out s H as us vs Q E g r e b v q => F.run B out s H as us vs Q E g r e b v (i _ _ _ _ q)⟩
/-- a def of the text, by its body -/
theorem fnG_of {nm qual : Str} {pars : Arguments} {body : List Stmt} {scope : Scope} {dV kV doc pm cdv ct oc : Value} {an od : Option Addr} {osl : Array (Option Value)} {N : List Str}
    (hl : K.lookup f = some ⟨oc, od, .func (PySem.W.fnOf nm qual pars body scope dV kV doc pm an cdv ct), osl⟩) (hc : PySem.W.codeIn K cdv qual = true) (S : FnScope N ps scope) (hn : ∀ vs H Q E, sp vs H Q E → vs.length = ps.length)
    (hb : ∀ (B : Around) (out : List Env) (s : Shared) (H : Hp) (vs : List V) (Q : VK) (E : XK), B.guards = some [] → Room k (B.deeper (envOfC qual scope s.heap.objs.size f cdv)) → sp vs H Q E →
      ∃ t, PSs (cxOf cx P w K mg base N qual scope f cdv B out s H E) body t ∧ t { nx := fun _ H' => Q .non H', rt := Q } (L2.start N vs) H) :
    FnG P w K mg base cx (k + 1) f (PySem.W.fnOf nm qual pars body scope dV kV doc pm an cdv ct) ps sp := by
  refine ⟨hn, fun B out s H as us vs Q E hg room env0 bt rel hsp => ?_⟩
  have kin : K.In s.heap := env0.mod.kin.keeps fun b o e => (env0.bs b o e).1
  have nolim : s.heap.NoLimit := env0.mod.nolimit.keeps fun b o e => (env0.bs b o e).1
  have kinds : ∀ y ∈ ps.zip us, scope.names.lookup y.1 = some .local ∨ (scope.names.lookup y.1 = some .cell ∧ ((cellsFrom (s.heap.objs.size + 1) scope.names []).lookup y.1).isSome = true) := by
    rintro ⟨n, v⟩ hy
    exact (S.par n (List.of_mem_zip hy).1).imp id fun q => ⟨q, PySem.W.cellsFrom_some _ _ _ (.inl q)⟩
  refine codeAny_call_function room.depth (kin _ _ hl) rfl S.co S.gen rfl (PySem.W.codeRec_of kin hc) (bt _ _ _ _ ?_)
  refine wpAny_newFunctionEnv_cells S.kind kinds fun env ee s1 nw => ?_
  subst ee
  refine ⟨nolim.keeps nw.toInCall.keep, codeAny_func ?_⟩
  obtain ⟨t, pt, tq⟩ := hb B out s H vs Q E hg (room.deeper _) hsp
  have J : Inv (cxOf cx P w K mg base N qual scope f cdv B out s H E) [] (L2.start N vs) H s1 := inv_start S room.hd env0 (hn _ _ _ _ hsp) rel nw
  have done : ∀ {τ : L2.St} {H2 : Hp} {v : V} {u : Value} {s2 : Shared}, Inv (cxOf cx P w K mg base N qual scope f cdv B out s H E) [] τ H2 s2 → RelV v u → Q v H2 → CE out P w H s Q u s2 :=
    fun {τ H2 v u s2} I2 rv q => ⟨v, H2, I2.os, I2.bare, I2.base, I2.hok, rv, q⟩
  refine wpAny_mono (pt.run [] s1 (L2.start N vs) H _ J tq) (fun fl s2 z => ?_) fun e s2 z => z
  cases fl with
  | next => obtain ⟨τ, H2, I2, q⟩ := z; exact done (v := V.non) (u := Value.none) I2 rfl q
  | ret u => obtain ⟨v, τ, H2, I2, rv, q⟩ := z; exact done I2 rv q
  | brk => obtain ⟨_, _, _, q⟩ := z; exact q.elim
  | cont => obtain ⟨_, _, _, q⟩ := z; exact q.elim
/-- a def of the text, with defaults or none -/
structure FunX (K : PySem.W.Frag) (x qual : Str) (st : Stmt) (f : Addr) (fd : FuncData) : Prop where
  ex : ∃ (oc : Value) (od : Option Addr) (dV kV doc pm : Value) (an : Option Addr) (cdv ct : Value) (osl : Array (Option Value)),
    fd = PySem.W.fnOf x qual (defArgs st) (defBody st) (defScope st) dV kV doc pm an cdv ct ∧ K.lookup f = some ⟨oc, od, .func fd, osl⟩ ∧ PySem.W.codeIn K cdv qual = true
  kp : PySem.W.keepIn K (.ref f) = true
theorem _root_.L2.Fun.x {x qual : Str} {st : Stmt} (F : Fun K x qual st f fd) : FunX K x qual st f fd := by
  obtain ⟨oc, od, kV, doc, pm, an, cdv, ct, osl, e, lk, hcd⟩ := F.ex
  exact ⟨⟨oc, od, .none, kV, doc, pm, an, cdv, ct, osl, e, lk, hcd⟩, F.kp⟩
theorem funG {x qual : Str} {st : Stmt} {N : List Str} (F : FunX K x qual st f fd) (S : FnScope N ps (defScope st)) (hn : ∀ vs H Q E, sp vs H Q E → vs.length = ps.length)
    (hb : ∀ (cdv : Value) (B : Around) (out : List Env) (s : Shared) (H : Hp) (vs : List V) (Q : VK) (E : XK), B.guards = some [] → Room k (B.deeper (envOfC qual (defScope st) s.heap.objs.size f cdv)) → sp vs H Q E →
      ∃ t, PSs (cxOf cx P w K mg base N qual (defScope st) f cdv B out s H E) (defBody st) t ∧ t { nx := fun _ H' => Q .non H', rt := Q } (L2.start N vs) H) : FnG P w K mg base cx (k + 1) f fd ps sp := by
  obtain ⟨oc, od, dV, kV, doc, pm, an, cdv, ct, osl, rfl, lk, hcd⟩ := F.ex
  exact fnG_of lk hcd S hn fun B out s H vs Q E hg hr hsp => hb cdv B out s H vs Q E hg hr hsp
end
section
variable {X : Cx} {cx : CXT} {k : Nat} {f : Addr} {fd : FuncData} {ps : List Str} {sp : Sp} {E : L2.St → XK}
theorem run_fnG {pins : List (Addr × Obj)} {σ : L2.St} {H : Hp} {s : Shared} {Q : VK} {us : List Value} {vs : List V} (F : FnG X.prog X.w X.K X.mg X.base cx k f fd ps sp) (hg : X.A.guards = some []) (hr : Room k X.A) (hb : Binds X.K fd ps []) (hx : PassesAt cx X σ (E σ))
    (I : Inv X pins σ H s) (rel : Vals vs us) (q : sp vs H Q (E σ)) : wpAny (model X.prog X.w) X.A (call (.ref f) us) (EP X pins σ Q) X.xe s := by
  have n : us.length = ps.length := rel.length ▸ F.len _ _ _ _ q
  have bt := hb s us I.kIn (by simpa using n)
  simp only [List.append_nil] at bt
  refine wpAny_call (codeAny_mono (F.run X.A X.stack s H ⟨us, []⟩ us vs Q (E σ) hg hr I.env0 bt rel q) fun res s2 z => ?_)
  match res, z with
  | .error e, z => exact hx pins H s e s2 I z
  | .ok (.ret u), z => exact I.after z
  | .ok .next, z => exact z.elim
  | .ok .brk, z => exact z.elim
  | .ok .cont, z => exact z.elim
end
/-! the law's call -/
theorem law_callG {P : Program} {w : World} {K : PySem.W.Frag} {mg mb : Str → Option Value} {cx : CXT} {k : Nat} {fa a : Addr} {fd : FuncData} {x : Str} {sp : Sp} {s1 : Shared} {vs : List Value} {ns : List Int}
    (kin : K.In s1.heap) (hm : s1.heap.Ns mainGlobals mg) (hbl : s1.heap.Ns builtinsNs mb) (hbb : ∀ x : Str, x ≠ "__name__" → mb x = bootBuiltins x) (nolim : s1.heap.NoLimit) (gens : s1.gens = #[])
    (hs : s1.heap.get? a = some { cls := .type "list", data := .seq vs.toArray }) (are : IntsAre vs ns) (len : ns.length ≤ sizeLine) (room : Room k callerA)
    (F : ∀ base : Heap, K.In base → base.Ns mainGlobals mg → FnG P w K mg base cx k fa fd [x] sp) (bind : ∀ (s : Shared) (u : Value), BindsTo s fd ⟨[u], []⟩ [(x, u)])
    (asks : ∀ U : Hp, Only U → SqL K U a (ns.map V.int) → sp [.ref a] U (fun v _ => v = .bl true) fun _ _ _ => False)
    (noexc : ∀ U e s', cx [] U s1 (fun _ _ _ => False) e s' → False) :
    codeAny (model P w) callerA (.call (.ref fa) ⟨[.ref a], []⟩) (fun r s' => r = .ok (.ret (.bool true)) ∧ OldK s1.heap s'.heap ∧ s'.os = s1.os ∧ AllBare s'.gens) s1 := by
  have rel := vals_ints are
  have main : ∀ U : Hp, Only U → SqL K U a (ns.map V.int) → HOk P w U s1.heap → (∀ b, U b ≠ none → b = a) → (U a ≠ none → K.lookup a = none) →
      codeAny (model P w) callerA (.call (.ref fa) ⟨[.ref a], []⟩) (fun r s' => r = .ok (.ret (.bool true)) ∧ OldK s1.heap s'.heap ∧ s'.os = s1.os ∧ AllBare s'.gens) s1 := fun U only sq ok just hid => by
    have stays : ∀ {b : Addr} {o : Obj}, s1.heap.get? b = some o → U b = none → (hidT s1.heap U).get? b = some o := fun e n => hidT_get e n
    have free : ∀ {b : Addr} {o : Obj} {es : Array DictEntry} {ep : Nat}, s1.heap.get? b = some o → o.data = .dict es ep → U b = none := fun {b o es ep} e d => by
      cases z : U b with
      | none => rfl
      | some u =>
        obtain rfl : b = a := just b (by rw [z]; exact Option.some_ne_none u)
        rw [hs] at e
        obtain rfl := Option.some.inj e
        cases d
    have nsp : ∀ {b : Addr} {m : Str → Option Value}, s1.heap.Ns b m → (hidT s1.heap U).Ns b m := fun {b m} ⟨o, es, ep, e, d, r⟩ => ⟨o, es, ep, stays e (free e d), d, r⟩
    have kh : K.In (hidT s1.heap U) := fun b o e => stays (kin b o e) <| by
      cases z : U b with
      | none => rfl
      | some u =>
        obtain rfl : b = a := just b (by rw [z]; exact Option.some_ne_none u)
        have := hid (by rw [z]; exact Option.some_ne_none u)
        rw [this] at e; cases e
    obtain ⟨mc, l1, l2⟩ := id nolim
    have en : Env0 P w K mg (hidT s1.heap U) callerA [] s1 U :=
      ⟨rfl, ⟨kh, nsp hm, ⟨mb, nsp hbl, hbb⟩, ⟨mc, nsp l1, l2⟩⟩, fun b o e => of_hidT e, Nat.le_of_eq (hidT_size _ _), trivial, fun b hb => absurd (show b ∈ ([] : List Addr) from hb) (List.not_mem_nil), ok, .of_eq gens⟩
    refine codeAny_mono ((F _ kh (nsp hm)).run callerA [] s1 U ⟨[.ref a], []⟩ [.ref a] [.ref a] _ _ rfl room en (bind s1 (.ref a)) (.cons rfl .nil) (asks U only sq)) fun res s2 z => ?_
    match res, z with
    | .error e, z => exact (noexc U e s2 z).elim
    | .ok .next, z => exact z.elim
    | .ok .brk, z => exact z.elim
    | .ok .cont, z => exact z.elim
    | .ok (.ret u), z =>
      obtain ⟨v, U2, os, bare, un, ok2, rv, q⟩ := z
      have q : v = .bl true := q
      subst q
      obtain rfl : u = Value.bool true := rv
      refine ⟨rfl, OldK.of_keep fun b o e => ?_, os, bare⟩
      rcases only b with n | ⟨ob, xs, n⟩
      · exact un.keep b o e n (fun m => nomatch (show b ∈ ([] : List Addr) from m)) (fun m => nomatch m)
      · have e1 := (ok b _ n).1
        rw [e] at e1
        obtain rfl := Option.some.inj e1
        exact (ok2 b _ (un.frzs b o _ n)).1
  cases hk : K.lookup a with
  | some o =>
    have e := kin a o hk
    rw [hs] at e
    obtain rfl := Option.some.inj e
    exact main (fun _ => none) (fun _ => .inl rfl) (.inr ⟨_, vs.toArray, _, hk, rfl, rfl, rfl, by rw [List.size_toArray, are.length]; exact len, by simpa using rel⟩) (fun b u z => nomatch z) (fun b z => absurd rfl z) fun z => absurd rfl z
  | none =>
    have at1 : ∀ b, b ≠ a → (fun b => if b = a then some (HO.frz { cls := .type "list", data := .seq vs.toArray } (.lst (ns.map V.int))) else none : Hp) b = none := fun b hb => if_neg hb
    have at2 : (fun b => if b = a then some (HO.frz { cls := .type "list", data := .seq vs.toArray } (.lst (ns.map V.int))) else none : Hp) a = some (HO.frz { cls := .type "list", data := .seq vs.toArray } (.lst (ns.map V.int))) := if_pos rfl
    refine main (fun b => if b = a then some (HO.frz { cls := .type "list", data := .seq vs.toArray } (.lst (ns.map V.int))) else none) (fun b => ?_) (.inl (.inr ⟨_, at2⟩)) (fun b u z => ?_) (fun b z => ?_) fun _ => hk
    · by_cases hb : b = a
      · subst hb; exact .inr ⟨_, _, at2⟩
      · exact .inl (at1 b hb)
    · by_cases hb : b = a
      · subst hb
        rw [at2] at z
        obtain rfl := Option.some.inj z
        exact ⟨hs, by rw [List.length_map]; exact len, vs, _, rel, hs⟩
      · rw [at1 b hb] at z; cases z
    · exact Classical.byContradiction fun hb => z (at1 b hb)
theorem walk_ofG {l : PySem.W.OpenLaw} {n k : Nat} {q : Program} {loose : List Str} {XP : (Str → Option Value) → Heap → Prop} {YP : World → Heap → Prop} {d : DefRec} {K : Params → PySem.W.Frag} {cx : World → (Str → Option Value) → CXT} {sp : World → Sp} {x : Str}
    (hn : l.most = some n) (hn2 : n ≤ sizeLine) (hdf : d.params.defaults = []) (room : Room k callerA) (hY : ∀ (w : World) (h : Heap), YP w h → (K w.params).In h)
    (F : ∀ (w : World) (mg : Str → Option Value) (fa : Addr) (h : Heap), (K w.params).In h → h.Ns mainGlobals mg → mg d.name = some (.ref fa) →
      ∃ fd : FuncData, (∀ (s : Shared) (u : Value), BindsTo s fd ⟨[u], []⟩ [(x, u)]) ∧ ∀ base : Heap, (K w.params).In base → base.Ns mainGlobals mg → FnG l.prog w (K w.params) mg base (cx w mg) k fa fd [x] (sp w))
    (asks : ∀ (w : World) (H : Hp) (a : Addr) (ns : List Int), ns.length ≤ n → Only H → SqL (K w.params) H a (ns.map V.int) → sp w [.ref a] H (fun v _ => v = .bl true) fun _ _ _ => False)
    (noexc : ∀ (w : World) (mg : Str → Option Value) (H : Hp) (s : Shared) (e : Value) (s' : Shared), cx w mg [] H s (fun _ _ _ => False) e s' → False) : PySem.W.WalkO q loose XP YP l.row.toRowW d [] (fun f vs => PySem.call f vs) := by
  refine Att.attach_call hn hdf fun w s0 s1 mg mb fa o pm cd doc a vs ns G Y ho hd hcd hmg hobj hints hlen hg => ?_
  have kx := hY w _ Y
  obtain ⟨fd, hb, hF⟩ := F w mg fa _ kx G.T.g hmg
  exact law_callG kx G.T.g G.T.b G.T.builtins G.T.nolimit hg hobj hints (Nat.le_trans hlen hn2) room hF hb (fun U o1 o2 => asks w U a ns hlen o1 o2) fun U e s' => noexc w mg U s1 e s'
end KW

set_option Elab.async false
set_option linter.all false
set_option maxRecDepth 100000
set_option maxHeartbeats 4000000
/-! new tuples, told with their object: no dict stands at them -/
namespace KW
open PySem PySem.Spec PyProof.Rows L2
/-- a new tuple of these, at any address, its object known -/
def NT (H : Hp) (Q : VK) (vs : List V) : Prop := ∀ (p : Addr) (o : Obj), o.dict = none → H p = none → Q (.ref p) (upd H p (.frz o (.tup vs)))
section
variable {X : Cx} {pins : List (Addr × Obj)} {σ : L2.St} {H : Hp} {s : Shared} {Q : VK} {xs : List V} {us : List Value}
theorem laid_t (I : Inv X pins σ H s) (z : xs.length ≤ sizeLine) (r : Vals xs us) (q : NT H Q xs) : EP X pins σ Q (.ref s.heap.objs.size) { s with heap := s.heap.push { cls := .type "tuple", data := .seq us.toArray } } :=
  ⟨.ref s.heap.objs.size, _, I.laid (t' := s.toks) (o := .frz { cls := .type "tuple", data := .seq us.toArray } (.tup xs)) (fun b u e => Heap.get?_push_of_some _ e) (Nat.le_refl _) ⟨Heap.get?_push_size _ rfl, z, us, r, IsTup.new _ _⟩, rfl, q _ _ rfl (I.hok.fresh (Nat.le_refl _))⟩
def tTupN (t : TA) : TE := fun σ H Q => t σ H fun xs H1 => xs.length ≤ sizeLine ∧ NT H1 Q xs
theorem pe_tupN {es : List Expr} {t : TA} {pos : Pos} {x1} (h : PA X es t) : PE X (.Tuple es x1 pos) (tTupN t) :=
  ⟨fun pins s σ H Q I hq => wpAny_Tuple_spliced (thn (h.run pos pins s σ H _ I hq) fun us s1 ⟨xs, H1, I1, r, z, q⟩ => ⟨by rw [← r.length]; exact z, laid_t I1 z r q⟩)⟩
def rCatN (K : PySem.W.Frag) : R2 := fun x y H Q => ∃ a b xs ys, x = .ref a ∧ y = .ref b ∧ SqT K H a xs ∧ SqT K H b ys ∧ xs.length + ys.length ≤ sizeLine ∧
  (xs = [] → Q (.ref b) H) ∧ (xs ≠ [] → ys = [] → Q (.ref a) H) ∧ (xs ≠ [] → ys ≠ [] → NT H Q (xs ++ ys))
theorem op_catN : OpR X (binaryOp .Add) (rCatN X.K) := by
  rintro pins s σ H x y v u Q I rx ry ⟨a, b, xs, ys, rfl, rfl, ha, hb, hz, q0, q1, q2⟩
  cases rx
  cases ry
  obtain ⟨its, r1, p1, _⟩ := I.tuple ha
  obtain ⟨its2, r2, p2, _⟩ := I.tuple hb
  by_cases c : xs = []
  · subst c
    cases r1
    exact cat_tup0 p1 p2 ⟨.ref b, H, I, rfl, q0 rfl⟩
  · refine HT.cat_tup p1 p2 (fun e => c (r1.nil_iff.mp e)) (fun e => ⟨.ref a, H, I, rfl, q1 c (r2.nil_iff.mp e)⟩) (fun e => ?_) (by rw [← r1.length, ← r2.length]; exact hz)
    exact laid_t I (by rw [List.length_append]; exact hz) (r1.append r2) (q2 c fun w => e (r2.nil_iff.mpr w))
end
end KW

set_option Elab.async false
set_option linter.all false
set_option maxRecDepth 100000
set_option maxHeartbeats 4000000
/-! list(zip(a, b)) of lists and tuples, at the library's level -/
namespace KW.Z
open PySem PySem.Calls PyProof.Rows PySem.Spec
section
variable {prog : Program} {w : World} {A : Around} {E : Value → Shared → Prop} {s : Shared} {z TI TO i1 i2 T : Addr} {fp1 fp2 : List Addr} {n1 n2 i : Nat} {P1 P2 : Nat → Value → Prop} {St1 St2 : Nat → Heap → Prop} {f : Bool} {oT : Obj}
/-- where a zip stands, S apart -/
structure ZS (S z TI TO i1 i2 : Addr) (St1 St2 : Nat → Heap → Prop) (i : Nat) (h : Heap) : Prop where
  ti : IsTupOf2 h TI (.ref i1) (.ref i2)
  s1 : St1 i h
  s2 : St2 i h
  st : (IsZip h z TI TO .none ∧ ∃ a1 a2, IsTupOf2 h TO a1 a2) ∨ ∃ T f oT, IsZipHeld h z TI TO T f ∧ h.get? T = some oT ∧ T ≠ z ∧ T ≠ i1 ∧ T ≠ i2 ∧ T ≠ S
theorem ZS.ty {S : Addr} {h : Heap} (Z : ZS S z TI TO i1 i2 St1 St2 i h) : ∃ o, h.get? z = some o ∧ o.cls = .type "zip" := by
  rcases Z.st with ⟨hz, _⟩ | ⟨T, f, oT, hz, _⟩
  · exact ⟨_, hz, rfl⟩
  · exact ⟨_, hz, rfl⟩
theorem ZS.frame {S : Addr} {h h' : Heap} (D : ZipSep2 z TI TO i1 i2 fp1 fp2) (D1 : Draws prog w A i1 fp1 n1 P1 St1) (D2 : Draws prog w A i2 fp2 n2 P2 St2) (Z : ZS S z TI TO i1 i2 St1 St2 i h) (hS : S ≠ z ∧ S ≠ TI ∧ S ≠ TO ∧ S ∉ fp1 ∧ S ∉ fp2) (k : ∀ b o, b ≠ S → h.get? b = some o → h'.get? b = some o) : ZS S z TI TO i1 i2 St1 St2 i h' where
  ti := k _ _ hS.2.1.symm Z.ti
  s1 := D1.frame _ _ _ Z.s1 fun b hb o e => k b o (fun q => hS.2.2.2.1 (q ▸ hb)) e
  s2 := D2.frame _ _ _ Z.s2 fun b hb o e => k b o (fun q => hS.2.2.2.2 (q ▸ hb)) e
  st := by
    rcases Z.st with ⟨hz, a1, a2, ho⟩ | ⟨T, f, oT, hz, hT, t1, t2, t3, t4⟩
    · exact .inl ⟨k _ _ hS.1.symm hz, a1, a2, k _ _ hS.2.2.1.symm ho⟩
    · exact .inr ⟨T, f, oT, k _ _ hS.1.symm hz, k _ _ t4 hT, t1, t2, t3, t4⟩
end
end KW.Z

set_option Elab.async false
set_option linter.all false
set_option maxRecDepth 100000
set_option maxHeartbeats 4000000
/-! list(zip(a, b)): all of it gathered -/
namespace KW.Z
open PySem PySem.Calls PyProof.Rows PySem.Spec
/-- the pairs made so far, in order, above lo -/
structure ZG (P1 P2 : Nat → Value → Prop) (lo : Addr) (h : Heap) (as : List Addr) : Prop where
  rise : as.Pairwise (· < ·)
  above : ∀ a ∈ as, lo < a
  at_ : ∀ (j : Nat) (a : Addr), as[j]? = some a → ∃ x y, P1 j x ∧ P2 j y ∧ IsTupOf2 h a x y
section
variable {prog : Program} {w : World} {A : Around} {s : Shared} {R : Result → Shared → Prop} {z TI TO i1 i2 S : Addr} {fp1 fp2 : List Addr} {n1 n2 : Nat} {P1 P2 : Nat → Value → Prop} {St1 St2 : Nat → Heap → Prop}
end
section
variable {prog : Program} {w : World} {A : Around} {E : Value → Shared → Prop} {s : Shared} {z TI TO i1 i2 : Addr} {fp1 fp2 : List Addr} {n1 n2 : Nat} {P1 P2 : Nat → Value → Prop} {St1 St2 : Nat → Heap → Prop}
end
end KW.Z

set_option Elab.async false
set_option linter.all false
set_option maxRecDepth 100000
set_option maxHeartbeats 4000000
/-! list(zip(a, b)), of lists and tuples -/
namespace KW.Z
open PySem PySem.Calls PySem.Spec PyProof.Rows L2
/-- a tuple of two, as an object -/
abbrev obT (x y : Value) : Obj := { cls := .type "tuple", data := .seq #[x, y] }
theorem vals_ix : ∀ {xs : List V} {us : List Value} {i : Nat} {x : V}, Vals xs us → xs[i]? = some x → ∃ u, us[i]? = some u ∧ RelV x u
  | _, _, _, _, .nil, e => by simp at e
  | _, _, 0, _, .cons r t, e => by
    simp only [List.getElem?_cons_zero, Option.some.injEq] at e
    subst e
    exact ⟨_, rfl, r⟩
  | _, _, i + 1, _, .cons r t, e => by
    simp only [List.getElem?_cons_succ] at e ⊢
    exact vals_ix t e
/-- a list or a tuple that is walked by an iterator of its own -/
structure Src (P : Program) (w : World) (a : Addr) (its : List Value) (o : Obj) (Hh : Heap → Prop) (St : Addr → Nat → Heap → Prop) : Prop where
  b : Begins (.ref a) o Hh
  d : ∀ (A : Around) (it : Addr), A.handled = none → a ≠ it → Draws P w A it [it, a] its.length (fun i v => its[i]? = some v) (St it)
  z : ∀ (it : Addr) (h : Heap), h.get? it = some o → Hh h → St it 0 h
  lt : ∀ h : Heap, Hh h → a < h.objs.size
section
variable {X : Cx} {pins : List (Addr × Obj)} {σ : L2.St} {H : Hp} {s : Shared} {a b : Addr} {xs ys zs : List V} {Q : VK}
variable {e e1 e2 : Expr} {ta : TA} {p p2 pos pos2 : Pos}
end
end KW.Z

set_option Elab.async false
set_option linter.all false
set_option maxRecDepth 100000
set_option maxHeartbeats 4000000
/-! for a, b in zip(x, y), of lists and tuples in any mix, the tuples plain -/
namespace KW.Z
open PySem PySem.Calls PySem.Spec PyProof.Rows L2
/-- a list (no) or a tuple (yes) -/
def SqK (t : Bool) (K : PySem.W.Frag) (H : Hp) (a : Addr) (xs : List V) : Prop := match t with | false => SqL K H a xs | true => SqT K H a xs
def ItA (t : Bool) (h : Heap) (it a : Addr) (i : Nat) : Prop := match t with | false => h.IsListIter it a i | true => h.IsTupleIter it a i
def itO (t : Bool) (a : Addr) : Obj := match t with | false => { cls := .type "list_iterator", data := .fields #[.ref a, .int 0 0] } | true => { cls := .type "tuple_iterator", data := .fields #[.ref a, .int 0 0] }
theorem ItA.at {t : Bool} {h h' : Heap} {it a : Addr} {i : Nat} (x : ItA t h it a i) (k : ∀ o, h.get? it = some o → h'.get? it = some o) : ItA t h' it a i := by
  cases t
  · exact Heap.IsListIter.at x k
  · exact Heap.IsTupleIter.at x k
theorem ItA.obj {t : Bool} {h : Heap} {it a : Addr} {i : Nat} (x : ItA t h it a i) : ∃ o, h.get? it = some o ∧ ∀ v, o.data ≠ .cell v := by
  cases t
  · obtain ⟨o, e, _, d⟩ := (show h.IsListIter it a i from x); exact ⟨o, e, fun v q => by rw [d] at q; cases q⟩
  · obtain ⟨o, e, _, d⟩ := (show h.IsTupleIter it a i from x); exact ⟨o, e, fun v q => by rw [d] at q; cases q⟩
section
variable {X : Cx} {pins : List (Addr × Obj)} {σ : L2.St} {H : Hp} {s : Shared} {a b : Addr} {xs ys : List V}
theorem SqK.inj {t : Bool} (I : Inv X pins σ H s) (h : SqK t X.K H a xs) (h' : SqK t X.K H a ys) : xs = ys := by
  cases t
  · exact I.list_inj h h'
  · exact I.tuple_inj h h'
/-- what stands at it now, to be drawn from -/
theorem draw_of {t : Bool} (I : Inv X pins σ H s) (q : SqK t X.K H a xs) : ∃ its : List Value, Vals xs its ∧ xs.length ≤ sizeLine ∧ a < s.heap.objs.size ∧ ∀ (A : Around) (it : Addr), A.handled = none → a ≠ it → ∃ St : Nat → Heap → Prop,
    Draws X.prog X.w A it [it, a] its.length (fun i v => its[i]? = some v) St ∧ (∀ i, ItA t s.heap it a i → St i s.heap) ∧ ∀ i h, St i h → ItA t h it a i := by
  cases t
  · obtain ⟨its, r, pl, hz⟩ := I.list q
    refine ⟨its, r, hz, pl.lt, fun A it hh ne => ⟨fun i h => h.IsListIter it a i ∧ h.IsList a its.toArray, ?_, fun i x => ⟨x, pl.isList⟩, fun i h x => x.1⟩⟩
    have D := Draws.list (prog := X.prog) (w := X.w) hh it a ne its.toArray
    simpa using D
  · obtain ⟨its, r, pl, hz⟩ := I.tuple q
    refine ⟨its, r, hz, ?_, fun A it hh ne => ⟨fun i h => h.IsTupleIter it a i ∧ h.IsTuple a its.toArray, ?_, fun i x => ⟨x, pl⟩, fun i h x => x.1⟩⟩
    · obtain ⟨o, e, _⟩ := pl
      exact Heap.lt_size e
    · have D := Draws.tuple (prog := X.prog) (w := X.w) hh it a ne its.toArray
      simpa using D
theorem begin_of {t : Bool} (I : Inv X pins σ H s) (q : SqK t X.K H a xs) : ∃ Hh : Heap → Prop, Begins (.ref a) (itO t a) Hh ∧ Hh s.heap := by
  cases t
  · obtain ⟨its, r, pl, hz⟩ := I.list q
    exact ⟨_, begins_list a its.toArray, pl.isList⟩
  · obtain ⟨its, r, pl, hz⟩ := I.tuple q
    exact ⟨_, begins_tuple a its.toArray, pl⟩
end
theorem it_new {t : Bool} {h : Heap} {it a : Addr} (e : h.get? it = some (itO t a)) : ItA t h it a 0 := by
  cases t
  · exact ⟨_, e, rfl, rfl⟩
  · exact ⟨_, e, rfl, rfl⟩
/-- both as they stand at each turn -/
def ItZ (K : PySem.W.Frag) (t u : Bool) (a b : Addr) : It :=
  ⟨fun i H => ∃ (xs ys : List V) (x y : V), SqK t K H a xs ∧ SqK u K H b ys ∧ xs[i]? = some x ∧ ys[i]? = some y,
    fun i H v H' => ∃ (T : Addr) (x y : V) (o : Obj), v = .ref T ∧ H T = none ∧ o.dict = none ∧ H' = upd H T (.frz o (.tup [x, y])) ∧ (∀ xs, SqK t K H a xs → xs[i]? = some x) ∧ ∀ ys, SqK u K H b ys → ys[i]? = some y,
    fun i H => ∃ xs ys : List V, SqK t K H a xs ∧ SqK u K H b ys ∧ i ≤ xs.length ∧ i ≤ ys.length ∧ (i = xs.length ∨ i = ys.length)⟩
theorem turn_z {P : Program} {w : World} {K : PySem.W.Frag} {elts : List Expr} {kk : Nat} {tpos : Pos} {t u : Bool} {a b z TI TO i1 i2 : Addr} (D : ZipSep2 z TI TO i1 i2 [i1, a] [i2, b]) (ha : a ≠ i1) (hb : b ≠ i2) :
    Turn P w K (.Tuple elts kk tpos) (ItZ K t u a b) [z, TI, TO, i1, i2] z (fun i h => IsZip h z TI TO .none ∧ IsTupOf2 h TI (.ref i1) (.ref i2) ∧ (∃ x y, IsTupOf2 h TO x y) ∧ ItA t h i1 a i ∧ ItA u h i2 b i) where
  mem := by simp
  obj := fun i h st c hc => by
    obtain ⟨hz, hTI, ⟨x, y, hTO⟩, h1, h2⟩ := st
    simp only [List.mem_cons, List.not_mem_nil, or_false] at hc
    rcases hc with q | q | q | q | q
    · rw [q]; exact ⟨_, hz, fun v q => nomatch q⟩
    · rw [q]; exact ⟨_, hTI, fun v q => nomatch q⟩
    · rw [q]; exact ⟨_, hTO, fun v q => nomatch q⟩
    · rw [q]; exact h1.obj
    · rw [q]; exact h2.obj
  keep := fun i h h' st k => by
    obtain ⟨hz, hTI, ⟨x, y, hTO⟩, h1, h2⟩ := st
    exact ⟨k z (by simp) _ hz, k TI (by simp) _ hTI, ⟨x, y, k TO (by simp) _ hTO⟩, h1.at fun o q => k i1 (by simp) o q, h2.at fun o q => k i2 (by simp) o q⟩
  item := by
    rintro X rfl rfl rfl hc i pins s σ H E I hf ⟨hz, hTI, ⟨x0, y0, hTO⟩, h1, h2⟩ ⟨xs, ys, x, y, qx, qy, ex, ey⟩
    obtain ⟨its, r1, z1, la, d1⟩ := draw_of I qx
    obtain ⟨its2, r2, z2, lb, d2⟩ := draw_of I qy
    have hh : X.A.in1.handled = none := by simp [I.ok.hd hc]
    obtain ⟨S1, D1, u1, b1⟩ := d1 X.A.in1 i1 hh ha
    obtain ⟨S2, D2, u2, b2⟩ := d2 X.A.in1 i2 hh hb
    have l1 := r1.length
    have l2 := r2.length
    have e1 := (List.getElem?_eq_some_iff.mp ex).1
    have e2 := (List.getElem?_eq_some_iff.mp ey).1
    have zl := Heap.lt_size hz
    refine wpAny_pyNext_zipD2_item D D1 D2 hz hTI hTO (u1 i h1) (u2 i h2) (by omega) (by omega) fun v1 v2 h' tk p1 p2 z' TO' s1 s2 hT hsz hk => ?_
    refine ⟨_, rfl, wpAny_letOwnedTupleGo_zip (s := { s with heap := h', toks := tk }) z' fun h'' z'' sb => ?_⟩
    obtain ⟨w1, f1, g1⟩ := vals_ix r1 ex
    obtain ⟨w2, f2, g2⟩ := vals_ix r2 ey
    rw [p1] at f1; cases f1
    rw [p2] at f2; cases f2
    have hT2 : h''.get? s.heap.objs.size = some (obT v1 v2) := (sb.2 _ (Nat.ne_of_gt zl)).trans hT
    have new : ObjOk X.prog X.w (upd H s.heap.objs.size (.frz (obT v1 v2) (.tup [x, y]))) h'' s.heap.objs.size (.frz (obT v1 v2) (.tup [x, y])) :=
      ⟨hT2, by show 2 ≤ sizeLine; decide, [v1, v2], .cons g1 (.cons g2 .nil), ⟨_, hT2, rfl, _, rfl⟩⟩
    have I1 : Inv X pins σ (upd H s.heap.objs.size (.frz (obT v1 v2) (.tup [x, y]))) { s with heap := h'', toks := tk } :=
      I.turnedNew (ch := [z, TI, TO, i1, i2]) (fun c o q e => (sb.2 c (fun m => q (by simp [m]))).trans (hk c o (fun m => q (by simp [m])) (fun m => q (by simp [m])) (fun m => q (by simp [m])) (fun m => q (by simp [m])) e)) hf (Nat.le_refl _) new
    refine ⟨.ref s.heap.objs.size, _, I1, rfl, ⟨_, x, y, _, rfl, I.hok.fresh (Nat.le_refl _), rfl, rfl, fun l hl => by rw [SqK.inj I hl qx]; exact ex, fun l hl => by rw [SqK.inj I hl qy]; exact ey⟩, ⟨z'', ?_, ⟨v1, v2, ?_⟩, ?_, ?_⟩, fun c hcm => ?_⟩
    · exact (sb.2 _ D.TIz).trans (hk _ _ D.TIz D.TITO D.TIi1 D.TIi2 hTI)
    · exact (sb.2 _ D.TOz).trans TO'
    · exact (b1 _ _ s1).at fun o q => (sb.2 _ D.zi1.symm).trans q
    · exact (b2 _ _ s2).at fun o q => (sb.2 _ D.zi2.symm).trans q
    · have hlt : c < s.heap.objs.size := by
        simp only [List.mem_cons, List.not_mem_nil, or_false] at hcm
        rcases hcm with q | q | q | q | q
        · rw [q]; exact zl
        · rw [q]; exact Heap.lt_size hTI
        · rw [q]; exact Heap.lt_size hTO
        · rw [q]; obtain ⟨_, m, _⟩ := h1.obj; exact Heap.lt_size m
        · rw [q]; obtain ⟨_, m, _⟩ := h2.obj; exact Heap.lt_size m
      rw [upd_ne (Nat.ne_of_lt hlt)]
      exact (hf c hcm).1
  done := by
    rintro X rfl rfl rfl hc i pins s σ H E I hf ⟨hz, hTI, ⟨x0, y0, hTO⟩, h1, h2⟩ ⟨xs, ys, qx, qy, m1, m2, eq⟩
    obtain ⟨its, r1, z1, la, d1⟩ := draw_of I qx
    obtain ⟨its2, r2, z2, lb, d2⟩ := draw_of I qy
    have hh : X.A.in1.handled = none := by simp [I.ok.hd hc]
    obtain ⟨S1, D1, u1, b1⟩ := d1 X.A.in1 i1 hh ha
    obtain ⟨S2, D2, u2, b2⟩ := d2 X.A.in1 i2 hh hb
    have l1 := r1.length
    have l2 := r2.length
    exact wpAny_pyNext_zipD2_end D D1 D2 hz hTI hTO (u1 i h1) (u2 i h2) (by omega) (by omega) (by omega) fun h' tk hk => ⟨rfl, I.turnedL (ch := [z, TI, TO, i1, i2]) (fun c o q e =>
      hk c o (fun m => q (by simp [m])) (fun m => q (by simp [m])) (fun m => q (by simp [m])) (fun m => q (by simp [m])) e) hf⟩
  self := fun A i s Q E st h => wpAny_pyIter_zip st.1 h
def iZipN (K : PySem.W.Frag) (ta : TA) : TI := fun σ H R => ta σ H fun vs H1 => ∃ (a b : Addr) (t u : Bool) (xs ys : List V), vs = [V.ref a, .ref b] ∧ SqK t K H1 a xs ∧ SqK u K H1 b ys ∧ R (ItZ K t u a b) H1
theorem pi_zipN {X : Cx} {e e2 : Expr} {ta : TA} {p pos tpos : Pos} {elts : List Expr} {kk : Nat} (hg : Gl X "zip") (hm : X.mg "zip" = none) (ha : PA X [e, e2] ta)
    (hs : starEach [e, e2] X.env = (false, eval e X.env) :: starEach [e2] X.env) (hpl : (backTo pos (starEach [e2] X.env)).any (·.1) = false) :
    PI X (.Tuple elts kk tpos) (.Call (.Name "zip" p) [e, e2] [] pos) (iZipN X.K ta) := by
  refine ⟨fun pins s σ H R I h => ?_⟩
  refine Call_ (ld_blt I hg hm PyProof.Rows.boot_zip (PyProof.Rows.callWith_type1 (thn (ha.run pos pins s σ H _ I h) fun us s1 ⟨vs, H1, I1, r1, q1⟩ => ?_) hs hpl))
  obtain ⟨a, b, t, u, xs, ys, rfl, qa, qb, q⟩ := q1
  obtain ⟨v, w, rfl, rv, rw⟩ := r1.two
  cases rv; cases rw
  obtain ⟨its, _, _, la, _⟩ := draw_of I1 qa
  obtain ⟨its2, _, _, lb, _⟩ := draw_of I1 qb
  obtain ⟨Ha, ba, ha'⟩ := begin_of I1 qa
  obtain ⟨Hb, bb, hb'⟩ := begin_of I1 qb
  refine zip_begins2 ba bb ha' hb' fun h' hz hti hto g1 g2 hsz hk => wpAny_pyIter_zip hz ?_
  have I2 : Inv X pins σ H1 { s1 with heap := h' } := I1.kept (t' := s1.toks) hk
  have D := zip_sep2 (N := s1.heap.objs.size) (fp1 := [a]) (fp2 := [b]) (fun c hc => by rw [List.mem_singleton.mp hc]; exact la) (fun c hc => by rw [List.mem_singleton.mp hc]; exact lb)
  refine ⟨s1.heap.objs.size + 4, [s1.heap.objs.size + 4, s1.heap.objs.size + 2, s1.heap.objs.size + 3, s1.heap.objs.size, s1.heap.objs.size + 1], _, _, H1, rfl, I2, turn_z D (Nat.ne_of_lt la) (Nat.ne_of_lt (Nat.lt_succ_of_lt lb)), ⟨hz, hti, ⟨_, _, hto⟩, it_new g1, it_new g2⟩, fun c hcm => ?_, q⟩
  have hle : s1.heap.objs.size ≤ c := by
    simp only [List.mem_cons, List.not_mem_nil, or_false] at hcm
    rcases hcm with z | z | z | z | z
    · rw [z]; exact Nat.le_add_right _ _
    · rw [z]; exact Nat.le_add_right _ _
    · rw [z]; exact Nat.le_add_right _ _
    · rw [z]; exact Nat.le_refl _
    · rw [z]; exact Nat.le_add_right _ _
  exact I1.fpOk hle (I1.hok.fresh hle)
end KW.Z

set_option Elab.async false
set_option linter.all false
set_option maxRecDepth 100000
set_option maxHeartbeats 4000000
/-! dict(zip(a, b)), of lists and tuples in any mix -/
namespace KW.Z
open PySem PySem.Calls PySem.Spec PyProof.Rows L2
section
variable {prog : Program} {w : World} {z TI TO i1 i2 : Addr} {fp1 fp2 : List Addr} {n1 n2 : Nat} {P1 P2 : Nat → Value → Prop} {St1 St2 : Nat → Heap → Prop}
end
section
variable {X : Cx} {pins : List (Addr × Obj)} {σ : L2.St} {H : Hp} {s : Shared} {xs : List V} {Q : VK}
end
end KW.Z

set_option Elab.async false
set_option linter.all false
set_option maxRecDepth 100000
set_option maxHeartbeats 4000000
/-! sorted(xs), xs a list of triples (a text, a number, a tuple of numbers), any number of them -/
namespace KW.F
open PySem PySem.Spec PyProof.Rows L2 SrtO
/-- a strict total order -/
structure Tot {α : Type} (lt : α → α → Bool) : Prop where
  asym : ∀ x y, lt x y = true → lt y x = false
  tr : ∀ x y z, lt y x = false → lt z y = false → lt z x = false
  tri : ∀ x y, lt x y = false → lt y x = false → x = y
abbrev FK := Str × Int × List Int
/-- a triple -/
def IsFr (h : Heap) (v : Value) (k : FK) : Prop := ∃ a o t u b n, v = .ref a ∧ h.get? a = some o ∧ o.cls = .type "tuple" ∧ o.data = .seq #[.str k.1 t, .int k.2.1 u, .ref b] n ∧ ∃ its, IsTup h b its ∧ IntsAre its.toList k.2.2
theorem IsFr.keeps {h h' : Heap} {v : Value} {k : FK} (p : IsFr h v k) (q : ∀ b o, h.get? b = some o → o.cls = .type "tuple" → h'.get? b = some o) : IsFr h' v k := by
  obtain ⟨a, o, t, u, b, n, e, ho, hc, hd, its, ⟨ob, hb, hbc, hbd⟩, hi⟩ := p
  exact ⟨a, o, t, u, b, n, e, q _ _ ho hc, hc, hd, its, ⟨ob, q _ _ hb hbc, hbc, hbd⟩, hi⟩
end KW.F

set_option Elab.async false
set_option linter.all false
set_option maxRecDepth 100000
set_option maxHeartbeats 4000000
/-! sorted(xs) of such triples: the comparison, the list -/
namespace KW.F
open PySem PySem.Spec PyProof.Rows L2 SrtO
section
variable {prog : Program} {w : World} {A : Around} {E : Value → Shared → Prop} {s : Shared}
end
end KW.F

set_option Elab.async false
set_option linter.all false
set_option maxRecDepth 100000
set_option maxHeartbeats 4000000
/-! sorted(xs) of such triples, by HandS -/
namespace KW.F
open PySem PySem.Spec PyProof.Rows L2 SrtO
theorem ints_inj : ∀ {vs : List Value} {a b : List Int}, IntsAre vs a → IntsAre vs b → a = b := by
  intro vs a b h
  induction h generalizing b with
  | nil => intro h2; cases h2; rfl
  | cons x t h ih =>
    intro h2
    cases h2 with
    | cons y u h2 => rw [ih h2]
theorem IsFr.inj {h : Heap} {v : Value} {k k' : FK} (pa : IsFr h v k) (pb : IsFr h v k') : k = k' := by
  obtain ⟨x, y, ns⟩ := k
  obtain ⟨x', y', ns'⟩ := k'
  obtain ⟨a, o, t, u, b, n, e, ho, hc, hd, its, ⟨ob, hb, hbc, m, hbd⟩, hi⟩ := pa
  obtain ⟨a', o', t', u', b', n', e', ho', hc', hd', its', ⟨ob', hb', hbc', m', hbd'⟩, hi'⟩ := pb
  subst e
  cases e'
  rw [ho] at ho'
  cases ho'
  rw [hd] at hd'
  cases hd'
  rw [hb] at hb'
  cases hb'
  rw [hbd] at hbd'
  cases hbd'
  simp only at hi hi'
  rw [ints_inj hi hi']
open Classical in
/-- the triple at a value -/
noncomputable def frOf (h : Heap) (v : Value) : FK := if e : ∃ k, IsFr h v k then Classical.choose e else (default, 0, [])
section
variable {X : Cx} {pins : List (Addr × Obj)} {σ : L2.St} {H : Hp} {s : Shared}
end
section
variable {X : Cx}
end
end KW.F

set_option Elab.async false
set_option linter.all false
set_option maxRecDepth 100000
set_option maxHeartbeats 4000000
/-! exceptions in the air: cold ones, whose context is known to be None; and those of the one class that a suite raises -/
namespace KW
open PySem PySem.Spec PyProof.Rows L2
theorem sky_imp {B : Heap} {l : List Env} {a L : Addr} {Y Y' : Obj → Prop} {g : Heap} (i : ∀ o, Y o → Y' o) : L2.Sky B l a Y L g → L2.Sky B l a Y' L g
  | .inl ⟨x1, x2, x3, oe, ws, x4, y, x5⟩ => .inl ⟨x1, x2, x3, oe, ws, x4, i oe y, x5⟩
  | .inr (.inl x) => .inr (.inl (L2H.flyingZ_imp i x))
  | .inr (.inr ⟨x1, x2, x3, x4⟩) => .inr (.inr ⟨x1, x2, x3, L2H.tracedZ_imp i x4⟩)
theorem xe_warm {X : Cx} {V : WX} {u : Value} {t : Shared} : L2N.XE X V u t → L2.XE X V u t
  | ⟨a, B, r, pl, σ, H, c, d, e, I, n1, up, sk, na, os, ag, w⟩ => ⟨a, B, r, pl, σ, H, c, d, e, I, n1, up, sky_imp (fun _ y => y.zc) sk, na, os, ag, w⟩
theorem cold {X : Cx} {V : WX} (t : L2.Takes X V) : L2N.Takes X V := fun u s x => t u s (xe_warm x)
/-- the one class whose instances may have been raised in a suite -/
def hotV (mg : Str → Option Value) (V : WX) : WX := fun c d σ H => mg "NoText" = some c ∧ V c d σ H
def hotE (mg : Str → Option Value) (V : XK) : XK := fun c d H => mg "NoText" = some c ∧ V c d H
def Takes (X : Cx) (V : WX) : Prop := L2N.Takes X V ∧ L2.Takes X (hotV X.mg V)
theorem takes_all {X : Cx} {V : WX} (t : L2.Takes X V) : Takes X V := ⟨cold t, L2.Takes.imp t fun _ _ _ _ z => z.2⟩
theorem takes0 {X : Cx} : Takes X (fun _ _ _ _ => False) := takes_all L2.takes0
theorem Takes.imp {X : Cx} {V V' : WX} (t : Takes X V) (i : ∀ c d σ H, V' c d σ H → V c d σ H) : Takes X V' :=
  ⟨L2N.Takes.imp t.1 i, L2.Takes.imp t.2 fun c d σ H z => ⟨z.1, i c d σ H z.2⟩⟩
/-- what a def lets out -/
def CXH (P : Program) (w : World) (mg : Str → Option Value) : CXT := fun out H s E u t => L2N.CX P w out H s E u t ∨ L2.CX P w out H s (hotE mg E) u t
theorem cxh_no {P : Program} {w : World} {mg : Str → Option Value} {out : List Env} {H : Hp} {s t : Shared} {u : Value} (c : CXH P w mg out H s (fun _ _ _ => False) u t) : False := by
  rcases c with ⟨_, _, _, _, _, _, _, _, _, _, _, _, z⟩ | ⟨_, _, _, _, _, _, _, _, _, _, _, _, z⟩
  · exact z
  · exact z.2
section
variable {X : Cx} {V : WX}
theorem takes_of {E : XK} (hs : X.stack = X.env :: X.outer) (hf : X.env.frame = some X.env.locals) (hx : X.ex = []) {E' : Value → Shared → Prop}
    (e : X.xe = fun u s => wpAny (model X.prog X.w) X.A (leaving X.env u) (fun _ t => CXH X.prog X.w X.mg X.outer X.H_0 X.s_0 E u t) E' s) : Takes X (fun c d _ H => E c d H) := by
  refine ⟨fun u s x => ?_, fun u s x => ?_⟩
  · rw [e]
    exact thn (L2N.XE.leave (W := fun c d _ H => E c d H) (E := E) hs hf hx (fun _ _ _ _ h => h) x) fun _ _ z => .inl z
  · rw [e]
    exact thn (L2.XE.leave (W := hotV X.mg fun c d _ H => E c d H) (E := hotE X.mg E) hs hf hx (fun _ _ _ _ h => h) x) fun _ _ z => .inr z
theorem passAt (t : Takes X V) (σ : L2.St) : PassesAt (CXH X.prog X.w X.mg) X σ (L2.WE V σ) := fun pl H s u s2 I c => by
  rcases c with c | c
  · exact t.1 u s2 (L2N.XE.of_call I (fun _ _ _ h => h) c)
  · exact t.2 u s2 (L2.XE.of_call (W := hotV X.mg V) I (fun _ _ _ h => h) c)
/-- where nothing can come out -/
theorem passes_no {cx : CXT} (h : ∀ out H s u t, cx out H s (fun _ _ _ => False) u t → False) : Passes cx X fun _ _ _ => False := fun _ _ _ _ _ _ _ c => (h _ _ _ _ _ c).elim
theorem cx_no {P : Program} {w : World} {out : List Env} {H : Hp} {s : Shared} {u : Value} {t : Shared} (c : L2.CX P w out H s (fun _ _ _ => False) u t) : False := by
  obtain ⟨_, _, _, _, _, _, _, _, _, _, _, _, z⟩ := c
  exact z
end
/-- the surroundings of a def's own body -/
def Lv (X : Cx) : Prop := ∃ (K : Value → Shared → Prop) (E' : Value → Shared → Prop), X.xe = fun u s => wpAny (model X.prog X.w) X.A (leaving X.env u) (fun _ t => K u t) E' s
/-! an own exception made where nothing is handled: its context is None -/
section
variable {X : Cx} {b : Expr} {bs : List Expr} {ea : TA} {q1 q2 : Pos} {nm : Str}
end
end KW

set_option Elab.async false
set_option linter.all false
set_option maxRecDepth 100000
set_option maxHeartbeats 4000000
/-! a suite that bears the exception's name and raises another one from it -/
namespace KW
open PySem PySem.Spec PyProof.Rows L2
section
variable {X : Cx} {pins : List (Addr × Obj)} {σ : L2.St} {H : Hp} {s : Shared}
end
end KW

set_option Elab.async false
set_option linter.all false
set_option maxRecDepth 100000
set_option maxHeartbeats 4000000
/-! raise X(..) from the exception in hand -/
namespace KW
open PySem PySem.Spec PyProof.Rows L2 HotX
section
variable {prog : Program} {w : World} {A : Around} {E : Value → Shared → Prop} {env : Env} {s : Shared} {x c : Sem Value} {Q : Flow → Shared → Prop} {x1 : Addr}
end
end KW

set_option Elab.async false
set_option linter.all false
set_option maxRecDepth 100000
set_option maxHeartbeats 4000000
/-! try: .., except (A, B) as e: a suite that raises -/
namespace KW
open PySem PySem.Spec PyProof.Rows L2
section
variable {X : Cx} {x1 x2 nn : Str} {v1 v2 : Value} {i kk : Nat} {bd su : List Stmt} {s0 : Stmt} {q1 q2 q3 q4 q5 : Pos} {tb : WX → TS} {ts : Addr → Value → Option Addr → TS} {Wo : WX}
end
end KW

set_option Elab.async false
set_option linter.all false
set_option maxRecDepth 100000
set_option maxHeartbeats 4000000
/-! values, logical heap, results; how they are represented -/
namespace KW
open PySem L2

inductive W where
  | non
  | bl (b : Bool)
  | int (i : Int)
  | str (s : Str)
  | tup (ws : List W)
  | lst (ws : List W)
  | dct (ks vs : List W)
  | ins (c : Nat) (fs : List Nat) (vs : List W)
  | ref (a : Nat)
  | scr (ns : List Int)
  /-- an own exception, caught: in its suite -/
  | exn (c : Nat) (fs : List Nat) (vs : List W)
  deriving Inhabited

mutual
def W.eqb : W → W → Bool
  | .non, .non => true
  | .bl b, .bl c => b == c
  | .int i, .int j => i == j
  | .str s, .str t => s == t
  | .tup ws, .tup us => W.eqbs ws us
  | .lst ws, .lst us => W.eqbs ws us
  | .dct ks vs, .dct ks' vs' => W.eqbs ks ks' && W.eqbs vs vs'
  | .ins c fs vs, .ins c' fs' vs' => c == c' && fs == fs' && W.eqbs vs vs'
  | .ref a, .ref b => a == b
  | .scr a, .scr b => a == b
  | .exn c fs vs, .exn c' fs' vs' => c == c' && fs == fs' && W.eqbs vs vs'
  | _, _ => false
def W.eqbs : List W → List W → Bool
  | [], [] => true
  | w :: ws, u :: us => W.eqb w u && W.eqbs ws us
  | _, _ => false
end
mutual
theorem W.eqb_eq : ∀ {a b : W}, W.eqb a b = true → a = b
  | .non, b, h => by cases b <;> simp_all [W.eqb]
  | .bl x, b, h => by cases b <;> simp_all [W.eqb]
  | .int x, b, h => by cases b <;> simp_all [W.eqb]
  | .str x, b, h => by cases b <;> simp_all [W.eqb]
  | .tup ws, b, h => by
    cases b <;> simp only [W.eqb, Bool.false_eq_true] at h
    rw [W.eqbs_eq h]
  | .lst ws, b, h => by
    cases b <;> simp only [W.eqb, Bool.false_eq_true] at h
    rw [W.eqbs_eq h]
  | .dct ks vs, b, h => by
    cases b <;> simp only [W.eqb, Bool.false_eq_true, Bool.and_eq_true] at h
    rw [W.eqbs_eq h.1, W.eqbs_eq h.2]
  | .ins c fs vs, b, h => by
    cases b <;> simp only [W.eqb, Bool.false_eq_true, Bool.and_eq_true, beq_iff_eq] at h
    rw [h.1.1, h.1.2, W.eqbs_eq h.2]
  | .ref x, b, h => by cases b <;> simp_all [W.eqb]
  | .scr x, b, h => by cases b <;> simp_all [W.eqb]
  | .exn c fs vs, b, h => by
    cases b <;> simp only [W.eqb, Bool.false_eq_true, Bool.and_eq_true, beq_iff_eq] at h
    rw [h.1.1, h.1.2, W.eqbs_eq h.2]
theorem W.eqbs_eq : ∀ {a b : List W}, W.eqbs a b = true → a = b
  | [], b, h => by cases b <;> simp_all [W.eqbs]
  | w :: ws, b, h => by
    cases b <;> simp only [W.eqbs, Bool.false_eq_true, Bool.and_eq_true] at h
    rw [W.eqb_eq h.1, W.eqbs_eq h.2]
end
mutual
theorem W.eqb_refl : ∀ a : W, W.eqb a a = true
  | .non => by simp [W.eqb]
  | .bl x => by simp [W.eqb]
  | .int x => by simp [W.eqb]
  | .str x => by simp [W.eqb]
  | .tup ws => by simp [W.eqb, W.eqbs_refl ws]
  | .lst ws => by simp [W.eqb, W.eqbs_refl ws]
  | .dct ks vs => by simp [W.eqb, W.eqbs_refl ks, W.eqbs_refl vs]
  | .ins c fs vs => by simp [W.eqb, W.eqbs_refl vs]
  | .ref x => by simp [W.eqb]
  | .scr x => by simp [W.eqb]
  | .exn c fs vs => by simp [W.eqb, W.eqbs_refl vs]
theorem W.eqbs_refl : ∀ a : List W, W.eqbs a a = true
  | [] => by simp [W.eqbs]
  | w :: ws => by simp [W.eqbs, W.eqb_refl w, W.eqbs_refl ws]
end
instance : DecidableEq W := fun a b => if h : W.eqb a b = true then .isTrue (W.eqb_eq h) else .isFalse fun e => h (by rw [e]; exact W.eqb_refl b)

inductive Ob where
  | lst (ws : List W)
  | dct (ks vs : List W)
  | ins (c : Nat) (fs : List Nat) (vs : List W)
  /-- a dict whose keys are nested tuples -/
  | td (ks vs : List W)
  /-- an exception as a value -/
  | exo (c : Nat) (fs : List Nat) (vs : List W)
  | dead
  deriving DecidableEq, Inhabited

abbrev WH := List Ob
abbrev WS := List (Option W)

inductive R (α : Type) where
  | ok (a : α) (h : WH)
  | exc (c : Nat) (fs : List Nat) (vs : List W) (h : WH)
  | no

def R.bind {α β : Type} (r : R α) (f : α → WH → R β) : R β := match r with
  | .ok a h => f a h
  | .exc c fs vs h => .exc c fs vs h
  | .no => .no

mutual
def W.lt (n : Nat) : W → Bool
  | .tup ws => W.lts n ws
  | .lst ws => W.lts n ws
  | .dct ks vs => W.lts n ks && W.lts n vs
  | .ins _ _ vs => W.lts n vs
  | .exn _ _ vs => W.lts n vs
  | .ref a => decide (a < n)
  | _ => true
def W.lts (n : Nat) : List W → Bool
  | [] => true
  | w :: ws => W.lt n w && W.lts n ws
end
def Ob.lt (n : Nat) : Ob → Bool
  | .lst ws => W.lts n ws
  | .dct ks vs => W.lts n ks && W.lts n vs
  | .ins _ _ vs => W.lts n vs
  | .td ks vs => W.lts n ks && W.lts n vs
  | .exo _ _ vs => W.lts n vs
  | .dead => true


/-- a tuple at which no dict stands -/
def PlT (K : PySem.W.Frag) (F : Hp) (p : Addr) (vs : List V) : Prop := (∃ o : Obj, F p = some (.frz o (.tup vs)) ∧ o.dict = none) ∨
  ∃ (o : Obj) (its : Array Value) (n : Nat), K.lookup p = some o ∧ o.cls = .type "tuple" ∧ o.dict = none ∧ o.data = .seq its n ∧ its.size ≤ sizeLine ∧ Vals vs its.toList
theorem PlT.sq {K : PySem.W.Frag} {F : Hp} {p : Addr} {vs : List V} (h : PlT K F p vs) : SqT K F p vs := by
  rcases h with ⟨o, e, _⟩ | ⟨o, its, n, e, c, _, d, z, r⟩
  · exact .inl (.inr ⟨o, e⟩)
  · exact .inr ⟨o, its, n, e, c, d, z, r⟩
theorem PlT.le {K : PySem.W.Frag} {F F' : Hp} (h : ∀ a o, F a = some o → F' a = some o) {p : Addr} {vs : List V} (q : PlT K F p vs) : PlT K F' p vs := by
  rcases q with ⟨o, e, d⟩ | q
  · exact .inl ⟨o, h _ _ e, d⟩
  · exact .inr q
/-! ### how values are represented -/
/-- the program's own: the written part, the classes' addresses, the attributes' names -/
structure Gx where
  P : Program
  w : World
  K : PySem.W.Frag
  cl : Nat → Option Addr
  fn : Nat → Str
  /-- the attributes that a class's instances may have -/
  lay : Nat → Nat → Bool
  /-- the exception in hand: where it stands, its class, its dict -/
  xo : Option (Addr × Addr × Option Addr) := none

/-- frozen objects; where the logical objects stand -/
structure Ka where
  F : Hp
  mu : List Addr

def keyW : Key → W
  | .inl i => .int i
  | .inr s => .str s

mutual
def Rep (G : Gx) (k : Ka) : W → V → Prop
  | .non, v => v = .non
  | .bl b, v => v = .bl b
  | .int i, v => v = .int i
  | .str s, v => v = .str s
  | .tup ws, v => ∃ p vs, v = .ref p ∧ PlT G.K k.F p vs ∧ RepL G k ws vs
  | .lst ws, v => ∃ p vs, v = .ref p ∧ k.F p = some (.lst vs) ∧ RepL G k ws vs
  | .dct ks ws, v => ∃ p kvs, v = .ref p ∧ k.F p = some (.dK kvs) ∧ ks = kvs.map (fun x => keyW x.1) ∧ RepL G k ws (kvs.map (·.2))
  | .ins c fs ws, v => ∃ p C dx fvs, v = .ref p ∧ (G.cl c = some C ∧ fs.all (G.lay c) = true) ∧ k.F p = some (.ins C dx fvs) ∧ fvs.map (·.1) = fs.map G.fn ∧ RepL G k ws (fvs.map (·.2))
  | .ref a, v => ∃ p, v = .ref p ∧ k.mu[a]? = some p
  | .scr ns, v => ∃ p, v = .ref p ∧ SqL G.K k.F p (ns.map V.int)
  | .exn c fs ws, v => ∃ p C d, v = .ref p ∧ (G.xo = some (p, C, d) ∧ G.cl c = some C) ∧ ((d = none ∧ fs = [] ∧ ws = []) ∨ ∃ dx fvs, d = some dx ∧ k.F dx = some (.xd fvs) ∧ fvs.map (·.1) = fs.map G.fn ∧ RepL G k ws (fvs.map (·.2)))
def RepL (G : Gx) (k : Ka) : List W → List V → Prop
  | [], vs => vs = []
  | w :: ws, vs => ∃ v r, vs = v :: r ∧ Rep G k w v ∧ RepL G k ws r
end

theorem RepL.length {G : Gx} {k : Ka} : ∀ {ws : List W} {vs : List V}, RepL G k ws vs → vs.length = ws.length
  | [], vs, h => by simp only [RepL] at h; subst h; rfl
  | w :: ws, vs, h => by
    simp only [RepL] at h
    obtain ⟨v, r, rfl, _, h2⟩ := h
    simp [RepL.length h2]
theorem RepL.get {G : Gx} {k : Ka} : ∀ {ws : List W} {vs : List V} {i : Nat} {w : W}, RepL G k ws vs → ws[i]? = some w → ∃ v, vs[i]? = some v ∧ Rep G k w v
  | [], vs, i, w, h, e => by simp at e
  | w :: ws, vs, 0, w', h, e => by
    simp only [RepL] at h
    obtain ⟨v, r, rfl, h1, h2⟩ := h
    simp at e; subst e
    exact ⟨v, rfl, h1⟩
  | w :: ws, vs, i + 1, w', h, e => by
    simp only [RepL] at h
    obtain ⟨v, r, rfl, h1, h2⟩ := h
    simpa using RepL.get h2 (by simpa using e)
theorem RepL.append {G : Gx} {k : Ka} : ∀ {ws us : List W} {vs xs : List V}, RepL G k ws vs → RepL G k us xs → RepL G k (ws ++ us) (vs ++ xs)
  | [], us, vs, xs, h, h' => by simp only [RepL] at h; subst h; exact h'
  | w :: ws, us, vs, xs, h, h' => by
    simp only [RepL] at h
    obtain ⟨v, r, rfl, h1, h2⟩ := h
    simp only [List.cons_append, RepL]
    exact ⟨v, r ++ xs, rfl, h1, RepL.append h2 h'⟩
theorem RepL.one {G : Gx} {k : Ka} {w : W} {v : V} (h : Rep G k w v) : RepL G k [w] [v] := by
  simp only [RepL]; exact ⟨v, [], rfl, h, rfl⟩
theorem RepL.drop {G : Gx} {k : Ka} : ∀ {ws : List W} {vs : List V} (n : Nat), RepL G k ws vs → RepL G k (ws.drop n) (vs.drop n)
  | ws, vs, 0, h => by simpa using h
  | [], vs, n + 1, h => by simp only [RepL] at h; subst h; simp [RepL]
  | w :: ws, vs, n + 1, h => by
    simp only [RepL] at h
    obtain ⟨v, r, rfl, h1, h2⟩ := h
    simpa using RepL.drop n h2
theorem RepL.take {G : Gx} {k : Ka} : ∀ {ws : List W} {vs : List V} (n : Nat), RepL G k ws vs → RepL G k (ws.take n) (vs.take n)
  | ws, vs, 0, h => by simp [RepL]
  | [], vs, n + 1, h => by simp only [RepL] at h; subst h; simp [RepL]
  | w :: ws, vs, n + 1, h => by
    simp only [RepL] at h
    obtain ⟨v, r, rfl, h1, h2⟩ := h
    simp only [List.take_succ_cons, RepL]
    exact ⟨v, r.take n, rfl, h1, RepL.take n h2⟩
theorem RepL.set {G : Gx} {k : Ka} : ∀ {ws : List W} {vs : List V} {w : W} {v : V} (n : Nat), RepL G k ws vs → Rep G k w v → RepL G k (ws.set n w) (vs.set n v)
  | [], vs, w, v, n, h, _ => by simp only [RepL] at h; subst h; simp [RepL]
  | w' :: ws, vs, w, v, 0, h, hv => by
    simp only [RepL] at h
    obtain ⟨v', r, rfl, h1, h2⟩ := h
    simp only [List.set_cons_zero, RepL]
    exact ⟨v, r, rfl, hv, h2⟩
  | w' :: ws, vs, w, v, n + 1, h, hv => by
    simp only [RepL] at h
    obtain ⟨v', r, rfl, h1, h2⟩ := h
    simp only [List.set_cons_succ, RepL]
    exact ⟨v', r.set n v, rfl, h1, RepL.set n h2 hv⟩
theorem RepL.reverse {G : Gx} {k : Ka} : ∀ {ws : List W} {vs : List V}, RepL G k ws vs → RepL G k ws.reverse vs.reverse
  | [], vs, h => by simp only [RepL] at h; subst h; simp [RepL]
  | w' :: ws, vs, h => by
    simp only [RepL] at h
    obtain ⟨v', r, rfl, h1, h2⟩ := h
    simp only [List.reverse_cons]
    exact RepL.append (RepL.reverse h2) (RepL.one h1)

/-- more frozen objects, more logical ones -/
structure Ka.Le (k k' : Ka) : Prop where
  F : ∀ a o, k.F a = some o → k'.F a = some o
  mu : k.mu <+: k'.mu
theorem Ka.Le.refl (k : Ka) : k.Le k := ⟨fun _ _ h => h, List.prefix_refl _⟩
theorem Ka.Le.trans {k k1 k2 : Ka} (a : k.Le k1) (b : k1.Le k2) : k.Le k2 := ⟨fun x o h => b.F x o (a.F x o h), a.mu.trans b.mu⟩
theorem Ka.Le.seqT {K : PySem.W.Frag} {F F' : Hp} (h : ∀ a o, F a = some o → F' a = some o) {p : Addr} {vs : List V} (q : SqT K F p vs) : SqT K F' p vs := by
  rcases q with (q | ⟨o, q⟩) | q
  · exact .inl (.inl (h _ _ q))
  · exact .inl (.inr ⟨o, h _ _ q⟩)
  · exact .inr q
theorem Ka.Le.seqL {K : PySem.W.Frag} {F F' : Hp} (h : ∀ a o, F a = some o → F' a = some o) {p : Addr} {vs : List V} (q : SqL K F p vs) : SqL K F' p vs := by
  rcases q with (q | ⟨o, q⟩) | q
  · exact .inl (.inl (h _ _ q))
  · exact .inl (.inr ⟨o, h _ _ q⟩)
  · exact .inr q
theorem prefix_get {α : Type} {l l' : List α} (h : l <+: l') {i : Nat} {x : α} (e : l[i]? = some x) : l'[i]? = some x := by
  obtain ⟨r, rfl⟩ := h
  rw [List.getElem?_append_left (List.getElem?_eq_some_iff.mp e).1]
  exact e

mutual
theorem Rep.mono {G : Gx} {k k' : Ka} (l : k.Le k') : ∀ {w : W} {v : V}, Rep G k w v → Rep G k' w v
  | .non, v, h => by simpa only [Rep] using h
  | .bl _, v, h => by simpa only [Rep] using h
  | .int _, v, h => by simpa only [Rep] using h
  | .str _, v, h => by simpa only [Rep] using h
  | .tup ws, v, h => by
    simp only [Rep] at h ⊢
    obtain ⟨p, vs, e, q, r⟩ := h
    exact ⟨p, vs, e, q.le l.F, RepL.mono l r⟩
  | .lst ws, v, h => by
    simp only [Rep] at h ⊢
    obtain ⟨p, vs, e, q, r⟩ := h
    exact ⟨p, vs, e, l.F _ _ q, RepL.mono l r⟩
  | .dct ks ws, v, h => by
    simp only [Rep] at h ⊢
    obtain ⟨p, kvs, e, q, e2, r⟩ := h
    exact ⟨p, kvs, e, l.F _ _ q, e2, RepL.mono l r⟩
  | .ins c fs ws, v, h => by
    simp only [Rep] at h ⊢
    obtain ⟨p, C, dx, fvs, e, e1, q, e2, r⟩ := h
    exact ⟨p, C, dx, fvs, e, e1, l.F _ _ q, e2, RepL.mono l r⟩
  | .ref a, v, h => by
    simp only [Rep] at h ⊢
    obtain ⟨p, e, q⟩ := h
    exact ⟨p, e, prefix_get l.mu q⟩
  | .scr ns, v, h => by
    simp only [Rep] at h ⊢
    obtain ⟨p, e, q⟩ := h
    exact ⟨p, e, Ka.Le.seqL l.F q⟩
  | .exn c fs ws, v, h => by
    simp only [Rep] at h ⊢
    obtain ⟨p, C, d, e, e1, z | ⟨dx, fvs, e3, q, e2, r⟩⟩ := h
    · exact ⟨p, C, d, e, e1, .inl z⟩
    · exact ⟨p, C, d, e, e1, .inr ⟨dx, fvs, e3, l.F _ _ q, e2, RepL.mono l r⟩⟩
theorem RepL.mono {G : Gx} {k k' : Ka} (l : k.Le k') : ∀ {ws : List W} {vs : List V}, RepL G k ws vs → RepL G k' ws vs
  | [], vs, h => by simpa only [RepL] using h
  | w :: ws, vs, h => by
    simp only [RepL] at h ⊢
    obtain ⟨v, r, e, h1, h2⟩ := h
    exact ⟨v, r, e, Rep.mono l h1, RepL.mono l h2⟩
end

/-- fewer logical objects: what names the elder ones alone stays -/
def Ka.cut (k : Ka) (n : Nat) : Ka := ⟨k.F, k.mu.take n⟩
mutual
theorem Rep.cut {G : Gx} {k : Ka} {n : Nat} : ∀ {w : W} {v : V}, Rep G k w v → w.lt n = true → Rep G (k.cut n) w v
  | .non, v, h, _ => by simpa only [Rep] using h
  | .bl _, v, h, _ => by simpa only [Rep] using h
  | .int _, v, h, _ => by simpa only [Rep] using h
  | .str _, v, h, _ => by simpa only [Rep] using h
  | .tup ws, v, h, c => by
    simp only [Rep] at h ⊢
    obtain ⟨p, vs, e, q, r⟩ := h
    exact ⟨p, vs, e, q, RepL.cut r (by simpa only [W.lt] using c)⟩
  | .lst ws, v, h, c => by
    simp only [Rep] at h ⊢
    obtain ⟨p, vs, e, q, r⟩ := h
    exact ⟨p, vs, e, q, RepL.cut r (by simpa only [W.lt] using c)⟩
  | .dct ks ws, v, h, c => by
    simp only [Rep] at h ⊢
    obtain ⟨p, kvs, e, q, e2, r⟩ := h
    simp only [W.lt, Bool.and_eq_true] at c
    exact ⟨p, kvs, e, q, e2, RepL.cut r c.2⟩
  | .ins c fs ws, v, h, l => by
    simp only [Rep] at h ⊢
    obtain ⟨p, C, dx, fvs, e, e1, q, e2, r⟩ := h
    exact ⟨p, C, dx, fvs, e, e1, q, e2, RepL.cut r (by simpa only [W.lt] using l)⟩
  | .ref a, v, h, c => by
    simp only [Rep] at h ⊢
    obtain ⟨p, e, q⟩ := h
    simp only [W.lt, decide_eq_true_eq] at c
    refine ⟨p, e, ?_⟩
    show (k.mu.take n)[a]? = some p
    rw [List.getElem?_take, if_pos c]; exact q
  | .scr ns, v, h, _ => by
    simp only [Rep] at h ⊢
    obtain ⟨p, e, q⟩ := h
    exact ⟨p, e, q⟩
  | .exn c fs ws, v, h, l => by
    simp only [Rep] at h ⊢
    obtain ⟨p, C, d, e, e1, z | ⟨dx, fvs, e3, q, e2, r⟩⟩ := h
    · exact ⟨p, C, d, e, e1, .inl z⟩
    · exact ⟨p, C, d, e, e1, .inr ⟨dx, fvs, e3, q, e2, RepL.cut r (by simpa only [W.lt] using l)⟩⟩
theorem RepL.cut {G : Gx} {k : Ka} {n : Nat} : ∀ {ws : List W} {vs : List V}, RepL G k ws vs → W.lts n ws = true → RepL G (k.cut n) ws vs
  | [], vs, h, _ => by simpa only [RepL] using h
  | w :: ws, vs, h, c => by
    simp only [RepL] at h ⊢
    simp only [W.lts, Bool.and_eq_true] at c
    obtain ⟨v, r, e, h1, h2⟩ := h
    exact ⟨v, r, e, Rep.cut h1 c.1, RepL.cut h2 c.2⟩
end
theorem keys_lt {n : Nat} : ∀ kvs : List (Key × V), W.lts n (kvs.map fun x => keyW x.1) = true
  | [] => by simp [W.lts]
  | (.inl i, v) :: r => by
    simp only [List.map_cons, W.lts, keys_lt r, Bool.and_true]; rfl
  | (.inr i, v) :: r => by
    simp only [List.map_cons, W.lts, keys_lt r, Bool.and_true]; rfl
mutual
theorem Rep.lt {G : Gx} {k : Ka} : ∀ {w : W} {v : V}, Rep G k w v → w.lt k.mu.length = true
  | .non, v, h => by simp [W.lt]
  | .bl _, v, h => by simp [W.lt]
  | .int _, v, h => by simp [W.lt]
  | .str _, v, h => by simp [W.lt]
  | .tup ws, v, h => by
    simp only [Rep] at h
    obtain ⟨p, vs, e, q, r⟩ := h
    simp only [W.lt]; exact RepL.lts r
  | .lst ws, v, h => by
    simp only [Rep] at h
    obtain ⟨p, vs, e, q, r⟩ := h
    simp only [W.lt]; exact RepL.lts r
  | .dct ks ws, v, h => by
    simp only [Rep] at h
    obtain ⟨p, kvs, e, q, e2, r⟩ := h
    simp only [W.lt, Bool.and_eq_true]
    exact ⟨by rw [e2]; exact keys_lt _, RepL.lts r⟩
  | .ins c fs ws, v, h => by
    simp only [Rep] at h
    obtain ⟨p, C, dx, fvs, e, e1, q, e2, r⟩ := h
    simp only [W.lt]; exact RepL.lts r
  | .ref a, v, h => by
    simp only [Rep] at h
    obtain ⟨p, e, q⟩ := h
    simp only [W.lt, decide_eq_true_eq]
    exact (List.getElem?_eq_some_iff.mp q).1
  | .scr ns, v, h => by simp [W.lt]
  | .exn c fs ws, v, h => by
    simp only [Rep] at h
    obtain ⟨p, C, d, e, e1, ⟨_, _, rfl⟩ | ⟨dx, fvs, e3, q, e2, r⟩⟩ := h
    · simp only [W.lt, W.lts]
    · simp only [W.lt]; exact RepL.lts r
theorem RepL.lts {G : Gx} {k : Ka} : ∀ {ws : List W} {vs : List V}, RepL G k ws vs → W.lts k.mu.length ws = true
  | [], vs, h => by simp [W.lts]
  | w :: ws, vs, h => by
    simp only [RepL] at h
    obtain ⟨v, r, e, h1, h2⟩ := h
    simp only [W.lts, Bool.and_eq_true]
    exact ⟨Rep.lt h1, RepL.lts h2⟩
end

/-! ### keys that are nested tuples -/
mutual
def nkW : W → Option NestedKey
  | .non => some .none
  | .bl b => some (.num (if b = true then 1 else 0))
  | .int i => some (.num i)
  | .str s => some (.text s)
  | .tup ws => (nkWs ws).map .tup
  | _ => none
def nkWs : List W → Option (List NestedKey)
  | [] => some []
  | w :: ws => match nkW w, nkWs ws with | some k, some ks => some (k :: ks) | _, _ => none
end
mutual
theorem nk_of {G : Gx} {k : Ka} {H : Hp} (sub : ∀ a o, k.F a = some o → H a = some o) : ∀ {w : W} {v : V} {n : NestedKey}, Rep G k w v → nkW w = some n → NkV G.K H n v
  | .non, v, n, r, e => by simp only [Rep] at r; simp only [nkW] at e; cases e; subst r; exact .non
  | .bl _, v, n, r, e => by simp only [Rep] at r; simp only [nkW] at e; cases e; subst r; exact .bl _
  | .int _, v, n, r, e => by simp only [Rep] at r; simp only [nkW] at e; cases e; subst r; exact .int _
  | .str _, v, n, r, e => by simp only [Rep] at r; simp only [nkW] at e; cases e; subst r; exact .str _
  | .tup ws, v, n, r, e => by
    simp only [Rep] at r
    obtain ⟨p, vs, rfl, q, r⟩ := r
    simp only [nkW] at e
    obtain ⟨ns, e1, rfl⟩ := Option.map_eq_some_iff.mp e
    exact .tup (Ka.Le.seqT sub q.sq) (nks_of sub r e1)
  | .lst _, v, n, r, e => by simp [nkW] at e
  | .dct _ _, v, n, r, e => by simp [nkW] at e
  | .ins _ _ _, v, n, r, e => by simp [nkW] at e
  | .ref _, v, n, r, e => by simp [nkW] at e
  | .scr _, v, n, r, e => by simp [nkW] at e
  | .exn _ _ _, v, n, r, e => by simp [nkW] at e
theorem nks_of {G : Gx} {k : Ka} {H : Hp} (sub : ∀ a o, k.F a = some o → H a = some o) : ∀ {ws : List W} {vs : List V} {ns : List NestedKey}, RepL G k ws vs → nkWs ws = some ns → NkVs G.K H ns vs
  | [], vs, ns, r, e => by simp only [RepL] at r; simp only [nkWs] at e; cases e; subst r; exact .nil
  | w :: ws, vs, ns, r, e => by
    simp only [RepL] at r
    obtain ⟨v, vs', rfl, r1, r2⟩ := r
    simp only [nkWs] at e
    split at e
    · rename_i e1 e2
      cases e
      exact .cons (nk_of sub r1 e1) (nks_of sub r2 e2)
    · cases e
end
/-- the pairs of such a dict -/
def TdR (G : Gx) (k : Ka) : List W → List W → List (NestedKey × Addr × V) → Prop
  | [], ws, xs => ws = [] ∧ xs = []
  | y :: ks, ws, xs => ∃ w us n b v r, ws = w :: us ∧ xs = (n, b, v) :: r ∧ nkW y = some n ∧ n.depth ≤ 8 ∧ Rep G k y (.ref b) ∧ Rep G k w v ∧ TdR G k ks us r
theorem TdR.mono {G : Gx} {k k' : Ka} (l : k.Le k') : ∀ {ks ws : List W} {xs : List (NestedKey × Addr × V)}, TdR G k ks ws xs → TdR G k' ks ws xs
  | [], ws, xs, h => h
  | y :: ks, ws, xs, h => by
    obtain ⟨w, us, n, b, v, r, e1, e2, e3, e4, r1, r2, t⟩ := h
    exact ⟨w, us, n, b, v, r, e1, e2, e3, e4, r1.mono l, r2.mono l, t.mono l⟩
theorem TdR.cut {G : Gx} {k : Ka} {n : Nat} : ∀ {ks ws : List W} {xs : List (NestedKey × Addr × V)}, TdR G k ks ws xs → W.lts n ks = true → W.lts n ws = true → TdR G (k.cut n) ks ws xs
  | [], ws, xs, h, _, _ => h
  | y :: ks, ws, xs, h, c1, c2 => by
    obtain ⟨w, us, m, b, v, r, rfl, e2, e3, e4, r1, r2, t⟩ := h
    simp only [W.lts, Bool.and_eq_true] at c1 c2
    exact ⟨w, us, m, b, v, r, rfl, e2, e3, e4, r1.cut c1.1, r2.cut c2.1, t.cut c1.2 c2.2⟩
theorem TdR.lt {G : Gx} {k : Ka} : ∀ {ks ws : List W} {xs : List (NestedKey × Addr × V)}, TdR G k ks ws xs → W.lts k.mu.length ks = true ∧ W.lts k.mu.length ws = true
  | [], ws, xs, h => by
    obtain ⟨rfl, rfl⟩ := h
    simp [W.lts]
  | y :: ks, ws, xs, h => by
    obtain ⟨w, us, m, b, v, r, rfl, e2, e3, e4, r1, r2, t⟩ := h
    simp only [W.lts, Bool.and_eq_true]
    exact ⟨⟨r1.lt, t.lt.1⟩, ⟨r2.lt, t.lt.2⟩⟩
theorem TdR.all {G : Gx} {k : Ka} {H : Hp} (sub : ∀ a o, k.F a = some o → H a = some o) : ∀ {ks ws : List W} {xs : List (NestedKey × Addr × V)}, TdR G k ks ws xs → NkAll G.K H xs
  | [], ws, xs, h => by
    obtain ⟨rfl, rfl⟩ := h
    exact fun x hx => nomatch hx
  | y :: ks, ws, xs, h => by
    obtain ⟨w, us, m, b, v, r, rfl, rfl, e3, e4, r1, r2, t⟩ := h
    intro x hx
    rcases List.mem_cons.mp hx with rfl | hx
    · exact ⟨nk_of sub r1 e3, e4⟩
    · exact t.all sub x hx
theorem TdR.length {G : Gx} {k : Ka} : ∀ {ks ws : List W} {xs : List (NestedKey × Addr × V)}, TdR G k ks ws xs → xs.length = ks.length
  | [], ws, xs, h => by
    obtain ⟨rfl, rfl⟩ := h
    rfl
  | y :: ks, ws, xs, h => by
    obtain ⟨w, us, m, b, v, r, rfl, rfl, e3, e4, r1, r2, t⟩ := h
    simp [t.length]
/-- what stands at a key -/
def getT (n : NestedKey) : List W → List W → Option W
  | y :: ks, w :: ws => if nkW y = some n then some w else getT n ks ws
  | _, _ => none
def putT (n : NestedKey) (y w : W) : List W → List W → List W × List W
  | z :: ks, u :: ws => if nkW z = some n then (z :: ks, w :: ws) else let r := putT n y w ks ws; (z :: r.1, u :: r.2)
  | _, _ => ([y], [w])
theorem TdR.get {G : Gx} {k : Ka} {n : NestedKey} : ∀ {ks ws : List W} {xs : List (NestedKey × Addr × V)}, TdR G k ks ws xs → (getT n ks ws = none ∧ getN xs n = none) ∨ ∃ w v, getT n ks ws = some w ∧ getN xs n = some v ∧ Rep G k w v
  | [], ws, xs, h => by
    obtain ⟨rfl, rfl⟩ := h
    exact .inl ⟨rfl, rfl⟩
  | y :: ks, ws, xs, h => by
    obtain ⟨w, us, m, b, v, r, rfl, rfl, e3, e4, r1, r2, t⟩ := h
    unfold getT
    by_cases z : m = n
    · subst z
      exact .inr ⟨w, v, by rw [if_pos e3], by simp [getN], r2⟩
    · rw [if_neg (by rw [e3]; simpa using z)]
      have q : getN ((m, b, v) :: r) n = getN r n := by simp [getN, z]
      rw [q]
      exact t.get
theorem getN_cons {m n : NestedKey} {b : Addr} {v : V} {r : List (NestedKey × Addr × V)} (z : ¬ m = n) : getN ((m, b, v) :: r) n = getN r n := by simp [getN, z]
theorem getN_none {n : NestedKey} : ∀ {xs : List (NestedKey × Addr × V)}, getN xs n = none → n ∉ xs.map (·.1)
  | [], _, hm => nomatch hm
  | (m, b, v) :: r, h, hm => by
    by_cases z : m = n
    · subst z; simp [getN] at h
    · rw [getN_cons z] at h
      rcases List.mem_cons.mp hm with e | e
      · exact z e.symm
      · exact getN_none h e
theorem putN_keys {n : NestedKey} {b : Addr} {v : V} {xs : List (NestedKey × Addr × V)} (nd : (xs.map (·.1)).Nodup) : ((putN xs n b v).map (·.1)).Nodup := by
  unfold putN
  split
  · have e : (xs.map fun x => if x.1 = n then (x.1, x.2.1, v) else x).map (·.1) = xs.map (·.1) := by
      rw [List.map_map]
      refine List.map_congr_left fun x _ => ?_
      by_cases z : x.1 = n <;> simp [z]
    rw [e]; exact nd
  · rename_i h
    rw [List.map_append]
    refine List.nodup_append.mpr ⟨nd, by simp, fun a ha c hc => ?_⟩
    simp at hc; subst hc
    intro z; subst z
    exact getN_none (by simpa using h) ha
theorem TdR.put {G : Gx} {k : Ka} {n : NestedKey} {y w : W} {b : Addr} {v : V} (hy : nkW y = some n) (hd : n.depth ≤ 8) (ry : Rep G k y (.ref b)) (rw' : Rep G k w v) : ∀ {ks ws : List W} {xs : List (NestedKey × Addr × V)}, TdR G k ks ws xs → (xs.map (·.1)).Nodup →
    TdR G k (putT n y w ks ws).1 (putT n y w ks ws).2 (putN xs n b v)
  | [], ws, xs, h, _ => by
    obtain ⟨rfl, rfl⟩ := h
    exact ⟨w, [], n, b, v, [], rfl, rfl, hy, hd, ry, rw', rfl, rfl⟩
  | z :: ks, ws, xs, h, nd => by
    obtain ⟨u, us, m, b0, v0, r, rfl, rfl, e3, e4, r1, r2, t⟩ := h
    rw [List.map_cons, List.nodup_cons] at nd
    unfold putT
    by_cases q : m = n
    · subst q
      rw [if_pos e3]
      have e : putN ((m, b0, v0) :: r) m b v = (m, b0, v) :: r := by
        unfold putN
        rw [if_pos (by simp [getN])]
        rw [List.map_cons, if_pos rfl]
        congr 1
        conv => rhs; rw [← List.map_id r]
        refine List.map_congr_left fun x hx => ?_
        rw [if_neg fun z => nd.1 (List.mem_map.mpr ⟨x, hx, z⟩)]; rfl
      rw [e]
      exact ⟨w, us, m, b0, v, r, rfl, rfl, e3, e4, r1, rw', t⟩
    · rw [if_neg (by rw [e3]; simpa using q)]
      have e : putN ((m, b0, v0) :: r) n b v = (m, b0, v0) :: putN r n b v := by
        unfold putN
        rw [getN_cons q]
        split
        · rw [List.map_cons, if_neg q]
        · rfl
      rw [e]
      exact ⟨u, _, m, b0, v0, _, rfl, rfl, e3, e4, r1, r2, t.put hy hd ry rw' nd.2⟩

/-! ### the heap -/
def ORep (G : Gx) (k : Ka) (H : Hp) (p : Addr) : Ob → Prop
  | .lst ws => ∃ vs, H p = some (.lst vs) ∧ RepL G k ws vs
  | .dct ks ws => ∃ kvs, H p = some (.dK kvs) ∧ (kvs.map (·.1)).Nodup ∧ ks = kvs.map (fun x => keyW x.1) ∧ RepL G k ws (kvs.map (·.2))
  | .ins c fs ws => ∃ C dx fvs, (G.cl c = some C ∧ fs.all (G.lay c) = true) ∧ H p = some (.ins C dx fvs) ∧ fvs.map (·.1) = fs.map G.fn ∧ RepL G k ws (fvs.map (·.2))
  | .td ks ws => ∃ xs, H p = some (dnH G.P G.w p xs) ∧ (xs.map (·.1)).Nodup ∧ TdR G k ks ws xs
  | .exo c fs ws => ∃ C d, G.cl c = some C ∧ H p = some (L2.exo p C d) ∧ ((d = none ∧ fs = [] ∧ ws = []) ∨ ∃ dx fvs, d = some dx ∧ k.F dx = some (L2.exd dx fvs) ∧ fvs.map (·.1) = fs.map G.fn ∧ RepL G k ws (fvs.map (·.2)))
  | .dead => True
theorem ORep.mono {G : Gx} {k k' : Ka} {H H' : Hp} {p : Addr} (l : k.Le k') (e : H' p = H p) : ∀ {o : Ob}, ORep G k H p o → ORep G k' H' p o
  | .lst ws, ⟨vs, q, r⟩ => ⟨vs, e.trans q, r.mono l⟩
  | .dct ks ws, ⟨kvs, q, nd, e2, r⟩ => ⟨kvs, e.trans q, nd, e2, r.mono l⟩
  | .ins c fs ws, ⟨C, dx, fvs, e1, q, e2, r⟩ => ⟨C, dx, fvs, e1, e.trans q, e2, r.mono l⟩
  | .td ks ws, ⟨xs, q, nd, r⟩ => ⟨xs, e.trans q, nd, r.mono l⟩
  | .exo c fs ws, ⟨C, d, e1, q, z⟩ => ⟨C, d, e1, e.trans q, z.imp id fun ⟨dx, fvs, a, b, c, r⟩ => ⟨dx, fvs, a, l.F _ _ b, c, r.mono l⟩⟩
  | .dead, _ => trivial
theorem ORep.cut {G : Gx} {k : Ka} {H : Hp} {p : Addr} {n : Nat} : ∀ {o : Ob}, ORep G k H p o → o.lt n = true → ORep G (k.cut n) H p o
  | .lst ws, ⟨vs, q, r⟩, c => ⟨vs, q, r.cut c⟩
  | .dct ks ws, ⟨kvs, q, nd, e2, r⟩, c => ⟨kvs, q, nd, e2, r.cut (by simp only [Ob.lt, Bool.and_eq_true] at c; exact c.2)⟩
  | .ins c fs ws, ⟨C, dx, fvs, e1, q, e2, r⟩, l => ⟨C, dx, fvs, e1, q, e2, r.cut l⟩
  | .td ks ws, ⟨xs, q, nd, r⟩, c => ⟨xs, q, nd, by simp only [Ob.lt, Bool.and_eq_true] at c; exact r.cut c.1 c.2⟩
  | .exo c fs ws, ⟨C, d, e1, q, z⟩, l => ⟨C, d, e1, q, z.imp id fun ⟨dx, fvs, a, b, c, r⟩ => ⟨dx, fvs, a, b, c, r.cut l⟩⟩
  | .dead, _, _ => trivial
theorem ORep.lt {G : Gx} {k : Ka} {H : Hp} {p : Addr} : ∀ {o : Ob}, ORep G k H p o → o.lt k.mu.length = true
  | .lst ws, ⟨vs, q, r⟩ => r.lts
  | .dct ks ws, ⟨kvs, q, nd, e2, r⟩ => by simp only [Ob.lt, Bool.and_eq_true]; exact ⟨by rw [e2]; exact keys_lt _, r.lts⟩
  | .ins c fs ws, ⟨C, dx, fvs, e1, q, e2, r⟩ => r.lts
  | .td ks ws, ⟨xs, q, nd, r⟩ => by simp only [Ob.lt, Bool.and_eq_true]; exact r.lt
  | .exo c fs ws, ⟨C, d, e1, q, z⟩ => by
    rcases z with ⟨_, _, rfl⟩ | ⟨dx, fvs, _, _, _, r⟩
    · rfl
    · exact r.lts
  | .dead, _ => rfl

structure HRep (G : Gx) (k : Ka) (H : Hp) (h : WH) : Prop where
  sub : ∀ a o, k.F a = some o → H a = some o
  len : k.mu.length = h.length
  nd : k.mu.Nodup
  trk : ∀ a ∈ k.mu, H a ≠ none
  ob : ∀ (i : Nat) o p, h[i]? = some o → k.mu[i]? = some p → ORep G k H p o ∧ (o ≠ .dead → k.F p = none ∧ Mut (H p))

/-- from one state to a later one -/
structure Nxt (k : Ka) (H : Hp) (k' : Ka) (H' : Hp) : Prop where
  le : k.Le k'
  oth : ∀ a, H a ≠ none → a ∉ k.mu → H' a = H a
  fro : ∀ a o, k'.F a = some o → k.F a = some o ∨ H a = none ∨ a ∈ k.mu
  new : ∀ a ∈ k'.mu, a ∈ k.mu ∨ H a = none
  trk : ∀ a, H a ≠ none → H' a ≠ none
theorem Nxt.refl (k : Ka) (H : Hp) : Nxt k H k H := ⟨.refl k, fun _ _ _ => rfl, fun _ _ h => .inl h, fun _ h => .inl h, fun _ h => h⟩
theorem Nxt.trans {k k1 k2 : Ka} {H H1 H2 : Hp} (a : Nxt k H k1 H1) (b : Nxt k1 H1 k2 H2) : Nxt k H k2 H2 where
  le := a.le.trans b.le
  oth := fun x hx nx => by
    have h1 : x ∉ k1.mu := fun hm => (a.new x hm).elim nx hx
    rw [b.oth x (a.trk x hx) h1, a.oth x hx nx]
  fro := fun x o hx => by
    rcases b.fro x o hx with h | h | h
    · exact a.fro x o h
    · exact .inr (.inl (Classical.byContradiction fun c => a.trk x c h))
    · rcases a.new x h with h | h
      · exact .inr (.inr h)
      · exact .inr (.inl h)
  new := fun x hx => by
    rcases b.new x hx with h | h
    · exact a.new x h
    · exact .inr (Classical.byContradiction fun c => a.trk x c h)
  trk := fun x hx => b.trk x (a.trk x hx)

/-- a new object, tracked, frozen -/
def Ka.froz (k : Ka) (p : Addr) (o : HO) : Ka := ⟨upd k.F p o, k.mu⟩
def Ka.more (k : Ka) (p : Addr) : Ka := ⟨k.F, k.mu ++ [p]⟩
section
variable {G : Gx} {k : Ka} {H : Hp} {h : WH} {p : Addr} {o : HO}
theorem HRep.noF (x : HRep G k H h) (hp : H p = none) : k.F p = none := by
  cases e : k.F p with
  | none => rfl
  | some o => rw [x.sub p o e] at hp; cases hp
theorem HRep.noMu (x : HRep G k H h) (hp : H p = none) : p ∉ k.mu := fun hm => x.trk p hm hp
theorem le_froz (hp : k.F p = none) : k.Le (k.froz p o) := ⟨fun a u e => by
  show upd k.F p o a = some u
  rw [upd_ne (fun z => by rw [z, hp] at e; cases e)]; exact e, List.prefix_refl _⟩
theorem le_more : k.Le (k.more p) := ⟨fun _ _ e => e, List.prefix_append _ _⟩
theorem HRep.froz (x : HRep G k H h) (hp : H p = none) : HRep G (k.froz p o) (upd H p o) h where
  sub := fun a u e => by
    by_cases z : a = p
    · subst z
      have e' : upd k.F a o a = some u := e
      rw [upd_same] at e' ⊢; exact e'
    · have e' : upd k.F p o a = some u := e
      rw [upd_ne z] at e' ⊢; exact x.sub a u e'
  len := x.len
  nd := x.nd
  trk := fun a ha => by
    have z : a ≠ p := fun z => x.noMu hp (by rw [← z]; exact ha)
    rw [upd_ne z]; exact x.trk a ha
  ob := fun i u q e1 e2 => by
    obtain ⟨r, n⟩ := x.ob i u q e1 e2
    have z : q ≠ p := fun z => x.noMu hp (z ▸ List.mem_of_getElem? e2)
    refine ⟨r.mono (le_froz (x.noF hp)) (upd_ne z), fun d => ?_⟩
    obtain ⟨n1, n2⟩ := n d
    exact ⟨(upd_ne z).trans n1, by rw [upd_ne z]; exact n2⟩
theorem Nxt.froz (x : HRep G k H h) (hp : H p = none) : Nxt k H (k.froz p o) (upd H p o) where
  le := le_froz (x.noF hp)
  oth := fun a ha _ => upd_ne fun z => ha (z ▸ hp)
  fro := fun a u e => by
    by_cases z : a = p
    · subst z; exact .inr (.inl hp)
    · have e' : upd k.F p o a = some u := e
      rw [upd_ne z] at e'; exact .inl e'
  new := fun a ha => .inl ha
  trk := fun a ha => by
    have z : a ≠ p := fun z => ha (by rw [z]; exact hp)
    rw [upd_ne z]; exact ha
theorem HRep.more {ob : Ob} (x : HRep G k H h) (hp : H p = none) (r : ORep G (k.more p) (upd H p o) p ob) (m : Mut (some o)) : HRep G (k.more p) (upd H p o) (h ++ [ob]) where
  sub := fun a u e => by
    have z : a ≠ p := fun z => by
      have := x.sub a u e
      rw [z, hp] at this; cases this
    rw [upd_ne z]; exact x.sub a u e
  len := by show (k.mu ++ [p]).length = _; simp [x.len]
  nd := by
    show (k.mu ++ [p]).Nodup
    rw [List.nodup_append]
    refine ⟨x.nd, by simp, fun a ha b hb => ?_⟩
    simp at hb; subst hb
    exact fun z => x.noMu hp (z ▸ ha)
  trk := fun a ha => by
    have ha' : a ∈ k.mu ++ [p] := ha
    rcases List.mem_append.mp ha' with ha | ha
    · have z : a ≠ p := fun z => x.noMu hp (by rw [← z]; exact ha)
      rw [upd_ne z]; exact x.trk a ha
    · simp at ha; subst ha; rw [upd_same]; simp
  ob := fun i u q e1 e2 => by
    have e2' : (k.mu ++ [p])[i]? = some q := e2
    by_cases hi : i < h.length
    · rw [List.getElem?_append_left hi] at e1
      rw [List.getElem?_append_left (by rw [x.len]; exact hi)] at e2'
      obtain ⟨r', n⟩ := x.ob i u q e1 e2'
      have z : q ≠ p := fun z => x.noMu hp (z ▸ List.mem_of_getElem? e2')
      refine ⟨r'.mono le_more (upd_ne z), fun d => ?_⟩
      obtain ⟨n1, n2⟩ := n d
      exact ⟨n1, by rw [upd_ne z]; exact n2⟩
    · rw [List.getElem?_append_right (by omega)] at e1
      rw [List.getElem?_append_right (by rw [x.len]; omega)] at e2'
      have hi0 : i - h.length = 0 := by
        have := (List.getElem?_eq_some_iff.mp e1).1
        simp at this; omega
      rw [hi0] at e1
      rw [x.len, hi0] at e2'
      simp at e1 e2'
      subst e1; subst e2'
      exact ⟨r, fun _ => ⟨x.noF hp, by rw [upd_same]; exact m⟩⟩
theorem Nxt.more (x : HRep G k H h) (hp : H p = none) : Nxt k H (k.more p) (upd H p o) where
  le := le_more
  oth := fun a ha _ => upd_ne fun z => ha (z ▸ hp)
  fro := fun a u e => .inl e
  new := fun a ha => by
    have ha' : a ∈ k.mu ++ [p] := ha
    rcases List.mem_append.mp ha' with ha | ha
    · exact .inl ha
    · simp at ha; subst ha; exact .inr hp
  trk := fun a ha => by
    have z : a ≠ p := fun z => ha (by rw [z]; exact hp)
    rw [upd_ne z]; exact ha
/-- a logical object is written -/
theorem HRep.put {i : Nat} {ob' : Ob} (x : HRep G k H h) (e2 : k.mu[i]? = some p) (hF : k.F p = none) (r : ORep G k (upd H p o) p ob') (m : Mut (some o)) : HRep G k (upd H p o) (h.set i ob') where
  sub := fun a u e => by
    have z : a ≠ p := fun z => by rw [z, hF] at e; cases e
    rw [upd_ne z]; exact x.sub a u e
  len := by rw [List.length_set]; exact x.len
  nd := x.nd
  trk := fun a ha => by
    by_cases z : a = p
    · rw [z, upd_same]; simp
    · rw [upd_ne z]; exact x.trk a ha
  ob := fun j u q e1 e3 => by
    by_cases hj : i = j
    · subst hj
      rw [e2] at e3; cases e3
      rw [List.getElem?_set_self (by rw [← x.len]; exact (List.getElem?_eq_some_iff.mp e2).1)] at e1
      cases e1
      exact ⟨r, fun _ => ⟨hF, by rw [upd_same]; exact m⟩⟩
    · rw [List.getElem?_set_ne hj] at e1
      obtain ⟨r', n⟩ := x.ob j u q e1 e3
      have z : q ≠ p := fun z => hj (nd_ix x.nd (z ▸ e2) e3)
      refine ⟨r'.mono (.refl k) (upd_ne z), fun d => ?_⟩
      obtain ⟨n1, n2⟩ := n d
      exact ⟨n1, by rw [upd_ne z]; exact n2⟩
theorem Nxt.put {i : Nat} (x : HRep G k H h) (e2 : k.mu[i]? = some p) : Nxt k H k (upd H p o) where
  le := .refl k
  oth := fun a ha na => upd_ne fun z => na (z ▸ List.mem_of_getElem? e2)
  fro := fun a u e => .inl e
  new := fun a ha => .inl ha
  trk := fun a ha => by
    by_cases z : a = p
    · rw [z, upd_same]; simp
    · rw [upd_ne z]; exact ha
end

/-- what a call leaves of the heap: the new objects go, where nothing names them -/
def gc (n : Nat) (w : W) (h : WH) (h' : WH) : WH :=
  if w.lt n && ((List.range n).all fun i => decide (h'[i]? = h[i]?) || (match h'[i]? with | some o => o.lt n | none => true)) then h'.take n else h'
theorem HRep.gc {G : Gx} {k k' : Ka} {H H' : Hp} {h h' : WH} {w : W} {v : V} (x : HRep G k H h) (y : HRep G k' H' h') (n : Nxt k H k' H') (r : Rep G k' w v) :
    ∃ k2, Nxt k H k2 H' ∧ HRep G k2 H' (gc h.length w h h') ∧ Rep G k2 w v := by
  unfold KW.gc
  split
  · rename_i c
    simp only [Bool.and_eq_true, List.all_eq_true, List.mem_range, Bool.or_eq_true, decide_eq_true_eq] at c
    obtain ⟨c1, c2⟩ := c
    have em : k'.mu.take h.length = k.mu := by
      obtain ⟨t, ht⟩ := n.le.mu
      rw [← ht, ← x.len]; simp
    have lh : h.length ≤ h'.length := by
      rw [← x.len, ← y.len]
      exact n.le.mu.length_le
    refine ⟨k'.cut h.length, ⟨⟨n.le.F, by show k.mu <+: k'.mu.take h.length; rw [em]; exact List.prefix_refl _⟩, n.oth, n.fro, fun a ha => ?_, n.trk⟩, ⟨y.sub, ?_, ?_, fun a ha => ?_, fun i o p e1 e2 => ?_⟩, r.cut c1⟩
    · have ha' : a ∈ k'.mu.take h.length := ha
      rw [em] at ha'; exact .inl ha'
    · show (k'.mu.take h.length).length = _
      rw [em, List.length_take, x.len]; omega
    · show (k'.mu.take h.length).Nodup
      rw [em]; exact x.nd
    · have ha' : a ∈ k'.mu.take h.length := ha
      rw [em] at ha'; exact n.trk a (x.trk a ha')
    · have e2' : (k'.mu.take h.length)[i]? = some p := e2
      have hi : i < h.length := by
        have := (List.getElem?_eq_some_iff.mp e1).1
        rw [List.length_take] at this; omega
      rw [List.getElem?_take, if_pos hi] at e1 e2'
      obtain ⟨r', d⟩ := y.ob i o p e1 e2'
      refine ⟨r'.cut ?_, d⟩
      rcases c2 i hi with q | q
      · rw [e1] at q
        obtain ⟨p0, hp0⟩ : ∃ p0, k.mu[i]? = some p0 := ⟨_, List.getElem?_eq_getElem (by rw [x.len]; exact hi)⟩
        have := (x.ob i o p0 q.symm hp0).1.lt
        rwa [x.len] at this
      · rw [e1] at q; exact q
  · exact ⟨k', n, y, r⟩

end KW

set_option Elab.async false
set_option linter.all false
set_option maxRecDepth 100000
set_option maxHeartbeats 4000000
/-! readings by results: what a piece of code gives, said of values -/
namespace KW
open PySem L2

/-- slots -/
def SRep (G : Gx) (k : Ka) (sw : WS) (σ : St) : Prop := sw.length = σ.length ∧ ∀ (i : Nat) w, sw[i]? = some (some w) → ∃ v, σ[i]? = some (some v) ∧ Rep G k w v
theorem SRep.mono {G : Gx} {k k' : Ka} {sw : WS} {σ : St} (l : k.Le k') (h : SRep G k sw σ) : SRep G k' sw σ :=
  ⟨h.1, fun i w e => let ⟨v, e1, r⟩ := h.2 i w e; ⟨v, e1, r.mono l⟩⟩
theorem SRep.set {G : Gx} {k : Ka} {sw : WS} {σ : St} {w : W} {v : V} (i : Nat) (h : SRep G k sw σ) (r : Rep G k w v) : SRep G k (sw.set i (some w)) (σ.set i (some v)) := by
  refine ⟨by rw [List.length_set, List.length_set]; exact h.1, fun j u e => ?_⟩
  by_cases hj : i = j
  · subst hj
    by_cases hl : i < sw.length
    · rw [List.getElem?_set_self hl] at e
      cases e
      exact ⟨v, List.getElem?_set_self (by rw [← h.1]; exact hl), r⟩
    · rw [List.getElem?_eq_none (by simpa using hl)] at e; cases e
  · rw [List.getElem?_set_ne hj] at e
    obtain ⟨v', e1, r'⟩ := h.2 j u e
    exact ⟨v', by rw [List.getElem?_set_ne hj]; exact e1, r'⟩
theorem SRep.drop {G : Gx} {k : Ka} {sw : WS} {σ : St} (i : Nat) (h : SRep G k sw σ) : SRep G k (sw.set i none) σ := by
  refine ⟨by rw [List.length_set]; exact h.1, fun j u e => ?_⟩
  by_cases hj : i = j
  · subst hj
    by_cases hl : i < sw.length
    · rw [List.getElem?_set_self hl] at e; cases e
    · rw [List.getElem?_eq_none (by simpa using hl)] at e; cases e
  · rw [List.getElem?_set_ne hj] at e
    exact h.2 j u e
theorem SRep.unset {G : Gx} {k : Ka} {sw : WS} {σ : St} (i : Nat) (h : SRep G k sw σ) : SRep G k (sw.set i none) (σ.set i none) := by
  refine ⟨by rw [List.length_set, List.length_set]; exact h.1, fun j u e => ?_⟩
  by_cases hj : i = j
  · subst hj
    by_cases hl : i < sw.length
    · rw [List.getElem?_set_self hl] at e; cases e
    · rw [List.getElem?_eq_none (by simpa using hl)] at e; cases e
  · rw [List.getElem?_set_ne hj] at e
    obtain ⟨v', e1, r'⟩ := h.2 j u e
    exact ⟨v', by rw [List.getElem?_set_ne hj]; exact e1, r'⟩

/-- an exception as it flies -/
def XRep (G : Gx) (k : Ka) (H : Hp) (c : Nat) (fs : List Nat) (ws : List W) (C : Addr) (d : Option Addr) : Prop :=
  G.cl c = some C ∧ match d with
    | none => fs = [] ∧ ws = []
    | some dx => ∃ fvs, H dx = some (.xd fvs) ∧ fvs.map (·.1) = fs.map G.fn ∧ RepL G k ws (fvs.map (·.2))

/-- what stands at an exception is new -/
def Nw (H : Hp) (d : Option Addr) : Prop := ∀ dx, d = some dx → H dx = none
theorem Nw.back {k k1 : Ka} {H H1 : Hp} {d : Option Addr} (z : Nw H1 d) (n : Nxt k H k1 H1) : Nw H d := fun dx e => by
  cases q : H dx with
  | none => rfl
  | some o => exact absurd (z dx e) (n.trk dx (by rw [q]; exact fun y => nomatch y))
section
variable {α β : Type}
/-- what a result promises -/
def Den (G : Gx) (rp : Ka → α → β → Prop) (wx : WX) (k : Ka) (H : Hp) (σ : St) (r : R α) (Q : β → Hp → Prop) : Prop := match r with
  | .ok w h' => ∀ v k' H', Nxt k H k' H' → HRep G k' H' h' → rp k' w v → Q v H'
  | .exc c fs vs h' => ∀ C d k' H', Nxt k H k' H' → HRep G k' H' h' → XRep G k' H' c fs vs C d → Nw H d → wx (.ref C) d σ H'
  | .no => False
theorem Den.imp {G : Gx} {rp : Ka → α → β → Prop} {wx : WX} {k : Ka} {H : Hp} {σ : St} {r : R α} {Q Q' : β → Hp → Prop} (h : Den G rp wx k H σ r Q) (hQ : ∀ v H', Q v H' → Q' v H') : Den G rp wx k H σ r Q' := by
  cases r with
  | ok w h' => exact fun v k' H' n x r => hQ v H' (h v k' H' n x r)
  | exc c fs vs h' => exact h
  | no => exact h
/-- one thing after another -/
theorem Den.bind {γ δ : Type} {G : Gx} {rp : Ka → α → β → Prop} {rq : Ka → γ → δ → Prop} {wx : WX} {k : Ka} {H : Hp} {σ : St} {r : R α} {f : α → WH → R γ} {Q : δ → Hp → Prop} (h : Den G rq wx k H σ (r.bind f) Q) :
    Den G rp wx k H σ r fun v H' => ∃ k' w h', Nxt k H k' H' ∧ HRep G k' H' h' ∧ rp k' w v ∧ Den G rq wx k' H' σ (f w h') Q := by
  cases r with
  | ok w h' =>
    refine fun v k' H' n x r => ⟨k', w, h', n, x, r, ?_⟩
    have h1 : Den G rq wx k H σ (f w h') Q := h
    cases e : f w h' with
    | ok w2 h2 =>
      rw [e] at h1
      exact fun v2 k2 H2 n2 x2 r2 => h1 v2 k2 H2 (n.trans n2) x2 r2
    | exc c fs vs h2 =>
      rw [e] at h1
      exact fun C d k2 H2 n2 x2 r2 fr => h1 C d k2 H2 (n.trans n2) x2 r2 (fr.back n)
    | no => rw [e] at h1; exact h1
  | exc c fs vs h' => exact h
  | no => exact h
end

abbrev EV := WS → WH → R W
abbrev EA := WS → WH → R (List W)
abbrev EB := WS → WH → R Bool
/-- readings of expressions, of arguments, of tests -/
def TEx (G : Gx) (wx : WX) (ev : EV) : TE := fun σ H Q => ∃ k sw h, SRep G k sw σ ∧ HRep G k H h ∧ Den G (Rep G) wx k H σ (ev sw h) Q
def TAx (G : Gx) (wx : WX) (ev : EA) : TA := fun σ H Q => ∃ k sw h, SRep G k sw σ ∧ HRep G k H h ∧ Den G (RepL G) wx k H σ (ev sw h) Q
def TTx (G : Gx) (wx : WX) (ev : EB) : TT := fun σ H Q => ∃ k sw h, SRep G k sw σ ∧ HRep G k H h ∧ Den G (fun _ a b => a = b) wx k H σ (ev sw h) Q

inductive Fl where
  | next (s : WS) | ret (w : W) | brk (s : WS) | cont (s : WS)
inductive RS where
  | ok (f : Fl) (h : WH)
  | exc (s : WS) (c : Nat) (fs : List Nat) (vs : List W) (h : WH)
  | no
abbrev EW := WS → WH → RS
def DenS (G : Gx) (wx : WX) (k : Ka) (H : Hp) (r : RS) (D : Ends) : Prop := match r with
  | .ok (.next s') h' => ∀ σ' k' H', Nxt k H k' H' → HRep G k' H' h' → SRep G k' s' σ' → D.nx σ' H'
  | .ok (.brk s') h' => ∀ σ' k' H', Nxt k H k' H' → HRep G k' H' h' → SRep G k' s' σ' → D.bk σ' H'
  | .ok (.cont s') h' => ∀ σ' k' H', Nxt k H k' H' → HRep G k' H' h' → SRep G k' s' σ' → D.ct σ' H'
  | .ok (.ret w) h' => ∀ v k' H', Nxt k H k' H' → HRep G k' H' h' → Rep G k' w v → D.rt v H'
  | .exc s' c fs vs h' => ∀ σ' C d k' H', Nxt k H k' H' → HRep G k' H' h' → SRep G k' s' σ' → XRep G k' H' c fs vs C d → Nw H d → wx (.ref C) d σ' H'
  | .no => False
def TSx (G : Gx) (wx : WX) (ev : EW) : TS := fun D σ H => ∃ k sw h, SRep G k sw σ ∧ HRep G k H h ∧ DenS G wx k H (ev sw h) D
theorem DenS.nxt {G : Gx} {wx : WX} {k k1 : Ka} {H H1 : Hp} {r : RS} {D : Ends} (n : Nxt k H k1 H1) (h : DenS G wx k H r D) : DenS G wx k1 H1 r D := by
  cases r with
  | ok f h' => cases f <;> exact fun a k' H' n' => h a k' H' (n.trans n')
  | exc s c fs vs h' => exact fun a C d k' H' n' x s xr fr => h a C d k' H' (n.trans n') x s xr (fr.back n)
  | no => exact h
theorem Den.nxt {α β : Type} {G : Gx} {rp : Ka → α → β → Prop} {wx : WX} {k k1 : Ka} {H H1 : Hp} {σ : St} {r : R α} {Q : β → Hp → Prop} (n : Nxt k H k1 H1) (h : Den G rp wx k H σ r Q) : Den G rp wx k1 H1 σ r Q := by
  cases r with
  | ok f h' => exact fun a k' H' n' => h a k' H' (n.trans n')
  | exc c fs vs h' => exact fun C d k' H' n' x xr fr => h C d k' H' (n.trans n') x xr (fr.back n)
  | no => exact h

/-! ### judgements: code and what it gives -/
theorem PE_imp {X : Cx} {e : Expr} {t t' : TE} (h : PE X e t) (i : ∀ σ H Q, t' σ H Q → t σ H Q) : PE X e t' := ⟨fun pins s σ H Q I q => h.run pins s σ H Q I (i σ H Q q)⟩
theorem PT_imp {X : Cx} {e : Expr} {t t' : TT} (h : PT X e t) (i : ∀ σ H Q, t' σ H Q → t σ H Q) : PT X e t' := ⟨fun pins s σ H Q I q => h.run pins s σ H Q I (i σ H Q q)⟩
theorem PA_imp {X : Cx} {e : List Expr} {t t' : TA} (h : PA X e t) (i : ∀ σ H Q, t' σ H Q → t σ H Q) : PA X e t' := ⟨fun pos pins s σ H Q I q => h.run pos pins s σ H Q I (i σ H Q q)⟩
theorem PS_imp {X : Cx} {e : Stmt} {t t' : TS} (h : PS X e t) (i : ∀ D σ H, t' D σ H → t D σ H) : PS X e t' := ⟨fun pins s σ H D I q => h.run pins s σ H D I (i D σ H q)⟩
theorem PSs_imp {X : Cx} {e : List Stmt} {t t' : TS} (h : PSs X e t) (i : ∀ D σ H, t' D σ H → t D σ H) : PSs X e t' := ⟨fun pins s σ H D I q => h.run pins s σ H D I (i D σ H q)⟩

/-- the code's surroundings, told once -/
inductive Gk where
  | fn (f : Nat) | cls (c : Nat) | cst (w : W) | blt

structure Ax extends Gx where
  /-- the names of the module -/
  gt : List (Str × Gk)
  /-- functions' addresses -/
  fa : Nat → Option Addr
  /-- a class's methods; their names; its __init__; is it told by value? -/
  mt : Nat → Nat → Option Nat
  mn : Nat → Str
  ini : Nat → Option Nat
  val : Nat → Bool
  /-- own exceptions: what each keeps; which class is another's -/
  exf : Nat → Option Nat
  sub : Nat → Nat → Option Bool
  /-- calls by names: a def, how many by place, the names; which of what is handed in each parameter gets -/
  kw : Nat → Nat → List Str → Option (List Nat) := fun _ _ _ => none
  /-- own exceptions that keep nothing -/
  ex0 : Nat → Bool := fun _ => false
  /-- defs that are never called with all by place; what is left out behind so many by place, a number -/
  kwo : Nat → Bool := fun _ => false
  kwc : Nat → Nat → Option Int := fun _ _ => none

/-- what the module's names hold -/
structure GlobOk (A : Ax) (mg : Str → Option Value) : Prop where
  fn : ∀ x f, A.gt.lookup x = some (.fn f) → ∃ a, A.fa f = some a ∧ mg x = some (.ref a)
  cls : ∀ x c, A.gt.lookup x = some (.cls c) → ∃ C, A.cl c = some C ∧ mg x = some (.ref C)
  cst : ∀ x w, A.gt.lookup x = some (.cst w) → ∃ u v, mg x = some u ∧ RelV v u ∧ ∀ k, Rep A.toGx k w v
  blt : ∀ x, A.gt.lookup x = some .blt → mg x = none

/-- the context of a piece of code with the slots N -/
structure XOk (A : Ax) (N : List Str) (sc : Scope) (X : Cx) : Prop where
  hK : X.K = A.K
  hN : X.N = N
  hP : X.prog = A.P
  hw : X.w = A.w
  nd : N.Nodup
  hsc : X.env.scope = sc
  calm : X.calm = true
  gd : X.A.guards = some []
  glob : GlobOk A X.mg
  un : X.A.units + 70 < cLine

/-- an expression gives what ev gives -/
def WE (A : Ax) (X : Cx) (e : Expr) (ev : EV) : Prop := ∀ wx, Takes X wx → PE X e (TEx A.toGx wx ev)
def WA (A : Ax) (X : Cx) (e : List Expr) (ev : EA) : Prop := ∀ wx, Takes X wx → PA X e (TAx A.toGx wx ev)
def WT (A : Ax) (X : Cx) (e : Expr) (ev : EB) : Prop := ∀ wx, Takes X wx → PT X e (TTx A.toGx wx ev)
def WSt (A : Ax) (X : Cx) (e : Stmt) (ev : EW) : Prop := ∀ wx, Takes X wx → PassesOwn (model X.prog X.w) X.A X.env X.xe → PS X e (TSx A.toGx wx ev)
def WSs (A : Ax) (X : Cx) (e : List Stmt) (ev : EW) : Prop := ∀ wx, Takes X wx → PassesOwn (model X.prog X.w) X.A X.env X.xe → PSs X e (TSx A.toGx wx ev)

section
variable {A : Ax} {X : Cx} {N : List Str} {sc : Scope}
/-- names -/
def dVar (i : Nat) : EV := fun sw h => match sw[i]? with | some (some w) => .ok w h | _ => .no
theorem we_var (x : XOk A N sc X) {i : Nat} {n : Str} {pos : Pos} (hN : N[i]? = some n) (hv : Vis sc n) (hd : (n == ("__debug__" : Str)) = false) (hcd : (n == ("__classdict__" : Str)) = false) : WE A X (.Name n pos) (dVar i) := fun wx tk =>
  PE_imp (pe_var (by rw [x.hN]; exact hN) (by rw [x.hsc]; exact hv) hd hcd) fun σ H Q ⟨k, sw, h, hs, hh, d⟩ => by
    unfold dVar at d
    split at d
    · rename_i w e
      obtain ⟨v, e1, r⟩ := hs.2 i w e
      exact ⟨v, e1, d v k H (.refl k H) hh r⟩
    · exact d.elim
def dC (w : W) : EV := fun _ h => .ok w h
theorem we_c {e : Expr} {v : V} {w : W} (p : PE X e (tC v)) (r : ∀ k, Rep A.toGx k w v) : WE A X e (dC w) := fun wx tk =>
  PE_imp p fun σ H Q ⟨k, sw, h, hs, hh, d⟩ => d v k H (.refl k H) hh (r k)
theorem we_int {i j pos} : WE A X (.Constant (.int i) j pos) (dC (.int i)) := we_c pe_int fun _ => by simp only [Rep]
theorem we_bl {i j pos} : WE A X (.Constant (.bool i) j pos) (dC (.bl i)) := we_c pe_bl fun _ => by simp only [Rep]
theorem we_str {i j pos} : WE A X (.Constant (.str i) j pos) (dC (.str i)) := we_c pe_str fun _ => by simp only [Rep]
theorem we_non {j pos} : WE A X (.Constant .none j pos) (dC .non) := we_c pe_non fun _ => by simp only [Rep]
/-- what stands behind one part: the slots, the heap, the value, what is still wanted -/
theorem TEx.bind {G : Gx} {wx : WX} {a : EV} {f : WS → W → WH → R W} {σ : St} {H : Hp} {Q : VK} (t : TEx G wx (fun sw h => (a sw h).bind fun w h1 => f sw w h1) σ H Q) :
    TEx G wx a σ H fun v H1 => ∃ k sw w h1, SRep G k sw σ ∧ HRep G k H1 h1 ∧ Rep G k w v ∧ Den G (Rep G) wx k H1 σ (f sw w h1) Q := by
  obtain ⟨k, sw, h, hs, hh, d⟩ := t
  exact ⟨k, sw, h, hs, hh, d.bind.imp fun v H1 ⟨k', w, h', n, x, r, d'⟩ => ⟨k', sw, w, h', hs.mono n.le, x, r, d'⟩⟩
theorem TEx.bind2 {G : Gx} {wx : WX} {a b : EV} {f : W → W → WH → R W} {σ : St} {H : Hp} {Q : VK} (t : TEx G wx (fun sw h => (a sw h).bind fun w h1 => (b sw h1).bind fun u h2 => f w u h2) σ H Q) :
    TEx G wx a σ H fun v H1 => TEx G wx b σ H1 fun z H2 => ∃ k w u h2, HRep G k H2 h2 ∧ Rep G k w v ∧ Rep G k u z ∧ Den G (Rep G) wx k H2 σ (f w u h2) Q := by
  obtain ⟨k, sw, h, hs, hh, d⟩ := t
  refine ⟨k, sw, h, hs, hh, d.bind.imp fun v H1 ⟨k', w, h', n, x, r, d'⟩ => ?_⟩
  exact ⟨k', sw, h', hs.mono n.le, x, d'.bind.imp fun z H2 ⟨k2, u, h2, n2, x2, r2, d2⟩ => ⟨k2, w, u, h2, x2, r.mono n2.le, r2, d2⟩⟩
/-- arguments -/
def aNil : EA := fun _ h => .ok [] h
def aCons (a : EV) (r : EA) : EA := fun sw h => (a sw h).bind fun w h1 => (r sw h1).bind fun ws h2 => .ok (w :: ws) h2
theorem wa_nil : WA A X [] aNil := fun wx tk => PA_imp pa_nil fun σ H Q ⟨k, sw, h, hs, hh, d⟩ => d [] k H (.refl k H) hh (by simp only [RepL])
theorem wa_cons {e : Expr} {es : List Expr} {a : EV} {r : EA} (h1 : WE A X e a) (h2 : WA A X es r) (hs : starEach (e :: es) X.env = (false, eval e X.env) :: starEach es X.env) : WA A X (e :: es) (aCons a r) := fun wx tk =>
  PA_imp (pa_cons (h1 wx tk) (h2 wx tk) hs) fun σ H Q ⟨k, sw, h, hs, hh, d⟩ => by
    refine ⟨k, sw, h, hs, hh, Den.imp (Den.bind (rp := Rep A.toGx) d) fun v H1 ⟨k1, w, h1, n1, x1, r1, d1⟩ => ?_⟩
    refine ⟨k1, sw, h1, hs.mono n1.le, x1, Den.imp (Den.bind (rp := RepL A.toGx) d1) fun vs H2 ⟨k2, ws, h2, n2, x2, r2, d2⟩ => ?_⟩
    exact d2 (v :: vs) k2 H2 (.refl k2 H2) x2 (by simp only [RepL]; exact ⟨v, vs, rfl, r1.mono n2.le, r2⟩)
/-- what stands behind the arguments -/
theorem TAx.bind {G : Gx} {wx : WX} {a : EA} {f : WS → List W → WH → R W} {σ : St} {H : Hp} {Q : VK} (t : TEx G wx (fun sw h => (a sw h).bind fun w h1 => f sw w h1) σ H Q) :
    TAx G wx a σ H fun v H1 => ∃ k sw w h1, SRep G k sw σ ∧ HRep G k H1 h1 ∧ RepL G k w v ∧ Den G (Rep G) wx k H1 σ (f sw w h1) Q := by
  obtain ⟨k, sw, h, hs, hh, d⟩ := t
  exact ⟨k, sw, h, hs, hh, d.bind.imp fun v H1 ⟨k', w, h', n, x, r, d'⟩ => ⟨k', sw, w, h', hs.mono n.le, x, r, d'⟩⟩

/-! ### operators -/
/-- two values in, one out, by a rule of the hand layer -/
def OpW (A : Ax) (X : Cx) (r : R2) (f : W → W → WH → R W) : Prop :=
  ∀ (wx : WX) (k : Ka) (H : Hp) (σ : St) (h : WH) (x y : W) (u v : V) (Q : VK), HRep A.toGx k H h → Rep A.toGx k x u → Rep A.toGx k y v → Den A.toGx (Rep A.toGx) wx k H σ (f x y h) Q → r u v H Q
def dOp (f : W → W → WH → R W) (a b : EV) : EV := fun sw h => (a sw h).bind fun w h1 => (b sw h1).bind fun u h2 => f w u h2
theorem we_op {op : Operator} {a b : Expr} {pos : Pos} {ea eb : EV} {r : R2} {f : W → W → WH → R W} (ho : OpR X (binaryOp op) r) (hf : OpW A X r f) (ha : WE A X a ea) (hb : WE A X b eb) : WE A X (.BinOp a op b pos) (dOp f ea eb) := fun wx tk =>
  PE_imp (pe_op ho (ha wx tk) (hb wx tk)) fun σ H Q t => by
    refine Exists.elim (TEx.bind2 t) fun k hk => ?_
    obtain ⟨sw, h, hs, hh, d⟩ := hk
    exact ⟨k, sw, h, hs, hh, d.imp fun v H1 t2 => by
      obtain ⟨k1, sw1, h1, hs1, hh1, d1⟩ := t2
      exact ⟨k1, sw1, h1, hs1, hh1, d1.imp fun z H2 ⟨k2, w, u, h2, x2, r1, r2, d2⟩ => hf wx k2 H2 σ h2 w u v z Q x2 r1 r2 d2⟩⟩
theorem we_cmp {op : CmpOp} {a b : Expr} {pos : Pos} {ea eb : EV} {r : R2} {f : W → W → WH → R W} (ho : OpR X (compareOp op) r) (hf : OpW A X r f) (hm : behindInMarks op b = false) (ha : WE A X a ea) (hb : WE A X b eb) : WE A X (.Compare a [op] [b] pos) (dOp f ea eb) := fun wx tk =>
  PE_imp (pe_cmpR ho (ha wx tk) (hb wx tk) hm) fun σ H Q t => by
    refine Exists.elim (TEx.bind2 t) fun k hk => ?_
    obtain ⟨sw, h, hs, hh, d⟩ := hk
    exact ⟨k, sw, h, hs, hh, d.imp fun v H1 t2 => by
      obtain ⟨k1, sw1, h1, hs1, hh1, d1⟩ := t2
      exact ⟨k1, sw1, h1, hs1, hh1, d1.imp fun z H2 ⟨k2, w, u, h2, x2, r1, r2, d2⟩ => hf wx k2 H2 σ h2 w u v z Q x2 r1 r2 d2⟩⟩
end
end KW

set_option Elab.async false
set_option linter.all false
set_option maxRecDepth 100000
set_option maxHeartbeats 4000000
/-! operators, comparisons, truth, lengths -/
namespace KW
open PySem L2

def lim : Nat := 1000000
theorem lim_le {n : Nat} (h : n ≤ lim) : n ≤ sizeLine := Nat.le_trans h (by unfold lim; rw [sizeLine_eq]; decide)

def lstOf (h : WH) : W → Option (List W)
  | .lst ws => some ws
  | .ref a => match h[a]? with | some (.lst ws) => some ws | _ => none
  | _ => none
def seqOf (h : WH) : W → Option (List W)
  | .tup ws => some ws
  | .scr ns => some (ns.map .int)
  | w => lstOf h w

section
variable {G : Gx} {k : Ka} {H : Hp} {h : WH} {w : W} {ws : List W} {v : V}
theorem HRep.at (x : HRep G k H h) {a : Nat} {p : Addr} {o : Ob} (e : k.mu[a]? = some p) (ho : h[a]? = some o) : ORep G k H p o := (x.ob a o p ho e).1
theorem ref_at (x : HRep G k H h) {a : Nat} {o : Ob} (r : Rep G k (.ref a) v) (ho : h[a]? = some o) : ∃ p, v = .ref p ∧ k.mu[a]? = some p ∧ ORep G k H p o := by
  simp only [Rep] at r
  obtain ⟨p, e, q⟩ := r
  exact ⟨p, e, q, x.at q ho⟩
theorem listAt (x : HRep G k H h) (r : Rep G k w v) (e : lstOf h w = some ws) : ∃ p vs, v = .ref p ∧ H p = some (.lst vs) ∧ RepL G k ws vs := by
  cases w <;> simp only [lstOf, reduceCtorEq] at e
  · cases e
    simp only [Rep] at r
    obtain ⟨p, vs, e, q, r⟩ := r
    exact ⟨p, vs, e, x.sub _ _ q, r⟩
  · split at e
    · rename_i ho
      cases e
      obtain ⟨p, e1, q, vs, e2, r2⟩ := ref_at x r ho
      exact ⟨p, vs, e1, e2, r2⟩
    · cases e
theorem tupAt (x : HRep G k H h) (r : Rep G k (.tup ws) v) : ∃ p vs, v = .ref p ∧ SqT G.K H p vs ∧ RepL G k ws vs := by
  simp only [Rep] at r
  obtain ⟨p, vs, e, q, r⟩ := r
  exact ⟨p, vs, e, Ka.Le.seqT x.sub q.sq, r⟩
theorem rep_ints : ∀ ns : List Int, RepL G k (ns.map .int) (ns.map V.int)
  | [] => by simp only [List.map_nil, RepL]
  | n :: ns => by
    simp only [List.map_cons, RepL]
    exact ⟨.int n, ns.map V.int, rfl, by simp only [Rep], rep_ints ns⟩
theorem scrAt (x : HRep G k H h) {ns : List Int} (r : Rep G k (.scr ns) v) : ∃ p, v = .ref p ∧ SqL G.K H p (ns.map V.int) := by
  simp only [Rep] at r
  obtain ⟨p, e, q⟩ := r
  exact ⟨p, e, Ka.Le.seqL x.sub q⟩
theorem seqAt (x : HRep G k H h) (r : Rep G k w v) (e : seqOf h w = some ws) : ∃ p vs, v = .ref p ∧ (SqL G.K H p vs ∨ SqT G.K H p vs) ∧ RepL G k ws vs := by
  have l : lstOf h w = some ws → ∃ p vs, v = .ref p ∧ (SqL G.K H p vs ∨ SqT G.K H p vs) ∧ RepL G k ws vs := fun e => by
    obtain ⟨p, vs, e1, q, r2⟩ := listAt x r e
    exact ⟨p, vs, e1, .inl (SqL.of q), r2⟩
  cases w <;> simp only [seqOf] at e <;> first | exact l e | skip
  · cases e
    obtain ⟨p, vs, e1, q, r2⟩ := tupAt x r
    exact ⟨p, vs, e1, .inr q, r2⟩
  · cases e
    obtain ⟨p, e1, q⟩ := scrAt x r
    exact ⟨p, _, e1, .inl q, rep_ints _⟩
end

/-- a new list: frozen, or a logical object -/
def newL (m : Bool) (ws : List W) (h : WH) : R W := if m then .ok (.ref h.length) (h ++ [.lst ws]) else .ok (.lst ws) h
section
variable {G : Gx} {wx : WX} {k : Ka} {H : Hp} {σ : St} {h : WH} {ws : List W} {vs : List V} {m : Bool} {Q : VK}
theorem den_newL (x : HRep G k H h) (r : RepL G k ws vs) (d : Den G (Rep G) wx k H σ (newL m ws h) Q) : ∀ p, H p = none → Q (.ref p) (upd H p (.lst vs)) := by
  intro p hp
  unfold newL at d
  split at d
  · refine d (.ref p) (k.more p) _ (Nxt.more x hp) (x.more hp ⟨vs, upd_same, r.mono le_more⟩ trivial) ?_
    simp only [Rep]
    refine ⟨p, rfl, ?_⟩
    show (k.mu ++ [p])[h.length]? = some p
    rw [← x.len]; simp
  · refine d (.ref p) (k.froz p (.lst vs)) _ (Nxt.froz x hp) (x.froz hp) ?_
    simp only [Rep]
    exact ⟨p, vs, rfl, upd_same, r.mono (le_froz (x.noF hp))⟩
theorem den_newT (x : HRep G k H h) (r : RepL G k ws vs) (d : Den G (Rep G) wx k H σ (.ok (.tup ws) h) Q) : NT H Q vs := by
  intro p o ho hp
  refine d (.ref p) (k.froz p (.frz o (.tup vs))) _ (Nxt.froz x hp) (x.froz hp) ?_
  simp only [Rep]
  exact ⟨p, vs, rfl, .inl ⟨o, upd_same, ho⟩, r.mono (le_froz (x.noF hp))⟩
theorem den_val {w : W} {v : V} (x : HRep G k H h) (r : Rep G k w v) (d : Den G (Rep G) wx k H σ (.ok w h) Q) : Q v H := d v k H (.refl k H) x r
end

/-! ### the operators -/
def fAdd (m : Bool) (x y : W) (h : WH) : R W :=
  match x, y with
  | .int i, .int j => .ok (.int (i + j)) h
  | .str s, .str t => if s.length + t.length ≤ lim then .ok (.str (s ++ t)) h else .no
  | .tup a, .tup b => if a.length + b.length ≤ lim then .ok (.tup (a ++ b)) h else .no
  | x, y => match lstOf h x, lstOf h y with
    | some a, some b => if a.length + b.length ≤ lim then newL m (a ++ b) h else .no
    | _, _ => .no
def rAddW (K : PySem.W.Frag) : R2 := fun x y H Q => rI0 (fun i j => .int (i + j)) x y H Q ∨ (∃ i j, x = .str i ∧ y = .str j ∧ i.length + j.length ≤ sizeLine ∧ Q (.str (i ++ j)) H) ∨ rCatN K x y H Q ∨ rCat x y H Q
theorem op_addW {X : Cx} : OpR X (binaryOp .Add) (rAddW X.K) := op_add.or (op_add_str.or (op_catN.or op_cat))
theorem opw_add {A : Ax} {X : Cx} {m : Bool} (hK : X.K = A.K) : OpW A X (rAddW X.K) (fAdd m) := by
  intro wx k H σ h x y u v Q hh rx ry d
  have L : ∀ {d : Den A.toGx (Rep A.toGx) wx k H σ (match lstOf h x, lstOf h y with
    | some a, some b => if a.length + b.length ≤ lim then newL m (a ++ b) h else .no
    | _, _ => .no) Q}, rAddW X.K u v H Q := fun {d} => by
    split at d
    · rename_i a b e1 e2
      split at d
      · rename_i hl
        obtain ⟨p, vs, rfl, q1, r1⟩ := listAt hh rx e1
        obtain ⟨p2, vs2, rfl, q2, r2⟩ := listAt hh ry e2
        exact .inr (.inr (.inr ⟨p, p2, vs, vs2, rfl, rfl, q1, q2, by rw [r1.length, r2.length]; exact lim_le hl, den_newL hh (r1.append r2) d⟩))
      · exact d.elim
    · exact d.elim
  unfold fAdd at d
  split at d
  · simp only [Rep] at rx ry
    subst rx; subst ry
    exact .inl ⟨_, _, rfl, rfl, den_val hh (by simp only [Rep]) d⟩
  · split at d
    · rename_i hl
      simp only [Rep] at rx ry
      subst rx; subst ry
      exact .inr (.inl ⟨_, _, rfl, rfl, lim_le hl, den_val hh (by simp only [Rep]) d⟩)
    · exact d.elim
  · split at d
    · rename_i a b hl
      obtain ⟨p, vs, rfl, q1, r1⟩ := tupAt hh rx
      obtain ⟨p2, vs2, rfl, q2, r2⟩ := tupAt hh ry
      refine .inr (.inr (.inl ⟨p, p2, vs, vs2, rfl, rfl, by rw [hK]; exact q1, by rw [hK]; exact q2, by rw [r1.length, r2.length]; exact lim_le hl, fun e => ?_, fun e1 e => ?_, fun _ _ => den_newT hh (r1.append r2) d⟩))
      · have : a = [] := by
          have := r1.length
          rw [e] at this
          exact List.eq_nil_of_length_eq_zero this.symm
        subst this
        exact den_val hh ry d
      · have : b = [] := by
          have := r2.length
          rw [e] at this
          exact List.eq_nil_of_length_eq_zero this.symm
        subst this
        rw [List.append_nil] at d
        exact den_val hh rx d
    · exact d.elim
  · exact L (d := d)

def fSub (x y : W) (h : WH) : R W := match x, y with | .int i, .int j => .ok (.int (i - j)) h | _, _ => .no
def fMul (m : Bool) (x y : W) (h : WH) : R W := match x, y with
  | .int i, .int j => if i.natAbs.log2 + j.natAbs.log2 < 1000000 then .ok (.int (i * j)) h else .no
  | .str s, .int j => if j = 0 then .ok (.str Str.empty) h else if j = 1 then .ok (.str s) h else .no
  | x, .int j => match lstOf h x with
    | some a => if j ≤ 1000000 ∧ 0 ≤ j ∧ a.length * j.toNat ≤ lim then newL m (List.replicate j.toNat a).flatten h else .no
    | none => .no
  | _, _ => .no
theorem RepL.rep {G : Gx} {k : Ka} {ws : List W} {vs : List V} (r : RepL G k ws vs) : ∀ n : Nat, RepL G k (List.replicate n ws).flatten (List.replicate n vs).flatten
  | 0 => by simp [RepL]
  | n + 1 => by
    simp only [List.replicate_succ, List.flatten_cons]
    exact r.append (RepL.rep r n)
/-- a text, no times or once -/
def rOnce : R2 := fun x y H Q => ∃ s j, x = .str s ∧ y = .int j ∧ ((j = 0 ∧ Q (.str Str.empty) H) ∨ (j = 1 ∧ Q (.str s) H))
theorem op_once {X : Cx} : OpR X (binaryOp .Mult) rOnce := by
  intro pins s σ H x y v u Q I rx ry h
  obtain ⟨z, j, rfl, rfl, h⟩ := h
  obtain ⟨t, rfl⟩ := rx
  obtain ⟨t', rfl⟩ := ry
  rcases h with ⟨rfl, q⟩ | ⟨rfl, q⟩
  · exact PySem.P.mul_str_none (by decide) (by decide) ⟨.str Str.empty, H, I.tok _, ⟨_, rfl⟩, q⟩
  · refine PySem.P.mul_str (by decide) (fun _ e => absurd e (by simp)) (fun _ e => absurd e (by simp)) ?_
    rw [if_neg (by decide), if_pos (by rfl)]
    exact ⟨.str z, H, I, ⟨_, rfl⟩, q⟩
def rMulW : R2 := fun x y H Q => rI CMulW (fun i j => .int (i * j)) x y H Q ∨ rOnce x y H Q ∨ rRep x y H Q
theorem op_mulWW {X : Cx} : OpR X (binaryOp .Mult) rMulW := op_mulW.or (op_once.or op_rep)
theorem opw_mul {A : Ax} {X : Cx} {m : Bool} : OpW A X rMulW (fMul m) := by
  intro wx k H σ h x y u v Q hh rx ry d
  unfold fMul at d
  split at d
  · split at d
    · rename_i hl
      simp only [Rep] at rx ry
      subst rx; subst ry
      exact .inl ⟨_, _, rfl, rfl, hl, den_val hh (by simp only [Rep]) d⟩
    · exact d.elim
  · simp only [Rep] at rx ry
    subst rx; subst ry
    split at d
    · rename_i e
      exact .inr (.inl ⟨_, _, rfl, rfl, .inl ⟨e, den_val hh (by simp only [Rep]) d⟩⟩)
    · split at d
      · rename_i e
        exact .inr (.inl ⟨_, _, rfl, rfl, .inr ⟨e, den_val hh (by simp only [Rep]) d⟩⟩)
      · exact d.elim
  · split at d
    · rename_i a e
      split at d
      · rename_i hl
        obtain ⟨h1, h0, h2⟩ := hl
        obtain ⟨p, vs, rfl, q1, r1⟩ := listAt hh rx e
        simp only [Rep] at ry
        subst ry
        exact .inr (.inr ⟨p, _, vs, rfl, rfl, q1, by omega, by omega, by rw [r1.length]; exact lim_le h2, den_newL hh (r1.rep _) d⟩)
      · exact d.elim
    · exact d.elim
  · exact d.elim
def fDiv (x y : W) (h : WH) : R W := match x, y with | .int i, .int j => if 0 < j ∧ j.natAbs.log2 < 9000 then .ok (.int (i / j)) h else .no | _, _ => .no
theorem opw_div {A : Ax} {X : Cx} : OpW A X (rI CDivW fun i j => .int (i / j)) fDiv := by
  intro wx k H σ h x y u v Q hh rx ry d
  unfold fDiv at d
  split at d
  · split at d
    · rename_i hl
      simp only [Rep] at rx ry
      subst rx; subst ry
      exact ⟨_, _, rfl, rfl, hl, den_val hh (by simp only [Rep]) d⟩
    · exact d.elim
  · exact d.elim
def fMod (x y : W) (h : WH) : R W := match x, y with | .int i, .int j => if 0 < j then .ok (.int (i % j)) h else .no | _, _ => .no
theorem opw_mod {A : Ax} {X : Cx} : OpW A X (rI (fun _ j => 0 < j) fun i j => .int (i % j)) fMod := by
  intro wx k H σ h x y u v Q hh rx ry d
  unfold fMod at d
  split at d
  · split at d
    · rename_i hl
      simp only [Rep] at rx ry
      subst rx; subst ry
      exact ⟨_, _, rfl, rfl, hl, den_val hh (by simp only [Rep]) d⟩
    · exact d.elim
  · exact d.elim
def CPowW (i j : Int) : Prop := 0 ≤ j ∧ (i.natAbs.log2 + 1) * j.toNat ≤ 1000000
theorem op_powW {X : Cx} : OpR X (binaryOp .Pow) (rI CPowW fun i j => .int (i ^ j.toNat)) := opI fun i j _ _ _ _ _ hc q => PyProof.Rows.pow_int hc.1 (by
  obtain ⟨h0, h1⟩ := hc
  have b : Builtin.Int.intBits i ≤ i.natAbs.log2 + 1 := by
    unfold Builtin.Int.intBits
    split <;> omega
  have b2 : Builtin.Int.intBits i * j.toNat ≤ (i.natAbs.log2 + 1) * j.toNat := Nat.mul_le_mul_right _ b
  have e : ((Builtin.Int.intBits i * j.toNat : Nat) : Int) = (Builtin.Int.intBits i : Int) * j := by
    rw [Int.natCast_mul, Int.toNat_of_nonneg h0]
  rw [← e]
  have : Builtin.Int.intBits i * j.toNat ≤ 1000000 := Nat.le_trans b2 h1
  omega) q
def fPow (x y : W) (h : WH) : R W := match x, y with | .int i, .int j => if 0 ≤ j ∧ (i.natAbs.log2 + 1) * j.toNat ≤ 1000000 then .ok (.int (i ^ j.toNat)) h else .no | _, _ => .no
theorem opw_pow {A : Ax} {X : Cx} : OpW A X (rI CPowW fun i j => .int (i ^ j.toNat)) fPow := by
  intro wx k H σ h x y u v Q hh rx ry d
  unfold fPow at d
  split at d
  · split at d
    · rename_i hl
      simp only [Rep] at rx ry
      subst rx; subst ry
      exact ⟨_, _, rfl, rfl, hl, den_val hh (by simp only [Rep]) d⟩
    · exact d.elim
  · exact d.elim

/-! ### comparisons -/
def fInt (p : Int → Int → Bool) (x y : W) (h : WH) : R W := match x, y with | .int i, .int j => .ok (.bl (p i j)) h | _, _ => .no
theorem opw_int {A : Ax} {X : Cx} {p : Int → Int → Bool} : OpW A X (rI0 fun i j => .bl (p i j)) (fInt p) := by
  intro wx k H σ h x y u v Q hh rx ry d
  unfold fInt at d
  split at d
  · simp only [Rep] at rx ry
    subst rx; subst ry
    exact ⟨_, _, rfl, rfl, den_val hh (by simp only [Rep]) d⟩
  · exact d.elim

mutual
def W.dat : W → Option PyData
  | .non => some .none
  | .bl b => some (.bool b)
  | .int i => some (.int i)
  | .str s => some (.str s)
  | .tup ws => (W.dats ws).map .tuple
  | .lst ws => (W.dats ws).map .list
  | _ => none
def W.dats : List W → Option (List PyData)
  | [] => some []
  | w :: ws => match W.dat w, W.dats ws with | some d, some ds => some (d :: ds) | _, _ => none
end
/-- data, a logical list told by what it holds -/
def datH (h : WH) (w : W) : Option PyData := match lstOf h w with | some ws => (W.dats ws).map .list | none => w.dat
mutual
theorem dp_of {G : Gx} {k : Ka} {H : Hp} (sub : ∀ a o, k.F a = some o → H a = some o) : ∀ {w : W} {v : V} {d : PyData}, Rep G k w v → w.dat = some d → Dp G.K H v d
  | .non, v, d, r, e => by simp only [Rep] at r; simp only [W.dat] at e; cases e; subst r; exact .non
  | .bl _, v, d, r, e => by simp only [Rep] at r; simp only [W.dat] at e; cases e; subst r; exact .bl _
  | .int _, v, d, r, e => by simp only [Rep] at r; simp only [W.dat] at e; cases e; subst r; exact .int _
  | .str _, v, d, r, e => by simp only [Rep] at r; simp only [W.dat] at e; cases e; subst r; exact .str _
  | .tup ws, v, d, r, e => by
    simp only [Rep] at r
    obtain ⟨p, vs, rfl, q, r⟩ := r
    simp only [W.dat] at e
    obtain ⟨ds, e1, rfl⟩ := Option.map_eq_some_iff.mp e
    exact .tup (Ka.Le.seqT sub q.sq) (dpAll_of sub r e1)
  | .lst ws, v, d, r, e => by
    simp only [Rep] at r
    obtain ⟨p, vs, rfl, q, r⟩ := r
    simp only [W.dat] at e
    obtain ⟨ds, e1, rfl⟩ := Option.map_eq_some_iff.mp e
    exact .lst (SqL.of (sub _ _ q)) (dpAll_of sub r e1)
  | .dct _ _, v, d, r, e => by simp [W.dat] at e
  | .ins _ _ _, v, d, r, e => by simp [W.dat] at e
  | .ref _, v, d, r, e => by simp [W.dat] at e
  | .scr _, v, d, r, e => by simp [W.dat] at e
  | .exn _ _ _, v, d, r, e => by simp [W.dat] at e
theorem dpAll_of {G : Gx} {k : Ka} {H : Hp} (sub : ∀ a o, k.F a = some o → H a = some o) : ∀ {ws : List W} {vs : List V} {ds : List PyData}, RepL G k ws vs → W.dats ws = some ds → DpAll G.K H vs ds
  | [], vs, ds, r, e => by simp only [RepL] at r; simp only [W.dats] at e; cases e; subst r; exact .nil
  | w :: ws, vs, ds, r, e => by
    simp only [RepL] at r
    obtain ⟨v, vs', rfl, r1, r2⟩ := r
    simp only [W.dats] at e
    split at e
    · rename_i e1 e2
      cases e
      exact .cons (dp_of sub r1 e1) (dpAll_of sub r2 e2)
    · cases e
end
theorem dpH_of {G : Gx} {k : Ka} {H : Hp} {h : WH} {w : W} {v : V} {d : PyData} (x : HRep G k H h) (r : Rep G k w v) (e : datH h w = some d) : Dp G.K H v d := by
  unfold datH at e
  split at e
  · rename_i ws e1
    obtain ⟨p, vs, rfl, q, r2⟩ := listAt x r e1
    obtain ⟨ds, e2, rfl⟩ := Option.map_eq_some_iff.mp e
    exact .lst (SqL.of q) (dpAll_of x.sub r2 e2)
  · exact dp_of x.sub r e

def scalW : W → W → Option Bool
  | .str s, .str t => some (decide (s = t))
  | .int i, .int j => some (decide (i = j))
  | .bl b, .bl c => some (decide (b = c))
  | .non, .str _ => some false
  | .str _, .non => some false
  | .int _, .str _ => some false
  | .str _, .int _ => some false
  | _, _ => none
def fEq (neg : Bool) (x y : W) (h : WH) : R W := match scalW x y with
  | some b => .ok (.bl (b != neg)) h
  | none => match datH h x, datH h y with
    | some d, some e => if SeqAt.shaped d = true ∧ SeqAt.shaped e = true then .ok (.bl (PyData.eqv d e != neg)) h else .no
    | _, _ => .no
theorem scalW_of {G : Gx} {k : Ka} {x y : W} {u v : V} {b : Bool} (rx : Rep G k x u) (ry : Rep G k y v) (e : scalW x y = some b) : scal u v = true ∧ decide (u = v) = b := by
  unfold scalW at e
  split at e <;> first | (cases e; done) | skip
  all_goals
    simp only [Rep] at rx ry
    subst rx; subst ry
    injection e with e
    subst e
    exact ⟨rfl, by simp⟩
def rEqW (K : PySem.W.Frag) : R2 := fun x y H Q => rEq x y H Q ∨ rEqD K x y H Q
def rNeW (K : PySem.W.Frag) : R2 := fun x y H Q => rNe x y H Q ∨ rNeD K x y H Q
theorem op_eqW {X : Cx} (hu : X.A.units + 64 < cLine) : OpR X (compareOp .Eq) (rEqW X.K) := op_eq.or (op_eqD hu)
theorem op_neW {X : Cx} (hu : X.A.units + 64 < cLine) : OpR X (compareOp .NotEq) (rNeW X.K) := op_ne.or (op_neD hu)
theorem opw_eq {A : Ax} {X : Cx} (hK : X.K = A.K) : OpW A X (rEqW X.K) (fEq false) := by
  intro wx k H σ h x y u v Q hh rx ry d
  unfold fEq at d
  split at d
  · rename_i b e
    obtain ⟨h1, h2⟩ := scalW_of rx ry e
    refine .inl ⟨h1, ?_⟩
    rw [h2]
    exact den_val hh (by simp [Rep]) d
  · split at d
    · rename_i d1 d2 e1 e2
      split at d
      · rename_i hs
        refine .inr ⟨d1, d2, by rw [hK]; exact dpH_of hh rx e1, by rw [hK]; exact dpH_of hh ry e2, hs.1, hs.2, den_val hh (by simp [Rep]) d⟩
      · exact d.elim
    · exact d.elim
theorem opw_ne {A : Ax} {X : Cx} (hK : X.K = A.K) : OpW A X (rNeW X.K) (fEq true) := by
  intro wx k H σ h x y u v Q hh rx ry d
  unfold fEq at d
  split at d
  · rename_i b e
    obtain ⟨h1, h2⟩ := scalW_of rx ry e
    refine .inl ⟨h1, ?_⟩
    rw [h2]
    exact den_val hh (by simp [Rep]) d
  · split at d
    · rename_i d1 d2 e1 e2
      split at d
      · rename_i hs
        refine .inr ⟨d1, d2, by rw [hK]; exact dpH_of hh rx e1, by rw [hK]; exact dpH_of hh ry e2, hs.1, hs.2, den_val hh (by simp [Rep]) d⟩
      · exact d.elim
    · exact d.elim

end KW

set_option Elab.async false
set_option linter.all false
set_option maxRecDepth 100000
set_option maxHeartbeats 4000000
/-! dicts, told by values -/
namespace KW
open PySem L2
def keyOfW : W → Option Key
  | .int i => some (.inl i)
  | .str s => some (.inr s)
  | _ => none
def dkOf (h : WH) : W → Option (List W × List W)
  | .dct ks vs => some (ks, vs)
  | .ref a => match h[a]? with | some (.dct ks vs) => some (ks, vs) | _ => none
  | _ => none
def tdOf (h : WH) : W → Option (List W × List W)
  | .ref a => match h[a]? with | some (.td ks vs) => some (ks, vs) | _ => none
  | _ => none
/-- at a key -/
def lookD (y : W) : List W → List W → Option W
  | z :: ks, w :: ws => if z = y then some w else lookD y ks ws
  | _, _ => none
def putD (y w : W) : List W → List W → List W × List W
  | z :: ks, u :: ws => if z = y then (z :: ks, w :: ws) else let r := putD y w ks ws; (z :: r.1, u :: r.2)
  | _, _ => ([y], [w])
theorem keyW_inj {a b : Key} (h : keyW a = keyW b) : a = b := by
  cases a <;> cases b <;> simp only [keyW, W.int.injEq, W.str.injEq, reduceCtorEq] at h <;> rw [h]
section
variable {G : Gx} {k : Ka} {H : Hp} {h : WH} {w : W} {ks ws : List W} {v : V}
theorem keyOf_rep {y : Key} (r : Rep G k w v) (e : keyOfW w = some y) : v = kV y ∧ w = keyW y := by
  cases w <;> simp only [keyOfW, Option.some.injEq, reduceCtorEq] at e <;> subst e <;> simp only [Rep] at r <;> exact ⟨r, rfl⟩
theorem lookD_rep {y : Key} : ∀ {kvs : List (Key × V)} {ws : List W}, RepL G k ws (kvs.map (·.2)) → (lookD (keyW y) (kvs.map fun x => keyW x.1) ws = none ∧ valV kvs y = none) ∨ ∃ w v, lookD (keyW y) (kvs.map fun x => keyW x.1) ws = some w ∧ valV kvs y = some v ∧ Rep G k w v
  | [], ws, _ => .inl ⟨by simp [lookD], valV_nil⟩
  | (z, u) :: kvs, ws, r => by
    cases ws with
    | nil => simp [RepL] at r
    | cons w ws =>
      simp only [List.map_cons, RepL] at r
      obtain ⟨v', r', e, r1, r2⟩ := r
      cases e
      by_cases q : z = y
      · subst q
        exact .inr ⟨w, u, by simp [lookD], valV_pos (p := (z, u)) rfl, r1⟩
      · have nq : ¬ keyW z = keyW y := fun e => q (keyW_inj e)
        rw [List.map_cons, lookD, if_neg nq, valV_neg (p := (z, u)) q]
        exact lookD_rep r2
theorem putD_rep {y : Key} {w : W} {v : V} (rw' : Rep G k w v) : ∀ {kvs : List (Key × V)} {ws : List W}, (kvs.map (·.1)).Nodup → RepL G k ws (kvs.map (·.2)) →
    (putD (keyW y) w (kvs.map fun x => keyW x.1) ws).1 = (putK kvs y v).map (fun x => keyW x.1) ∧ RepL G k (putD (keyW y) w (kvs.map fun x => keyW x.1) ws).2 ((putK kvs y v).map (·.2))
  | [], ws, _, r => by
    simp only [List.map_nil, RepL] at r
    simp only [List.map_nil, putD, putK, List.any_nil, Bool.false_eq_true, if_false, List.nil_append, List.map_cons]
    exact ⟨by simp, RepL.one rw'⟩
  | (z, u) :: kvs, ws, nd, r => by
    cases ws with
    | nil => simp [RepL] at r
    | cons w' ws =>
      simp only [List.map_cons, RepL] at r
      obtain ⟨v', r', e, r1, r2⟩ := r
      cases e
      rw [List.map_cons, List.nodup_cons] at nd
      by_cases q : z = y
      · subst q
        have e : putK ((z, u) :: kvs) z v = (z, v) :: kvs := by
          unfold putK
          rw [if_pos (by simp)]
          rw [List.map_cons, if_pos rfl]
          congr 1
          conv => rhs; rw [← List.map_id kvs]
          refine List.map_congr_left fun x hx => ?_
          rw [if_neg fun q => nd.1 (List.mem_map.mpr ⟨x, hx, q⟩)]; rfl
        rw [e]
        simp only [List.map_cons, putD, if_pos]
        exact ⟨by simp, by simp only [RepL]; exact ⟨v, _, rfl, rw', r2⟩⟩
      · have nq : ¬ keyW z = keyW y := fun e => q (keyW_inj e)
        have e : putK ((z, u) :: kvs) y v = (z, u) :: putK kvs y v := by
          unfold putK
          rw [List.any_cons]
          simp only [q, decide_false, Bool.false_or]
          split
          · rw [List.map_cons, if_neg q]
          · rfl
        rw [e]
        obtain ⟨i1, i2⟩ := putD_rep rw' nd.2 r2
        simp only [List.map_cons, putD, if_neg nq]
        exact ⟨by rw [i1], by simp only [RepL]; exact ⟨u, _, rfl, r1, i2⟩⟩
theorem dkAt (x : HRep G k H h) (r : Rep G k w v) (e : dkOf h w = some (ks, ws)) : ∃ p kvs, v = .ref p ∧ H p = some (.dK kvs) ∧ ks = kvs.map (fun x => keyW x.1) ∧ RepL G k ws (kvs.map (·.2)) := by
  cases w <;> simp only [dkOf, reduceCtorEq] at e
  · cases e
    simp only [Rep] at r
    obtain ⟨p, kvs, e, q, e2, r⟩ := r
    exact ⟨p, kvs, e, x.sub _ _ q, e2, r⟩
  · split at e
    · rename_i ho
      cases e
      obtain ⟨p, e1, q, kvs, e2, nd, e3, r2⟩ := ref_at x r ho
      exact ⟨p, kvs, e1, e2, e3, r2⟩
    · cases e
theorem tdAt (x : HRep G k H h) (r : Rep G k w v) (e : tdOf h w = some (ks, ws)) : ∃ p xs, v = .ref p ∧ H p = some (dnH G.P G.w p xs) ∧ (xs.map (·.1)).Nodup ∧ TdR G k ks ws xs := by
  cases w <;> simp only [tdOf, reduceCtorEq] at e
  split at e
  · rename_i ho
    cases e
    obtain ⟨p, e1, q, xs, e2, e3, r2⟩ := ref_at x r ho
    exact ⟨p, xs, e1, e2, e3, r2⟩
  · cases e
/-- a key that is a tuple -/
def nkT : W → Option NestedKey
  | .tup ws => (match nkW (.tup ws) with | some n => if n.depth ≤ 8 then some n else none | none => none)
  | _ => none
theorem nkT_rep (r : Rep G k w v) {n : NestedKey} (e : nkT w = some n) : ∃ b, v = .ref b ∧ nkW w = some n ∧ n.depth ≤ 8 := by
  cases w <;> simp only [nkT, reduceCtorEq] at e
  split at e
  · rename_i m e1
    split at e
    · rename_i hd
      cases e
      simp only [Rep] at r
      obtain ⟨p, vs, e2, _, _⟩ := r
      exact ⟨p, e2, e1, hd⟩
    · cases e
  · cases e
end
/-! ### [] -/
/-- d[y], d a dict -/
def dIx (y : W) (h : WH) (ks ws : List W) : R W := match keyOfW y with
  | some k => (match lookD (keyW k) ks ws with | some w => .ok w h | none => .no)
  | none => .no
def tIx (y : W) (h : WH) (ks ws : List W) : R W := match nkT y with
  | some n => (match getT n ks ws with | some w => .ok w h | none => .no)
  | none => .no
section
variable {A : Ax} {X : Cx} {N : List Str} {sc : Scope} {wx : WX} {k : Ka} {H : Hp} {σ : St} {h : WH} {x y : W} {u v : V} {ks ws : List W} {Q : VK}
theorem dIx_ok (hh : HRep A.toGx k H h) (rx : Rep A.toGx k x u) (ry : Rep A.toGx k y v) (e : dkOf h x = some (ks, ws)) (d : Den A.toGx (Rep A.toGx) wx k H σ (dIx y h ks ws) Q) : rDkI u v H Q := by
  obtain ⟨p, kvs, rfl, q, e2, r⟩ := dkAt hh rx e
  unfold dIx at d
  split at d
  · rename_i key ek
    obtain ⟨rfl, _⟩ := keyOf_rep ry ek
    rw [e2] at d
    rcases lookD_rep (y := key) r with ⟨e3, _⟩ | ⟨w, z, e3, e4, r4⟩
    · rw [e3] at d; exact d.elim
    · rw [e3] at d
      exact ⟨p, kvs, key, z, rfl, rfl, .inl q, e4, den_val hh r4 d⟩
  · exact d.elim
theorem tIx_ok (xo : XOk A N sc X) (hh : HRep A.toGx k H h) (rx : Rep A.toGx k x u) (ry : Rep A.toGx k y v) (e : tdOf h x = some (ks, ws)) (d : Den A.toGx (Rep A.toGx) wx k H σ (tIx y h ks ws) Q) : rTdI X.K X.prog X.w u v H Q := by
  obtain ⟨p, xs, rfl, q, nd, r⟩ := tdAt hh rx e
  unfold tIx at d
  split at d
  · rename_i n en
    obtain ⟨b, rfl, e1, hd⟩ := nkT_rep ry en
    rcases r.get (n := n) with ⟨e3, _⟩ | ⟨w, z, e3, e4, r4⟩
    · rw [e3] at d; exact d.elim
    · rw [e3] at d
      refine ⟨p, b, n, xs, z, rfl, rfl, by rw [xo.hP, xo.hw]; exact q, by rw [xo.hK]; exact r.all hh.sub, by rw [xo.hK]; exact nk_of hh.sub ry e1, hd, e4, den_val hh r4 d⟩
  · exact d.elim
end
/-! ### in -/
section
variable {A : Ax} {X : Cx} {N : List Str} {sc : Scope} {wx : WX} {k : Ka} {H : Hp} {σ : St} {h : WH} {x y : W} {u v : V} {ks ws : List W} {neg : Bool} {Q : VK}
end
end KW

set_option Elab.async false
set_option linter.all false
set_option maxRecDepth 100000
set_option maxHeartbeats 4000000
/-! is, in, truth, and, or, displays, subscripts, slices, calls of built-ins, isinstance -/
namespace KW
open PySem L2

/-! ### in -/
/-! ### truth -/
def truW (h : WH) (w : W) : Option Bool := match w with
  | .non => some false
  | .bl b => some b
  | .int i => some (i != 0)
  | .str s => if s.length ≤ lim then some ((s.length : Int) != 0) else none
  | w => (seqOf h w).map fun ws => !ws.isEmpty
theorem RepL.isEmpty {G : Gx} {k : Ka} {ws : List W} {vs : List V} (r : RepL G k ws vs) : vs.isEmpty = ws.isEmpty := by
  have := r.length
  cases ws <;> cases vs <;> simp_all
theorem truV_of {G : Gx} {k : Ka} {H : Hp} {h : WH} {w : W} {v : V} {b : Bool} (x : HRep G k H h) (r : Rep G k w v) (e : truW h w = some b) : TruV G.K v H b := by
  have S : (seqOf h w).map (fun ws => !ws.isEmpty) = some b → TruV G.K v H b := fun e => by
    obtain ⟨ws, e1, e2⟩ := Option.map_eq_some_iff.mp e
    obtain ⟨p, vs, rfl, q, r2⟩ := seqAt x r e1
    have z := r2.isEmpty
    rcases q with q | q
    · exact .inl ⟨vs, q, by rw [z]; exact e2.symm⟩
    · exact .inr (.inl ⟨vs, q, by rw [z]; exact e2.symm⟩)
  cases w <;> simp only [truW] at e <;> first | exact S e | skip
  · simp only [Rep] at r; subst r; cases e; exact rfl
  · simp only [Rep] at r; subst r; cases e; exact rfl
  · simp only [Rep] at r; subst r; cases e; exact rfl
  · split at e
    · rename_i hl
      simp only [Rep] at r; subst r; cases e; exact ⟨lim_le hl, rfl⟩
    · cases e
def dTru (a : EV) : EB := fun sw h => (a sw h).bind fun w h1 => match truW h1 w with | some b => .ok b h1 | none => .no
def dTst (a : EV) : EB := fun sw h => (a sw h).bind fun w h1 => match w with | .bl b => .ok b h1 | _ => .no
theorem TTx.bind {G : Gx} {wx : WX} {a : EV} {f : WS → W → WH → R Bool} {σ : St} {H : Hp} {Q : Bool → Hp → Prop} (t : TTx G wx (fun sw h => (a sw h).bind fun w h1 => f sw w h1) σ H Q) :
    TEx G wx a σ H fun v H1 => ∃ k sw w h1, SRep G k sw σ ∧ HRep G k H1 h1 ∧ Rep G k w v ∧ Den G (fun _ a b => a = b) wx k H1 σ (f sw w h1) Q := by
  obtain ⟨k, sw, h, hs, hh, d⟩ := t
  exact ⟨k, sw, h, hs, hh, d.bind.imp fun v H1 ⟨k', w, h', n, x, r, d'⟩ => ⟨k', sw, w, h', hs.mono n.le, x, r, d'⟩⟩
section
variable {A : Ax} {X : Cx} {N : List Str} {sc : Scope} {a b c : Expr} {ea eb ec : EV} {ta tb : EB} {pos : Pos} {rest : List Expr}
theorem wt_gen (hK : X.K = A.K) (ha : WE A X a ea) (he : ∀ whole, isTrue a X.env whole = (do let v ← whole; standAt a.pos; holding [v] (truthy v))) : WT A X a (dTru ea) := fun wx tk =>
  PT_imp (pt_truth (ha wx tk) he) fun σ H Q t => by
    obtain ⟨k, sw, h, hs, hh, d⟩ := TTx.bind t
    refine ⟨k, sw, h, hs, hh, d.imp fun v H1 ⟨k1, sw1, w, h1, hs1, hh1, r, d1⟩ => ?_⟩
    split at d1
    · rename_i b e
      exact ⟨b, by rw [hK]; exact truV_of hh1 r e, d1 b k1 H1 (.refl _ _) hh1 rfl⟩
    · exact d1.elim
theorem wt_cmp {op : CmpOp} {r : R2} {f : W → W → WH → R W} (ho : OpR X (compareOp op) r) (hf : OpW A X r f) (hm : behindInMarks op b = false) (ha : WE A X a ea) (hb : WE A X b eb) : WT A X (.Compare a [op] [b] pos) (dTst (dOp f ea eb)) := fun wx tk =>
  PT_imp (pt_cmpR ho (ha wx tk) (hb wx tk) hm) fun σ H Q t => by
    obtain ⟨k, sw, h, hs, hh, d⟩ := TTx.bind t
    have t2 : TEx A.toGx wx (dOp f ea eb) σ H _ := ⟨k, sw, h, hs, hh, d⟩
    obtain ⟨k, sw, h, hs, hh, d⟩ := TEx.bind2 t2
    exact ⟨k, sw, h, hs, hh, d.imp fun v H1 t2 => by
      obtain ⟨k1, sw1, h1, hs1, hh1, d1⟩ := t2
      refine ⟨k1, sw1, h1, hs1, hh1, d1.imp fun z H2 ⟨k2, w, u, h2, x2, r1, r2, d2⟩ => ?_⟩
      refine hf wx k2 H2 σ h2 w u v z _ x2 r1 r2 (d2.imp fun y H3 ⟨k3, sw3, w3, h3, hs3, hh3, r3, d3⟩ => ?_)
      split at d3
      · simp only [Rep] at r3
        exact ⟨_, r3, d3 _ k3 H3 (.refl _ _) hh3 rfl⟩
      · exact d3.elim⟩
def dNotT (t : EB) : EB := fun sw h => (t sw h).bind fun c h1 => .ok (!c) h1
theorem wt_not (ha : WT A X a ta) : WT A X (.UnaryOp .Not a pos) (dNotT ta) := fun wx tk =>
  PT_imp (pt_not (ha wx tk)) fun σ H Q ⟨k, sw, h, hs, hh, d⟩ => ⟨k, sw, h, hs, hh, (Den.bind (rp := fun _ a b => a = b) d).imp fun c H1 ⟨k1, w, h1, n, hh1, e, d1⟩ => by
    subst e
    exact d1 _ k1 H1 (.refl _ _) hh1 rfl⟩
def dAndT (t u : EB) : EB := fun sw h => (t sw h).bind fun c h1 => if c then u sw h1 else .ok false h1
def dOrT (t u : EB) : EB := fun sw h => (t sw h).bind fun c h1 => if c then .ok true h1 else u sw h1
def WWt (A : Ax) (X : Cx) (e : Expr) (ev : EB) : Prop := ∀ wx, Takes X wx → PW X e (TTx A.toGx wx ev)
theorem PW_imp {X : Cx} {e : Expr} {t t' : TT} (h : PW X e t) (i : ∀ σ H Q, t' σ H Q → t σ H Q) : PW X e t' := ⟨fun w pins s σ H Q I q => h.run w pins s σ H Q I (i σ H Q q)⟩
theorem wt_of (h : WWt A X a ta) : WT A X a ta := fun wx tk => (h wx tk).pt
theorem ww_or1 (ha : WT A X a ta) : WWt A X (.BoolOp .Or [a] pos) ta := fun wx tk => pw_or1 (ha wx tk)
theorem ww_or (ha : WT A X a ta) (hb : WWt A X (.BoolOp .Or (b :: rest) pos) tb) : WWt A X (.BoolOp .Or (a :: b :: rest) pos) (dOrT ta tb) := fun wx tk =>
  PW_imp (pw_or (ha wx tk) (hb wx tk)) fun σ H Q ⟨k, sw, h, hs, hh, d⟩ => ⟨k, sw, h, hs, hh, (Den.bind (rp := fun _ a b => a = b) d).imp fun c H1 ⟨k1, w, h1, n, hh1, e, d1⟩ => by
    subst e
    cases w with
    | false =>
      rw [if_neg (by decide)] at d1 ⊢
      exact ⟨k1, sw, h1, hs.mono n.le, hh1, d1⟩
    | true =>
      rw [if_pos rfl] at d1 ⊢
      exact d1 _ k1 H1 (.refl _ _) hh1 rfl⟩
/-! as values -/
def dAnd (a b : EV) : EV := fun sw h => (a sw h).bind fun w h1 => match truW h1 w with | some true => b sw h1 | some false => .ok w h1 | none => .no
def dOr (a b : EV) : EV := fun sw h => (a sw h).bind fun w h1 => match truW h1 w with | some true => .ok w h1 | some false => b sw h1 | none => .no
def dNot (a : EV) : EV := fun sw h => (a sw h).bind fun w h1 => match truW h1 w with | some c => .ok (.bl (!c)) h1 | none => .no
def dNeg (a : EV) : EV := fun sw h => (a sw h).bind fun w h1 => match w with | .int i => .ok (.int (-i)) h1 | _ => .no
theorem we_neg (ha : WE A X a ea) : WE A X (.UnaryOp .USub a pos) (dNeg ea) := fun wx tk =>
  PE_imp (pe_un un_neg (ha wx tk)) fun σ H Q t => by
    obtain ⟨k, sw, h, hs, hh, d⟩ := TEx.bind t
    refine ⟨k, sw, h, hs, hh, d.imp fun v H1 ⟨k1, sw1, w, h1, hs1, hh1, r, d1⟩ => ?_⟩
    split at d1
    · simp only [Rep] at r
      exact ⟨_, r, den_val hh1 (by simp [Rep]) d1⟩
    · exact d1.elim
def dIf (t : EB) (a b : EV) : EV := fun sw h => (t sw h).bind fun c h1 => if c then a sw h1 else b sw h1
/-- a op b op c -/
def dChn (f g : W → W → WH → R W) (a b c : EV) : EV := fun sw h => (a sw h).bind fun x h1 => (b sw h1).bind fun y h2 => (f x y h2).bind fun z h3 => match z with
  | .bl true => (c sw h3).bind fun w h4 => g y w h4
  | .bl false => .ok (.bl false) h3
  | _ => .no
end
/-! ### in, of dicts too -/
section
variable {A : Ax} {X : Cx} {N : List Str} {sc : Scope}
end
end KW

set_option Elab.async false
set_option linter.all false
set_option maxRecDepth 100000
set_option maxHeartbeats 4000000
/-! displays, subscripts, slices, attributes, calls of built-ins, isinstance -/
namespace KW
open PySem L2

/-! ### syntax facts -/
def nonStar : Expr → Bool | .Starred _ _ => false | _ => true
theorem star_ok {e : Expr} {es : List Expr} {env : Env} (h : nonStar e = true) : starEach (e :: es) env = (false, eval e env) :: starEach es env := by
  cases e <;> first | rfl | simp [nonStar] at h
theorem stars_any {env : Env} {pos : Pos} : ∀ {es : List Expr}, es.all nonStar = true → (backTo pos (starEach es env)).any (·.1) = false
  | [], _ => rfl
  | e :: es, h => by
    simp only [List.all_cons, Bool.and_eq_true] at h
    rw [star_ok h.1]
    have ih := stars_any (env := env) (pos := pos) h.2
    unfold backTo at ih ⊢
    simpa using ih
def nonSlice : Expr → Bool | .Slice _ _ _ _ => false | _ => true
theorem plainIx {b : Expr} (h : nonSlice b = true) : PlainIx b := by
  intro o i
  cases b <;> first | rfl | simp [nonSlice] at h
def notComp : Expr → Bool | .ListComp .. => false | .SetComp .. => false | .DictComp .. => false | _ => true
theorem swaps_not {value : Expr} {t : Option Expr} {l : Nat} {env : Env} (h : notComp value = true) : swapsWith value t l env = pure false := by
  cases value <;> first | rfl | simp [notComp] at h

section
variable {A : Ax} {X : Cx} {N : List Str} {sc : Scope} {a b c : Expr} {ea eb ec : EV} {aa : EA} {pos : Pos} {es : List Expr}
/-! ### displays -/
def dTup (a : EA) : EV := fun sw h => (a sw h).bind fun ws h1 => if ws.length ≤ lim then .ok (.tup ws) h1 else .no
def dLst (m : Bool) (a : EA) : EV := fun sw h => (a sw h).bind fun ws h1 => if ws.length ≤ lim then newL m ws h1 else .no
theorem we_tup {x1} (ha : WA A X es aa) : WE A X (.Tuple es x1 pos) (dTup aa) := fun wx tk =>
  PE_imp (pe_tupN (ha wx tk)) fun σ H Q t => by
    obtain ⟨k, sw, h, hs, hh, d⟩ := TAx.bind t
    refine ⟨k, sw, h, hs, hh, d.imp fun vs H1 ⟨k1, sw1, ws, h1, hs1, hh1, r, d1⟩ => ?_⟩
    split at d1
    · rename_i hl
      exact ⟨by rw [r.length]; exact lim_le hl, den_newT hh1 r d1⟩
    · exact d1.elim
theorem we_lst {m : Bool} (ha : WA A X es aa) : WE A X (.List es pos) (dLst m aa) := fun wx tk =>
  PE_imp (pe_lst (ha wx tk)) fun σ H Q t => by
    obtain ⟨k, sw, h, hs, hh, d⟩ := TAx.bind t
    refine ⟨k, sw, h, hs, hh, d.imp fun vs H1 ⟨k1, sw1, ws, h1, hs1, hh1, r, d1⟩ => ?_⟩
    split at d1
    · rename_i hl
      exact ⟨by rw [r.length]; exact lim_le hl, den_newL hh1 r d1⟩
    · exact d1.elim

/-! ### subscripts -/
def fIxS (x y : W) (h : WH) : R W := match y with
  | .int i => match x with
    | .str s => if s.length ≤ lim then (match atI s.cps.toList i with | some c => .ok (.str ⟨#[c]⟩) h | none => .no) else .no
    | x => match seqOf h x with
      | some ws => (match atI ws i with | some w => .ok w h | none => .no)
      | none => .no
  | _ => .no
theorem atI_rep {G : Gx} {k : Ka} {ws : List W} {vs : List V} {i : Int} {w : W} (r : RepL G k ws vs) (e : atI ws i = some w) : ∃ v, atI vs i = some v ∧ Rep G k w v := by
  unfold atI at e ⊢
  rw [r.length]
  obtain ⟨j, e1, e2⟩ := Option.bind_eq_some_iff.mp e
  obtain ⟨v, e3, r2⟩ := r.get e2
  exact ⟨v, by rw [e1]; exact e3, r2⟩
theorem opw_ixS (hK : X.K = A.K) : OpW A X (rIx X.K) fIxS := by
  intro wx k H σ h x y u v Q hh rx ry d
  unfold fIxS at d
  split at d
  · simp only [Rep] at ry
    subst ry
    split at d
    · split at d
      · rename_i hl
        split at d
        · rename_i c e
          simp only [Rep] at rx
          subst rx
          exact .inr (.inr ⟨_, _, c, rfl, rfl, lim_le hl, e, den_val hh (by simp [Rep]) d⟩)
        · exact d.elim
      · exact d.elim
    · split at d
      · rename_i ws e
        split at d
        · rename_i w e2
          obtain ⟨p, vs, rfl, q, r2⟩ := seqAt hh rx e
          obtain ⟨v, e3, r3⟩ := atI_rep r2 e2
          have qv := den_val hh r3 d
          rcases q with q | q
          · exact .inl ⟨p, vs, _, v, rfl, rfl, by rw [hK]; exact q, e3, qv⟩
          · exact .inr (.inl ⟨p, vs, _, v, rfl, rfl, by rw [hK]; exact q, e3, qv⟩)
        · exact d.elim
      · exact d.elim
  · exact d.elim
/-- x[y], of dicts too -/
def fIx (x y : W) (h : WH) : R W := match dkOf h x with
  | some r => dIx y h r.1 r.2
  | none => match tdOf h x with
    | some r => tIx y h r.1 r.2
    | none => fIxS x y h
def rIxX (X : Cx) : R2 := fun x y H Q => rIx X.K x y H Q ∨ rDkI x y H Q ∨ rTdI X.K X.prog X.w x y H Q
theorem ix_X (x : XOk A N sc X) : IxR X (rIxX X) := ix_seq.or ((ix_dk (by have := x.un; omega)).or (ix_td (by have := x.un; omega)))
theorem opw_ix (xo : XOk A N sc X) : OpW A X (rIxX X) fIx := by
  intro wx k H σ h x y u v Q hh rx ry d
  unfold fIx at d
  split at d
  · rename_i r e
    exact .inr (.inl (dIx_ok hh rx ry e d))
  · split at d
    · rename_i r e
      exact .inr (.inr (tIx_ok xo hh rx ry e d))
    · exact .inl (opw_ixS xo.hK wx k H σ h x y u v Q hh rx ry d)
theorem we_ix (xo : XOk A N sc X) (ha : WE A X a ea) (hb : WE A X b eb) (hn : nonSlice b = true) : WE A X (.Subscript a b pos) (dOp fIx ea eb) := fun wx tk =>
  PE_imp (pe_ix (ix_X xo) (ha wx tk) (hb wx tk) (plainIx hn)) fun σ H Q t => by
    obtain ⟨k, sw, h, hs, hh, d⟩ := TEx.bind2 t
    exact ⟨k, sw, h, hs, hh, d.imp fun v H1 t2 => by
      obtain ⟨k1, sw1, h1, hs1, hh1, d1⟩ := t2
      exact ⟨k1, sw1, h1, hs1, hh1, d1.imp fun z H2 ⟨k2, w, u, h2, x2, r1, r2, d2⟩ => opw_ix xo wx k2 H2 σ h2 w u v z Q x2 r1 r2 d2⟩⟩

/-! ### slices -/
abbrev EO := WS → WH → R (Option Int)
def oNo : EO := fun _ h => .ok none h
def oSome (a : EV) : EO := fun sw h => (a sw h).bind fun w h1 => match w with | .int i => .ok (some i) h1 | _ => .no
def cutW (xs : List W) (lo hi : Option Int) : List W := (xs.drop (HT.sIx xs.length 0 lo)).take (HT.sIx xs.length xs.length hi - HT.sIx xs.length 0 lo)
def fSl (m : Bool) (x : W) (lo hi : Option Int) (h : WH) : R W := match x with
  | .str s => if s.length ≤ lim then .ok (.str (cutS s lo hi)) h else .no
  | .tup ws => .ok (.tup (cutW ws lo hi)) h
  | x => match lstOf h x with | some ws => newL m (cutW ws lo hi) h | none => .no
def dSl (m : Bool) (a : EV) (lo hi : EO) : EV := fun sw h => (a sw h).bind fun x h1 => (lo sw h1).bind fun l h2 => (hi sw h2).bind fun u h3 => fSl m x l u h3
/-! ### attributes -/
def lookF (f : Nat) : List Nat → List W → Option W
  | g :: fs, w :: ws => if f = g then some w else lookF f fs ws
  | _, _ => none
def putFs (f : Nat) : List Nat → List Nat
  | [] => [f]
  | g :: fs => if f = g then g :: fs else g :: putFs f fs
def putVs (f : Nat) (x : W) : List Nat → List W → List W
  | [], _ => [x]
  | g :: fs, w :: ws => if f = g then x :: ws else w :: putVs f x fs ws
  | _ :: _, [] => []
def insOf (h : WH) : W → Option (Nat × List Nat × List W)
  | .ins c fs vs => some (c, fs, vs)
  | .ref a => match h[a]? with | some (.ins c fs vs) => some (c, fs, vs) | _ => none
  | _ => none
/-- what the written part says of the attributes' names -/
structure FldOk (A : Ax) : Prop where
  inj : ∀ c f g, A.lay c f = true → A.lay c g = true → A.fn f = A.fn g → f = g
  na : ∀ c C f, A.cl c = some C → A.lay c f = true → NoAttr A.K C (A.fn f)
  cls : ∀ c C f, A.cl c = some C → A.lay c f = true → Cls A.K C
def dFld (a : EV) (f : Nat) : EV := fun sw h => (a sw h).bind fun w h1 => match insOf h1 w with
  | some (_, fs, ws) => (match lookF f fs ws with | some x => .ok x h1 | none => .no)
  | none => .no
/-! ### built-ins by name -/
def CallW (A : Ax) (X : Cx) (r : List V → Hp → VK → Prop) (f : List W → WH → R W) : Prop :=
  ∀ (wx : WX) (k : Ka) (H : Hp) (σ : St) (h : WH) (ws : List W) (vs : List V) (Q : VK), HRep A.toGx k H h → RepL A.toGx k ws vs → Den A.toGx (Rep A.toGx) wx k H σ (f ws h) Q → r vs H Q
def dBi (f : List W → WH → R W) (a : EA) : EV := fun sw h => (a sw h).bind f
theorem gl_of (x : XOk A N sc X) {n : Str} (hs : sc.names.lookup n = some .globalImplicit) : Gl X n := by unfold Gl Env.kindOf; rw [x.hsc]; exact hs
theorem we_biB (x : XOk A N sc X) {n : Str} {id : String} {r : List V → Hp → VK → Prop} {f : List W → WH → R W} {e : Expr} {p : Pos} (hc : CallR X (.builtin id) r) (hf : CallW A X r f) (hs : sc.names.lookup n = some .globalImplicit) (hg : A.gt.lookup n = some .blt)
    (hv : bootBuiltins n = some (.builtin id)) (ha : WA A X (e :: es) aa) (h1 : n ≠ ("__name__" : Str)) (h2 : (n == ("__debug__" : Str)) = false) (h3 : (e :: es).all nonStar = true) : WE A X (.Call (.Name n p) (e :: es) [] pos) (dBi f aa) := fun wx tk =>
  PE_imp (pe_callB hc (gl_of x hs) (x.glob.blt n hg) hv (ha wx tk) h1 h2 (star_ok (by simp only [List.all_cons, Bool.and_eq_true] at h3; exact h3.1)) (stars_any (by simp only [List.all_cons, Bool.and_eq_true] at h3; exact h3.2))) fun σ H Q t => by
    obtain ⟨k, sw, h, hs, hh, d⟩ := TAx.bind t
    exact ⟨k, sw, h, hs, hh, d.imp fun vs H1 ⟨k1, sw1, ws, h1, hs1, hh1, r, d1⟩ => hf wx k1 H1 σ h1 ws vs Q hh1 r d1⟩
theorem we_biT (x : XOk A N sc X) {n : Str} {id : String} {r : List V → Hp → VK → Prop} {f : List W → WH → R W} {e : Expr} {p : Pos} (hc : CallR X (.type id) r) (hf : CallW A X r f) (hs : sc.names.lookup n = some .globalImplicit) (hg : A.gt.lookup n = some .blt)
    (hv : bootBuiltins n = some (.type id)) (ha : WA A X (e :: es) aa) (h1 : n ≠ ("__name__" : Str)) (h2 : (n == ("__debug__" : Str)) = false) (h3 : (e :: es).all nonStar = true) : WE A X (.Call (.Name n p) (e :: es) [] pos) (dBi f aa) := fun wx tk =>
  PE_imp (pe_callTy hc (gl_of x hs) (x.glob.blt n hg) hv (ha wx tk) h1 h2 (star_ok (by simp only [List.all_cons, Bool.and_eq_true] at h3; exact h3.1)) (stars_any (by simp only [List.all_cons, Bool.and_eq_true] at h3; exact h3.2))) fun σ H Q t => by
    obtain ⟨k, sw, h, hs, hh, d⟩ := TAx.bind t
    exact ⟨k, sw, h, hs, hh, d.imp fun vs H1 ⟨k1, sw1, ws, h1, hs1, hh1, r, d1⟩ => hf wx k1 H1 σ h1 ws vs Q hh1 r d1⟩
theorem rep1 {G : Gx} {k : Ka} {w : W} {vs : List V} (r : RepL G k [w] vs) : ∃ v, vs = [v] ∧ Rep G k w v := by
  simp only [RepL] at r
  obtain ⟨v, r, rfl, h, rfl⟩ := r
  exact ⟨v, rfl, h⟩
theorem rep2 {G : Gx} {k : Ka} {w u : W} {vs : List V} (r : RepL G k [w, u] vs) : ∃ v z, vs = [v, z] ∧ Rep G k w v ∧ Rep G k u z := by
  simp only [RepL] at r
  obtain ⟨v, r, rfl, h, z, r', rfl, h', rfl⟩ := r
  exact ⟨v, z, rfl, h, h'⟩
def bLen (ws : List W) (h : WH) : R W := match ws with
  | [.str s] => if s.length ≤ lim then .ok (.int s.length) h else .no
  | [w] => match seqOf h w with | some xs => .ok (.int xs.length) h | none => .no
  | _ => .no
theorem cw_len (hK : X.K = A.K) : CallW A X (fun xs H Q => ∃ x n, xs = [x] ∧ LenV X.K x H n ∧ Q (.int n) H) bLen := by
  intro wx k H σ h ws vs Q hh r d
  unfold bLen at d
  split at d
  · split at d
    · rename_i hl
      obtain ⟨v, rfl, r1⟩ := rep1 r
      simp only [Rep] at r1
      subst r1
      exact ⟨_, _, rfl, ⟨lim_le hl, rfl⟩, den_val hh (by simp [Rep]) d⟩
    · exact d.elim
  · split at d
    · rename_i xs e
      obtain ⟨v, rfl, r1⟩ := rep1 r
      obtain ⟨p, vs, rfl, q, r2⟩ := seqAt hh r1 e
      refine ⟨_, vs.length, rfl, ?_, den_val hh (by rw [r2.length]; simp [Rep]) d⟩
      rw [hK]
      rcases q with q | q
      · exact .inl ⟨vs, q, rfl⟩
      · exact .inr ⟨vs, q, rfl⟩
    · exact d.elim
  · exact d.elim
def bAbs (ws : List W) (h : WH) : R W := match ws with | [.int i] => .ok (.int (if i < 0 then -i else i)) h | _ => .no
theorem cw_abs : CallW A X (fun xs H Q => ∃ i, xs = [.int i] ∧ Q (.int (if i < 0 then -i else i)) H) bAbs := by
  intro wx k H σ h ws vs Q hh r d
  unfold bAbs at d
  split at d
  · obtain ⟨v, rfl, r1⟩ := rep1 r
    simp only [Rep] at r1
    subst r1
    exact ⟨_, rfl, den_val hh (by simp [Rep]) d⟩
  · exact d.elim
def bMax2 (ws : List W) (h : WH) : R W := match ws with | [.int i, .int j] => .ok (.int (if j > i then j else i)) h | _ => .no
theorem cw_max2 : CallW A X (fun xs H Q => ∃ i j, xs = [.int i, .int j] ∧ Q (.int (if j > i then j else i)) H) bMax2 := by
  intro wx k H σ h ws vs Q hh r d
  unfold bMax2 at d
  split at d
  · obtain ⟨v, z, rfl, r1, r2⟩ := rep2 r
    simp only [Rep] at r1 r2
    subst r1; subst r2
    exact ⟨_, _, rfl, den_val hh (by simp [Rep]) d⟩
  · exact d.elim
def bMin2 (ws : List W) (h : WH) : R W := match ws with | [.int i, .int j] => .ok (.int (if j < i then j else i)) h | _ => .no
theorem cw_min2 : CallW A X (fun xs H Q => ∃ i j, xs = [.int i, .int j] ∧ Q (.int (if j < i then j else i)) H) bMin2 := by
  intro wx k H σ h ws vs Q hh r d
  unfold bMin2 at d
  split at d
  · obtain ⟨v, z, rfl, r1, r2⟩ := rep2 r
    simp only [Rep] at r1 r2
    subst r1; subst r2
    exact ⟨_, _, rfl, den_val hh (by simp [Rep]) d⟩
  · exact d.elim
def bInt (ws : List W) (h : WH) : R W := match ws with | [.int i] => .ok (.int i) h | [.bl b] => .ok (.int (if b then 1 else 0)) h | _ => .no
theorem cw_int : CallW A X (fun xs H Q => (∃ i, xs = [.int i] ∧ Q (.int i) H) ∨ ∃ k, xs = [.bl k] ∧ Q (.int (if k then 1 else 0)) H) bInt := by
  intro wx k H σ h ws vs Q hh r d
  unfold bInt at d
  split at d
  · obtain ⟨v, rfl, r1⟩ := rep1 r
    simp only [Rep] at r1
    subst r1
    exact .inl ⟨_, rfl, den_val hh (by simp [Rep]) d⟩
  · obtain ⟨v, rfl, r1⟩ := rep1 r
    simp only [Rep] at r1
    subst r1
    exact .inr ⟨_, rfl, den_val hh (by simp [Rep]) d⟩
  · exact d.elim
/-- lists of truths -/
def blsOf : List W → Option (List Bool)
  | [] => some []
  | .bl b :: ws => (blsOf ws).map (b :: ·)
  | _ => none
theorem bls_rep {G : Gx} {k : Ka} : ∀ {ws : List W} {bs : List Bool} {vs : List V}, RepL G k ws vs → blsOf ws = some bs → vs = bs.map V.bl
  | [], bs, vs, r, e => by simp only [RepL] at r; simp only [blsOf] at e; cases e; subst r; rfl
  | w :: ws, bs, vs, r, e => by
    simp only [RepL] at r
    obtain ⟨v, r', rfl, h1, h2⟩ := r
    cases w <;> simp only [blsOf, reduceCtorEq] at e
    obtain ⟨cs, e1, rfl⟩ := Option.map_eq_some_iff.mp e
    simp only [Rep] at h1
    rw [h1, bls_rep h2 e1]; rfl
def bAll (ws : List W) (h : WH) : R W := match ws with | [w] => (match (lstOf h w).bind blsOf with | some bs => .ok (.bl (bs.all id)) h | none => .no) | _ => .no
theorem cw_all (hK : X.K = A.K) : CallW A X (rAll X.K) bAll := by
  intro wx k H σ h ws vs Q hh r d
  unfold bAll at d
  split at d
  · split at d
    · rename_i bs e
      obtain ⟨xs, e1, e2⟩ := Option.bind_eq_some_iff.mp e
      obtain ⟨v, rfl, r1⟩ := rep1 r
      obtain ⟨p, vs, rfl, q, r2⟩ := listAt hh r1 e1
      have := bls_rep r2 e2
      subst this
      exact ⟨p, bs, rfl, SqL.of q, den_val hh (by simp [Rep]) d⟩
    · exact d.elim
  · exact d.elim
end
end KW

set_option Elab.async false
set_option linter.all false
set_option maxRecDepth 100000
set_option maxHeartbeats 4000000
/-! calls of the program's own: defs, methods, classes -/
namespace KW
open PySem L2

abbrev Fns := Nat → List W → WH → R W
/-- a def's promise: what its meaning gives -/
def spF (G : Gx) (φ : List W → WH → R W) : Sp := fun vs H Q E => ∃ k ws h, RepL G k ws vs ∧ HRep G k H h ∧ Den G (Rep G) (fun cls d _ H' => E cls d H') k H [] (φ ws h) Q

/-- a def takes this: so many by place, these by names -/
def KwB (K : PySem.W.Frag) (fd : FuncData) (ps : List Str) (n : Nat) (ks : List Str) (pm : List Nat) : Prop :=
  ∀ (s : Shared) (us ws : List Value), K.In s.heap → us.length = n → ws.length = ks.length → BindsTo s fd ⟨us, ks.zip ws⟩ (ps.zip (pm.map fun i => (us ++ ws).getD i .none))
/-- an own exception class that keeps one thing -/
def ExOk (A : Ax) (prog : Program) (w : World) (mg : Str → Option Value) (base : Heap) (c f : Nat) : Prop :=
  ∃ (C fI : Addr) (fd : FuncData) (p1 : Str), A.cl c = some C ∧ OexC A.K C ∧ PySem.W.findIn A.K (.ref C) "__init__" = some (some (.ref fI)) ∧ PySem.W.typeIn A.K (.ref fI) = some (.type "function") ∧
    PySem.W.findIn A.K (.ref C) (A.fn f) = some none ∧ (FnOk prog w A.K mg base (L2.CX prog w) 1 fI fd ["self", p1] (spX A.K (A.fn f)) ∧ L2H.FnH prog w A.K mg base (L2.CX prog w) 1 fI fd ["self", p1] (spX A.K (A.fn f))) ∧ (Binds A.K fd ["self", p1] [] ∧ ∀ m ks pm, A.kw (1000 + c) m ks = some pm → KwB A.K fd ["self", p1] m ks pm)
/-- one that keeps nothing -/
def ExOk0 (A : Ax) (prog : Program) (w : World) (mg : Str → Option Value) (base : Heap) (c : Nat) : Prop :=
  ∃ (C fI : Addr) (fd : FuncData), A.cl c = some C ∧ OexC A.K C ∧ PySem.W.findIn A.K (.ref C) "__init__" = some (some (.ref fI)) ∧ PySem.W.typeIn A.K (.ref fI) = some (.type "function") ∧
    FnOk prog w A.K mg base (L2.CX prog w) 1 fI fd ["self"] (spX0 A.K) ∧ Binds A.K fd ["self"] []
/-- an except clause's look -/
def SubOk (A : Ax) : Prop := ∀ c d b, A.sub c d = some b → ∃ C D, A.cl c = some C ∧ A.cl d = some D ∧ PySem.W.exmOne A.K (.ref C) (.ref D) = some b
/-- a def takes this: so many by place, its last parameter left out -/
def KwC (K : PySem.W.Frag) (fd : FuncData) (ps : List Str) (n : Nat) (j : Int) : Prop :=
  ∃ u : Value, RelV (.int j) u ∧ ∀ (s : Shared) (us : List Value), K.In s.heap → us.length = n → BindsTo s fd ⟨us, []⟩ (ps.zip (us ++ [u]))
/-- what the calls of a piece of code lean on -/
structure COk (A : Ax) (Φ : Fns) (n : Nat) (X : Cx) : Prop where
  room : Room (n + 1) X.A
  lv : 1 ≤ n
  ex : ∀ c f, A.exf c = some f → ExOk A X.prog X.w X.mg X.base c f
  ex0 : ∀ c, A.ex0 c = true → ExOk0 A X.prog X.w X.mg X.base c
  sub : SubOk A
  fn : ∀ f a, A.fa f = some a → ∃ fd ps, FnG X.prog X.w X.K X.mg X.base (CXH X.prog X.w X.mg) n a fd ps (spF A.toGx (Φ f)) ∧ PySem.W.keepIn X.K (.ref a) = true ∧ (A.kwo f = false → Binds X.K fd ps [])
  mt : ∀ c m f, A.mt c m = some f → ∃ C a, A.cl c = some C ∧ A.fa f = some a ∧ Meth X.K C (A.mn m) a ∧ Cls X.K C ∧ ∀ g, A.lay c g = true → A.fn g ≠ A.mn m
  kf : ∀ f a, A.fa f = some a → ∃ fd ps, FnG X.prog X.w X.K X.mg X.base (CXH X.prog X.w X.mg) n a fd ps (spF A.toGx (Φ f)) ∧ PySem.W.keepIn X.K (.ref a) = true ∧ ∀ m ks pm, A.kw f m ks = some pm → KwB X.K fd ps m ks pm
  ini : ∀ c f, A.ini c = some f → ∃ C a, A.cl c = some C ∧ A.fa f = some a ∧ Mk X.K C a
  mko : (∀ c m f, A.mt c m = some f → A.kwo f = false) ∧ ∀ c f, A.ini c = some f → A.kwo f = false
  kc : ∀ f a, A.fa f = some a → ∃ fd ps, FnG X.prog X.w X.K X.mg X.base (CXH X.prog X.w X.mg) n a fd ps (spF A.toGx (Φ f)) ∧ PySem.W.keepIn X.K (.ref a) = true ∧ ∀ m j, A.kwc f m = some j → KwC X.K fd ps m j

theorem den_ctx {G : Gx} {rp : Ka → W → V → Prop} {wx wy : WX} {k : Ka} {H : Hp} {σ σ' : St} {r : R W} {Q : VK} (h : Den G rp wx k H σ r Q) (i : ∀ cls d H', wx cls d σ H' → wy cls d σ' H') : Den G rp wy k H σ' r Q := by
  cases r with
  | ok w h' => exact h
  | exc c fs vs h' => exact fun C d k' H' n x xr fr => i _ _ _ (h C d k' H' n x xr fr)
  | no => exact h

section
variable {A : Ax} {X : Cx} {N : List Str} {sc : Scope} {Φ : Fns} {n : Nat} {a b c e : Expr} {ea eb ec : EV} {aa : EA} {p pos apos : Pos} {es : List Expr}

/-! ### f(..) -/
def dCall (φ : List W → WH → R W) (a : EA) : EV := fun sw h => (a sw h).bind φ
theorem we_call (x : XOk A N sc X) (C : COk A Φ n X) {f : Nat} {nm : Str} (hk : A.kwo f = false) (hs : sc.names.lookup nm = some .globalImplicit) (hg : A.gt.lookup nm = some (.fn f)) (h2 : (nm == ("__debug__" : Str)) = false) (ha : WA A X (e :: es) aa) (h3 : (e :: es).all nonStar = true) :
    WE A X (.Call (.Name nm p) (e :: es) [] pos) (dCall (Φ f) aa) := fun wx tk => by
  obtain ⟨fa, e1, hm⟩ := x.glob.fn nm f hg
  obtain ⟨fd, ps, F, kp, hb⟩ := C.fn f fa e1
  replace hb := hb hk
  simp only [List.all_cons, Bool.and_eq_true] at h3
  refine ⟨fun pins s σ H Q I t => ?_⟩
  refine wpAny_Call_Name_kw (ld_glob I (gl_of x hs) hm ?_ h2)
  obtain ⟨k, sw, h, hs', hh, d⟩ := TAx.bind t
  refine PySem.W.callWith_K (h₀ := X.base) I.ok.mod.kin kp (thn ((ha wx tk).run pos pins s σ H _ I ⟨k, sw, h, hs', hh, d⟩) fun us s1 hu => ?_) (star_ok h3.1) (stars_any h3.2)
  obtain ⟨vs, H1, I1, rs, k1, sw1, ws, h1, hs1, hh1, r, d1⟩ := hu
  exact ⟨I1.kIn, run_fnG (E := L2.WE wx) F x.gd (C.room.mono (Nat.le_succ _)) hb (passAt tk σ) I1 rs ⟨k1, ws, h1, r, hh1, den_ctx d1 fun _ _ _ q => q⟩⟩
/-! ### o.m(..) -/
/-! ### C(..) -/
theorem HRep.other {G : Gx} {k : Ka} {H : Hp} {h : WH} {p : Addr} {o : HO} (x : HRep G k H h) (hp : H p = none) : HRep G k (upd H p o) h where
  sub := fun a u e => by
    have z : a ≠ p := fun z => by
      have := x.sub a u e
      rw [z, hp] at this; cases this
    rw [upd_ne z]; exact x.sub a u e
  len := x.len
  nd := x.nd
  trk := fun a ha => by
    have z : a ≠ p := fun z => x.noMu hp (by rw [← z]; exact ha)
    rw [upd_ne z]; exact x.trk a ha
  ob := fun i u q e1 e2 => by
    obtain ⟨r, n⟩ := x.ob i u q e1 e2
    have z : q ≠ p := fun z => x.noMu hp (z ▸ List.mem_of_getElem? e2)
    refine ⟨r.mono (.refl k) (upd_ne z), fun d => ?_⟩
    obtain ⟨n1, n2⟩ := n d
    exact ⟨n1, by rw [upd_ne z]; exact n2⟩
theorem Nxt.other {k : Ka} {H : Hp} {p : Addr} {o : HO} (hp : H p = none) : Nxt k H k (upd H p o) where
  le := .refl k
  oth := fun a ha _ => upd_ne fun z => ha (z ▸ hp)
  fro := fun a u e => .inl e
  new := fun a ha => .inl ha
  trk := fun a ha => by
    have z : a ≠ p := fun z => ha (by rw [z]; exact hp)
    rw [upd_ne z]; exact ha
/-! ### isinstance -/
end
end KW

set_option Elab.async false
set_option linter.all false
set_option maxRecDepth 100000
set_option maxHeartbeats 4000000
/-! targets, what loops walk, statements -/
namespace KW
open PySem L2

/-! ### targets -/
inductive Tg where
  | nm (i : Nat)
  | tup (ts : List Tg)
mutual
def tgW : Tg → W → WS → Option WS
  | .nm i, w, sw => some (sw.set i (some w))
  | .tup ts, .tup ws, sw => tgWs ts ws sw
  | .tup ts, .lst ws, sw => tgWs ts ws sw
  | .tup _, _, _ => none
def tgWs : List Tg → List W → WS → Option WS
  | [], [], sw => some sw
  | t :: ts, w :: ws, sw => (tgW t w sw).bind fun sw' => tgWs ts ws sw'
  | _, _, _ => none
end
mutual
def Tg.slots : Tg → List Nat
  | .nm i => [i]
  | .tup ts => Tg.slotss ts
def Tg.slotss : List Tg → List Nat
  | [] => []
  | t :: ts => Tg.slots t ++ Tg.slotss ts
end
/-- all slots but these stand -/
def Off (own : List Nat) (σ σ' : St) : Prop := σ'.length = σ.length ∧ ∀ j, j ∉ own → σ'[j]? = σ[j]?
def TGx (G : Gx) (own : List Nat) (t : W → WS → Option WS) : TG := fun v σ H Q => ∃ k sw h w sw', SRep G k sw σ ∧ HRep G k H h ∧ Rep G k w v ∧ t w sw = some sw' ∧ ∀ σ', SRep G k sw' σ' → Off own σ σ' → Q σ' H
def TGsx (G : Gx) (own : List Nat) (t : List W → WS → Option WS) : TGs := fun vs σ H Q => ∃ k sw h ws sw', SRep G k sw σ ∧ HRep G k H h ∧ RepL G k ws vs ∧ t ws sw = some sw' ∧ ∀ σ', SRep G k sw' σ' → Off own σ σ' → Q σ' H
def WG (A : Ax) (X : Cx) (e : Expr) (t : Tg) : Prop := PG X e (TGx A.toGx t.slots (tgW t))
def WGs (A : Ax) (X : Cx) (es : List Expr) (ts : List Tg) : Prop := PGs X es (TGsx A.toGx (Tg.slotss ts) (tgWs ts))
theorem PG_imp {X : Cx} {e : Expr} {t t' : TG} (h : PG X e t) (i : ∀ v σ H Q, t' v σ H Q → t v σ H Q) : PG X e t' := ⟨fun pins s σ H v u Q I r q => h.run pins s σ H v u Q I r (i v σ H Q q)⟩
theorem PGs_imp {X : Cx} {e : List Expr} {t t' : TGs} (h : PGs X e t) (i : ∀ v σ H Q, t' v σ H Q → t v σ H Q) : PGs X e t' := ⟨fun pins s σ H v u Q I r q => h.run pins s σ H v u Q I r (i v σ H Q q)⟩
section
variable {A : Ax} {X : Cx} {N : List Str} {sc : Scope} {Φ : Fns} {n : Nat} {a b c e : Expr} {ea eb ec : EV} {aa : EA} {p pos apos : Pos} {es : List Expr}
/-- what may be stored -/
structure StOk (A : Ax) (N : List Str) (sc : Scope) (X : Cx) : Prop extends XOk A N sc X where
  fn : ∀ y, X.fn y = true
  stack : X.stack = X.env :: X.outer
  frame : X.env.frame = some X.env.locals
theorem wg_nm (x : XOk A N sc X) {i : Nat} {y : Str} (hN : N[i]? = some y) (hl : L2.Loc sc y) (hf : X.fn y = true ∨ sc.names.lookup y = some .local) : WG A X (.Name y pos) (.nm i) :=
  PG_imp (pg_name (by rw [x.hN]; exact x.nd) (by rw [x.hN]; exact hN) (by rw [x.hsc]; exact hl) (by rw [x.hsc]; exact hf)) fun v σ H Q ⟨k, sw, h, w, sw', hs, hh, r, e, q⟩ => by
    simp only [tgW, Option.some.injEq] at e
    subst e
    refine q _ (hs.set i r) ⟨by rw [List.length_set], fun j hj => List.getElem?_set_ne fun z => hj ?_⟩
    simp [Tg.slots, z]
theorem wgs_nil : WGs A X [] [] := PGs_imp pgs_nil fun v σ H Q ⟨k, sw, h, ws, sw', hs, hh, r, e, q⟩ => by
  cases ws with
  | nil =>
    simp only [RepL] at r
    simp only [tgWs, Option.some.injEq] at e
    subst r; subst e
    exact ⟨rfl, q _ hs ⟨rfl, fun _ _ => rfl⟩⟩
  | cons w ws => simp [tgWs] at e
theorem wgs_cons {t : Tg} {ts : List Tg} (h1 : WG A X e t) (h2 : WGs A X es ts) (hs : (assignEach (e :: es) X.env).map (·.2) = assign e X.env :: (assignEach es X.env).map (·.2)) : WGs A X (e :: es) (t :: ts) :=
  PGs_imp (pgs_cons h1 h2 hs) fun v σ H Q ⟨k, sw, h, ws, sw', hs, hh, r, e, q⟩ => by
    cases ws with
    | nil => simp [tgWs] at e
    | cons w ws =>
      simp only [RepL] at r
      obtain ⟨v1, vr, rfl, r1, r2⟩ := r
      simp only [tgWs] at e
      obtain ⟨sw1, e1, e2⟩ := Option.bind_eq_some_iff.mp e
      exact ⟨v1, vr, rfl, k, sw, h, w, sw1, hs, hh, r1, e1, fun σ1 hs1 o1 => ⟨k, sw1, h, ws, sw', hs1, hh, r2, e2, fun σ2 hs2 o2 => q σ2 hs2 ⟨o2.1.trans o1.1, fun j hj => by
        simp only [Tg.slotss, List.mem_append, not_or] at hj
        rw [o2.2 j hj.2, o1.2 j hj.1]⟩⟩⟩
theorem assignEach_len {env : Env} : ∀ {es : List Expr}, (assignEach es env).length = es.length
  | [] => rfl
  | e :: es => by
    have ih := assignEach_len (env := env) (es := es)
    cases e <;> first | (simp only [assignEach, List.length_cons, ih]; done) | (unfold assignEach; simp [ih])
theorem assignEach_cons {env : Env} {e : Expr} {es : List Expr} (h : nonStar e = true) : (assignEach (e :: es) env).map (·.2) = assign e env :: (assignEach es env).map (·.2) := by
  cases e <;> first | rfl | simp [nonStar] at h
theorem assignEach_star {env : Env} : ∀ {es : List Expr}, es.all nonStar = true → (assignEach es env).findIdx? (·.1) = none
  | [], _ => rfl
  | e :: es, h => by
    simp only [List.all_cons, Bool.and_eq_true] at h
    have ih := assignEach_star (env := env) h.2
    have : assignEach (e :: es) env = (false, assign e env) :: assignEach es env := by
      cases e <;> first | rfl | simp [nonStar] at h
    rw [this, List.findIdx?_cons]
    simp only [Bool.false_eq_true, if_false, ih, Option.map_none]
theorem tgWs_len : ∀ {ts : List Tg} {ws : List W} {sw sw' : WS}, tgWs ts ws sw = some sw' → ws.length = ts.length
  | [], [], _, _, _ => rfl
  | [], _ :: _, _, _, e => by simp [tgWs] at e
  | _ :: _, [], _, _, e => by simp [tgWs] at e
  | t :: ts, w :: ws, sw, sw', e => by
    simp only [tgWs] at e
    obtain ⟨sw1, _, e2⟩ := Option.bind_eq_some_iff.mp e
    simp [tgWs_len e2]
theorem PG_or {X : Cx} {e : Expr} {t t' : TG} (h : PG X e t) (h' : PG X e t') : PG X e (fun v σ H Q => t v σ H Q ∨ t' v σ H Q) := ⟨fun pins s σ H v u Q I r q => q.elim (h.run pins s σ H v u Q I r) (h'.run pins s σ H v u Q I r)⟩
theorem wg_tup (x : XOk A N sc X) {ts : List Tg} {kk : Nat} (h : WGs A X es ts) (hl : es.length = ts.length) (h3 : es.all nonStar = true) : WG A X (.Tuple es kk pos) (.tup ts) :=
  PG_imp (PG_or (pg_tup (n := es.length) x.calm h assignEach_len (assignEach_star h3)) (pg_lst (n := es.length) x.calm h assignEach_len (assignEach_star h3))) fun v σ H Q ⟨k, sw, h, w, sw', hs, hh, r, e, q⟩ => by
    cases w <;> simp only [tgW, reduceCtorEq] at e
    · rename_i ws
      obtain ⟨p1, vs, rfl, q1, r1⟩ := tupAt hh r
      exact .inl ⟨p1, vs, rfl, by rw [x.hK]; exact q1, by rw [r1.length, hl]; exact tgWs_len e, k, sw, h, ws, sw', hs, hh, r1, e, q⟩
    · rename_i ws
      simp only [Rep] at r
      obtain ⟨p1, vs, rfl, q1, r1⟩ := r
      exact .inr ⟨p1, vs, rfl, by rw [x.hK]; exact SqL.of (hh.sub _ _ q1), by rw [r1.length, hl]; exact tgWs_len e, k, sw, h, ws, sw', hs, hh, r1, e, q⟩

/-! ### statements -/
def sNil : EW := fun sw h => .ok (.next sw) h
def sSeq (s : EW) (r : EW) : EW := fun sw h => match s sw h with
  | .ok (.next sw1) h1 => r sw1 h1
  | x => x
theorem ws_nil : WSs A X [] sNil := fun wx tk po => PSs_imp pss_nil fun D σ H ⟨k, sw, h, hs, hh, d⟩ => d σ k H (.refl _ _) hh hs
theorem ws_cons {st : Stmt} {rest : List Stmt} {s r : EW} (h1 : WSt A X st s) (h2 : WSs A X rest r) : WSs A X (st :: rest) (sSeq s r) := fun wx tk po =>
  PSs_imp (pss_cons (h1 wx tk po) (h2 wx tk po)) fun D σ H ⟨k, sw, h, hs, hh, d⟩ => by
    refine ⟨k, sw, h, hs, hh, ?_⟩
    unfold sSeq at d
    cases e : s sw h with
    | no => rw [e] at d; exact d
    | exc s' c fs vs h' => rw [e] at d; exact d
    | ok f h1 =>
      rw [e] at d
      cases f with
      | next sw1 => exact fun σ1 k1 H1 n1 hh1 hs1 => ⟨k1, sw1, h1, hs1, hh1, d.nxt n1⟩
      | ret w => exact d
      | brk s => exact d
      | cont s => exact d
/-- an expression's result, then a statement's -/
def R.st {α : Type} (r : R α) (sw : WS) (f : α → WH → RS) : RS := match r with
  | .ok a h => f a h
  | .exc c fs vs h => .exc sw c fs vs h
  | .no => .no
theorem DenS.bind {α β : Type} {G : Gx} {rp : Ka → α → β → Prop} {wx : WX} {k : Ka} {H : Hp} {σ : St} {sw : WS} {r : R α} {f : α → WH → RS} {D : Ends} (hs : SRep G k sw σ) (h : DenS G wx k H (r.st sw f) D) :
    Den G rp wx k H σ r fun v H' => ∃ k' w h', Nxt k H k' H' ∧ HRep G k' H' h' ∧ rp k' w v ∧ SRep G k' sw σ ∧ DenS G wx k' H' (f w h') D := by
  cases r with
  | ok w h' => exact fun v k' H' n x r => ⟨k', w, h', n, x, r, hs.mono n.le, DenS.nxt n h⟩
  | exc c fs vs h' => exact fun C d k' H' n x xr fr => h σ C d k' H' n x (hs.mono n.le) xr fr
  | no => exact h
def sSet (i : Nat) (a : EV) : EW := fun sw h => (a sw h).st sw fun w h1 => .ok (.next (sw.set i (some w))) h1
theorem ws_set (x : StOk A N sc X) {i : Nat} {y : Str} {py : Pos} (hN : N[i]? = some y) (hl : L2.Loc sc y) (ha : WE A X a ea) (hc : notComp a = true) : WSt A X (.Assign [.Name y py] a pos) (sSet i ea) := fun wx tk po =>
  PS_imp (ps_set (by rw [x.hN]; exact x.nd) (by rw [x.hN]; exact hN) (by rw [x.hsc]; exact hl) (ha wx tk) (swaps_not hc) (.inl (x.fn y))) fun D σ H ⟨k, sw, h, hs, hh, d⟩ =>
    ⟨k, sw, h, hs, hh, (DenS.bind (rp := Rep A.toGx) hs d).imp fun v H1 ⟨k1, w, h1, n1, hh1, r1, hs1, d1⟩ => d1 _ k1 H1 (.refl _ _) hh1 (hs1.set i r1)⟩
def sTg (t : W → WS → Option WS) (a : EV) : EW := fun sw h => (a sw h).st sw fun w h1 => match t w sw with | some sw' => .ok (.next sw') h1 | none => .no
/-- a, b = x, y -/
def sPar (i j : Nat) (a : EA) : EW := fun sw h => (a sw h).st sw fun ws h1 => match ws with | [w, u] => .ok (.next ((sw.set i (some w)).set j (some u))) h1 | _ => .no
theorem ws_par (x : XOk A N sc X) {i j : Nat} {y z : Str} {px py pt pt2 : Pos} {kt k2 : Nat} (hi : N[i]? = some y) (hj : N[j]? = some z) (hij : i ≠ j) (hy : sc.names.lookup y = some .local) (hz : sc.names.lookup z = some .local) (ha : WA A X [a, b] aa)
    (hw : swappedStores [.Tuple [.Name y px, .Name z py] kt pt] (.Tuple [a, b] k2 pt2) X.env = pure (some [y, z])) (hs : swapsWithSole [.Tuple [.Name y px, .Name z py] kt pt] (.Tuple [a, b] k2 pt2) pos.line X.env = pure false) :
    WSt A X (.Assign [.Tuple [.Name y px, .Name z py] kt pt] (.Tuple [a, b] k2 pt2) pos) (sPar i j aa) := fun wx tk po =>
  PS_imp (ps_par x.calm (by rw [x.hN]; exact x.nd) (by rw [x.hN]; exact hi) (by rw [x.hN]; exact hj) hij (by rw [x.hsc]; exact hy) (by rw [x.hsc]; exact hz) (ha wx tk) hw hs) fun D σ H ⟨k, sw, h, hs, hh, d⟩ =>
    ⟨k, sw, h, hs, hh, (DenS.bind (rp := RepL A.toGx) hs d).imp fun v H1 ⟨k1, w, h1, n1, hh1, r1, hs1, d1⟩ => by
      split at d1
      · obtain ⟨v1, v2, rfl, r2, r3⟩ := rep2 r1
        exact ⟨v1, v2, rfl, d1 _ k1 H1 (.refl _ _) hh1 ((hs1.set i r2).set j r3)⟩
      · exact d1.elim⟩
def sExpr (a : EV) : EW := fun sw h => (a sw h).st sw fun _ h1 => .ok (.next sw) h1
def sRet (a : EV) : EW := fun sw h => (a sw h).st sw fun w h1 => .ok (.ret w) h1
theorem ws_ret (ha : WE A X a ea) : WSt A X (.Return (some a) pos) (sRet ea) := fun wx tk po =>
  PS_imp (ps_ret (ha wx tk)) fun D σ H ⟨k, sw, h, hs, hh, d⟩ =>
    ⟨k, sw, h, hs, hh, (DenS.bind (rp := Rep A.toGx) hs d).imp fun v H1 ⟨k1, w, h1, n1, hh1, r1, hs1, d1⟩ => d1 _ k1 H1 (.refl _ _) hh1 r1⟩
def sIf (t : EB) (a b : EW) : EW := fun sw h => (t sw h).st sw fun c h1 => if c then a sw h1 else b sw h1
theorem ws_if {c : Expr} {p q : List Stmt} {tc : EB} {s r : EW} (hc : WT A X c tc) (hp : WSs A X p s) (hq : WSs A X q r) : WSt A X (.If c p q pos) (sIf tc s r) := fun wx tk po =>
  PS_imp (ps_if (hc wx tk) (hp wx tk po) (hq wx tk po)) fun D σ H ⟨k, sw, h, hs, hh, d⟩ =>
    ⟨k, sw, h, hs, hh, (DenS.bind (rp := fun _ a b => a = b) hs d).imp fun c H1 ⟨k1, w, h1, n1, hh1, e, hs1, d1⟩ => by
      subst e
      cases w with
      | true =>
        rw [if_pos rfl] at d1 ⊢
        exact ⟨k1, sw, h1, hs1, hh1, d1⟩
      | false =>
        rw [if_neg (by decide)] at d1 ⊢
        exact ⟨k1, sw, h1, hs1, hh1, d1⟩⟩
/-- o[i] = v of a logical list -/
def fSetI (o i v : W) (h : WH) : Option WH := match o with
  | .ref a => match h[a]? with
    | some (.lst ws) => (match i with | .int j => (match ixN ws.length j with | some n => some (h.set a (.lst (ws.set n v))) | none => none) | _ => none)
    | some (.dct ks ws) => (match keyOfW i with | some k => if ks.length < lim then some (h.set a (.dct (putD (keyW k) v ks ws).1 (putD (keyW k) v ks ws).2)) else none | none => none)
    | some (.td ks ws) => (match nkT i with | some n => if ks.length < lim then some (h.set a (.td (putT n i v ks ws).1 (putT n i v ks ws).2)) else none | none => none)
    | _ => none
  | _ => none
def sSetI (o i v : EV) : EW := fun sw h => (v sw h).st sw fun x h1 => (o sw h1).st sw fun y h2 => (i sw h2).st sw fun z h3 => match fSetI y z x h3 with | some h4 => .ok (.next sw) h4 | none => .no
theorem putK_keys {kvs : List (Key × V)} {k : Key} {v : V} (nd : (kvs.map (·.1)).Nodup) : ((putK kvs k v).map (·.1)).Nodup := by
  unfold putK
  split
  · have e : (kvs.map fun kv => if kv.1 = k then (kv.1, v) else kv).map (·.1) = kvs.map (·.1) := by
      rw [List.map_map]
      refine List.map_congr_left fun x _ => ?_
      by_cases z : x.1 = k <;> simp [z]
    rw [e]; exact nd
  · rename_i h
    rw [List.map_append]
    refine List.nodup_append.mpr ⟨nd, by simp, fun a ha c hc => ?_⟩
    simp at hc; subst hc
    intro z; subst z
    obtain ⟨x, hx, e⟩ := List.mem_map.mp ha
    exact h (List.any_eq_true.mpr ⟨x, hx, by simpa using e⟩)
def rSetX (X : Cx) : TSet := fun o i v H R => rSetL o i v H R ∨ rDkS o i v H R ∨ rTdS X.K X.prog X.w o i v H R
theorem set_X (xo : XOk A N sc X) : PSet X (rSetX X) := pset_or set_list (pset_or (set_dk (by have := xo.un; omega)) (set_td (by have := xo.un; omega)))
theorem setX_ok (xo : XOk A N sc X) {k : Ka} {H : Hp} {h h4 : WH} {o i x : W} {u z v : V} {R : Hp → Prop} (hh : HRep A.toGx k H h) (ro : Rep A.toGx k o u) (ri : Rep A.toGx k i z) (rx : Rep A.toGx k x v) (e : fSetI o i x h = some h4)
    (q : ∀ H', Nxt k H k H' → HRep A.toGx k H' h4 → R H') : rSetX X u z v H R := by
  unfold fSetI at e
  split at e
  · rename_i a
    split at e
    · rename_i ws ho
      split at e
      · rename_i j
        split at e
        · rename_i nn en
          cases e
          obtain ⟨p1, e1, em, vs, eH, rr⟩ := ref_at hh ro ho
          simp only [Rep] at ri
          subst ri
          obtain ⟨_, od⟩ := hh.ob _ _ _ ho em
          obtain ⟨oF, oM⟩ := od (by intro z; cases z)
          exact .inl ⟨p1, vs, _, nn, e1, rfl, eH, by rw [rr.length]; exact en, q _ (Nxt.put hh em) (hh.put em oF ⟨_, upd_same, rr.set nn rx⟩ trivial)⟩
        · cases e
      · cases e
    · rename_i ks ws ho
      split at e
      · rename_i key ek
        split at e
        · rename_i hl
          cases e
          obtain ⟨p1, e1, em, kvs, eH, nd, e2, rr⟩ := ref_at hh ro ho
          obtain ⟨rfl, _⟩ := keyOf_rep ri ek
          obtain ⟨_, od⟩ := hh.ob _ _ _ ho em
          obtain ⟨oF, oM⟩ := od (by intro z; cases z)
          subst e2
          obtain ⟨i1, i2⟩ := putD_rep (y := key) rx nd rr
          exact .inr (.inl ⟨p1, kvs, key, e1, rfl, eH, by rw [List.length_map] at hl; exact Nat.lt_of_lt_of_le hl (lim_le (Nat.le_refl _)), q _ (Nxt.put hh em) (hh.put em oF ⟨_, upd_same, putK_keys nd, i1, i2⟩ trivial)⟩)
        · cases e
      · cases e
    · rename_i ks ws ho
      split at e
      · rename_i n en
        split at e
        · rename_i hl
          cases e
          obtain ⟨p1, e1, em, xs, eH, nd, tr⟩ := ref_at hh ro ho
          obtain ⟨b, rfl, e2, hd⟩ := nkT_rep ri en
          obtain ⟨_, od⟩ := hh.ob _ _ _ ho em
          obtain ⟨oF, oM⟩ := od (by intro z; cases z)
          refine .inr (.inr ⟨p1, b, n, xs, e1, rfl, by rw [xo.hP, xo.hw]; exact eH, by rw [xo.hK]; exact tr.all hh.sub, by rw [xo.hK]; exact nk_of hh.sub ri e2, hd, by rw [tr.length]; exact Nat.lt_of_lt_of_le hl (lim_le (Nat.le_refl _)), q _ (Nxt.put hh em) ?_⟩)
          refine hh.put em oF ⟨putN xs n b v, ?_, putN_keys nd, tr.put e2 hd ri rx nd⟩ trivial
          rw [xo.hP, xo.hw]; exact upd_same
        · cases e
      · cases e
    · cases e
  · cases e
theorem ws_setI (xo : XOk A N sc X) (ho : WE A X a ea) (hi : WE A X b eb) (hv : WE A X c ec) {tp : Pos} (ha : ∀ v, assign (.Subscript a b tp) X.env v = (do
      let ov ← holding [v] (eval a X.env)
      let iv ← holding [v, ov] (eval b X.env)
      standAt tp
      holding [v, ov, iv] (setItem ov iv v)
      release [v, ov, iv] [])) (hs1 : swapsWithSole [.Subscript a b tp] c pos.line X.env = pure false) (hw : swappedStores [.Subscript a b tp] c X.env = pure none) (h1 : (assignEach [.Subscript a b tp] X.env).map (·.2) = [assign (.Subscript a b tp) X.env]) :
    WSt A X (.Assign [.Subscript a b tp] c pos) (sSetI ea eb ec) := fun wx tk po =>
  PS_imp (ps_asg (hv wx tk) (pg_sub (ho wx tk) (hi wx tk) (set_X xo) ha) hs1 hw h1) fun D σ H ⟨k, sw, h, hs, hh, d⟩ => by
    refine ⟨k, sw, h, hs, hh, (DenS.bind (rp := Rep A.toGx) hs d).imp fun v H1 ⟨k1, w1, h1, n1, hh1, r1, hs1, d1⟩ => ?_⟩
    refine ⟨k1, sw, h1, hs1, hh1, (DenS.bind (rp := Rep A.toGx) hs1 d1).imp fun o H2 ⟨k2, w2, h2, n2, hh2, r2, hs2, d2⟩ => ?_⟩
    refine ⟨k2, sw, h2, hs2, hh2, (DenS.bind (rp := Rep A.toGx) hs2 d2).imp fun i H3 ⟨k3, w3, h3, n3, hh3, r3, hs3, d3⟩ => ?_⟩
    split at d3
    · rename_i h4 e
      exact setX_ok xo hh3 (r2.mono n3.le) r3 (r1.mono (n2.le.trans n3.le)) e fun H' nx hx => d3 σ k3 _ nx hx hs3
    · exact d3.elim
end
end KW

set_option Elab.async false
set_option linter.all false
set_option maxRecDepth 100000
set_option maxHeartbeats 4000000
/-! loops, comprehensions, methods of lists -/
namespace KW
open PySem L2

def srcOk (src : Option Nat) (ws : List W) (h : WH) : Bool := match src with
  | none => true
  | some a => decide (h[a]? = some (.lst ws))
/-- an iterator over these items (of the logical list at src, as long as it stands) -/
structure Walks (G : Gx) (J : It) (k0 : Ka) (H0 : Hp) (ws : List W) (src : Option Nat) : Prop where
  go : ∀ i k H h, Nxt k0 H0 k H → HRep G k H h → srcOk src ws h = true → i < ws.length → J.go i H
  stop : ∀ k H h, Nxt k0 H0 k H → HRep G k H h → srcOk src ws h = true → J.stop ws.length H
  yld : ∀ i k H h x H' w, Nxt k0 H0 k H → HRep G k H h → srcOk src ws h = true → ws[i]? = some w → J.yld i H x H' → ∃ k', Nxt k H k' H' ∧ HRep G k' H' h ∧ Rep G k' w x
abbrev EI := WS → WH → R (List W × Option Nat)
def DenI (G : Gx) (wx : WX) (k : Ka) (H : Hp) (σ : St) (r : R (List W × Option Nat)) (Q : It → Hp → Prop) : Prop := match r with
  | .ok u h' => ∀ J k' H', Nxt k H k' H' → HRep G k' H' h' → Walks G J k' H' u.1 u.2 → Q J H'
  | .exc c fs vs h' => ∀ C d k' H', Nxt k H k' H' → HRep G k' H' h' → XRep G k' H' c fs vs C d → Nw H d → wx (.ref C) d σ H'
  | .no => False
theorem DenI.nxt {G : Gx} {wx : WX} {k k1 : Ka} {H H1 : Hp} {σ : St} {r : R (List W × Option Nat)} {Q : It → Hp → Prop} (n : Nxt k H k1 H1) (h : DenI G wx k H σ r Q) : DenI G wx k1 H1 σ r Q := by
  cases r with
  | ok u h' => exact fun J k' H' n' => h J k' H' (n.trans n')
  | exc c fs vs h' => exact fun C d k' H' n' x xr fr => h C d k' H' (n.trans n') x xr (fr.back n)
  | no => exact h
theorem DenI.bind {α β : Type} {G : Gx} {rp : Ka → α → β → Prop} {wx : WX} {k : Ka} {H : Hp} {σ : St} {r : R α} {f : α → WH → R (List W × Option Nat)} {Q : It → Hp → Prop} (h : DenI G wx k H σ (r.bind f) Q) :
    Den G rp wx k H σ r fun v H' => ∃ k' w h', Nxt k H k' H' ∧ HRep G k' H' h' ∧ rp k' w v ∧ DenI G wx k' H' σ (f w h') Q := by
  cases r with
  | ok w h' => exact fun v k' H' n x r => ⟨k', w, h', n, x, r, DenI.nxt n h⟩
  | exc c fs vs h' => exact h
  | no => exact h
def TIx (G : Gx) (wx : WX) (ev : EI) : TI := fun σ H Q => ∃ k sw h, SRep G k sw σ ∧ HRep G k H h ∧ DenI G wx k H σ (ev sw h) Q
def WI (A : Ax) (X : Cx) (tg e : Expr) (ev : EI) : Prop := ∀ wx, Takes X wx → PI X tg e (TIx A.toGx wx ev)
theorem PI_imp {X : Cx} {tg e : Expr} {t t' : TI} (h : PI X tg e t) (i : ∀ σ H Q, t' σ H Q → t σ H Q) : PI X tg e t' := ⟨fun pins s σ H Q I q => h.run pins s σ H Q I (i σ H Q q)⟩
theorem PI_or {X : Cx} {tg e : Expr} {t t' : TI} (h : PI X tg e t) (h' : PI X tg e t') : PI X tg e (fun σ H R => t σ H R ∨ t' σ H R) := ⟨fun pins s σ H Q I q => q.elim (h.run pins s σ H Q I) (h'.run pins s σ H Q I)⟩

section
variable {G : Gx} {k : Ka} {H : Hp} {h : WH} {p : Addr} {ws : List W} {vs : List V}
/-- a frozen list, or a logical one that stands -/
theorem walks_lst (hf : k.F p = some (.lst vs)) (r : RepL G k ws vs) : Walks G (Itl G.K p) k H ws none where
  go := fun i k' H' h' n x _ hi => ⟨vs, vs[i]'(by rw [r.length]; exact hi), SqL.of (x.sub _ _ (n.le.F _ _ hf)), by simp⟩
  stop := fun k' H' h' n x _ => ⟨vs, SqL.of (x.sub _ _ (n.le.F _ _ hf)), by rw [r.length]; exact Nat.le_refl _⟩
  yld := fun i k' H' h' x H2 w n hx _ e y => by
    obtain ⟨e1, y⟩ := y
    subst e1
    have e2 := y vs (SqL.of (hx.sub _ _ (n.le.F _ _ hf)))
    obtain ⟨v, e3, r3⟩ := (r.mono n.le).get e
    rw [e2] at e3; cases e3
    exact ⟨k', .refl _ _, hx, r3⟩
theorem walks_ref {a : Nat} (hm : k.mu[a]? = some p) : Walks G (Itl G.K p) k H ws (some a) := by
  have at_ : ∀ {k' : Ka} {H' : Hp} {h' : WH}, Nxt k H k' H' → HRep G k' H' h' → srcOk (some a) ws h' = true → ∃ vs, H' p = some (.lst vs) ∧ RepL G k' ws vs := fun {k' H' h'} n x s => by
    have ho : h'[a]? = some (.lst ws) := by simpa [srcOk] using s
    exact (x.ob a _ p ho (prefix_get n.le.mu hm)).1
  refine ⟨fun i k' H' h' n x s hi => ?_, fun k' H' h' n x s => ?_, fun i k' H' h' x H2 w n hx s e y => ?_⟩
  · obtain ⟨vs, e, r⟩ := at_ n x s
    exact ⟨vs, vs[i]'(by rw [r.length]; exact hi), SqL.of e, by simp⟩
  · obtain ⟨vs, e, r⟩ := at_ n x s
    exact ⟨vs, SqL.of e, by rw [r.length]; exact Nat.le_refl _⟩
  · obtain ⟨vs, e1, r⟩ := at_ n hx s
    obtain ⟨e2, y⟩ := y
    subst e2
    obtain ⟨v, e3, r3⟩ := r.get e
    rw [y vs (SqL.of e1)] at e3; cases e3
    exact ⟨k', .refl _ _, hx, r3⟩
def rngW (lo : Int) (n : Nat) : List W := (List.range n).map fun i => .int (lo + (i : Nat))
theorem walks_rng {lo : Int} {n : Nat} : Walks G (Itr lo n) k H (rngW lo n) none where
  go := fun i k' H' h' _ x _ hi => by
    show i < n
    simpa [rngW] using hi
  stop := fun k' H' h' _ x _ => by simp [rngW, Itr]
  yld := fun i k' H' h' x H2 w _ hx _ e y => by
    obtain ⟨e1, y⟩ := y
    subst e1; subst y
    refine ⟨k', .refl _ _, hx, ?_⟩
    have hi : i < n := by
      have := (List.getElem?_eq_some_iff.mp e).1
      simpa [rngW] using this
    simp only [rngW, List.getElem?_map, List.getElem?_range hi, Option.map_some, Option.some.injEq] at e
    subst e
    simp only [Rep]
end

section
variable {A : Ax} {X : Cx} {N : List Str} {sc : Scope} {Φ : Fns} {n : Nat} {a b c e tg : Expr} {ea eb ec : EV} {aa : EA} {p pos apos : Pos} {es : List Expr}
/-- over a list or a tuple -/
def iSeq (a : EV) : EI := fun sw h => (a sw h).bind fun w h1 => match w with
  | .tup ws => .ok (ws, none) h1
  | .lst ws => .ok (ws, none) h1
  | .ref r => (match h1[r]? with | some (.lst ws) => .ok (ws, some r) h1 | _ => .no)
  | _ => .no
theorem wi_seq (hK : X.K = A.K) (ha : WE A X a ea) : WI A X tg a (iSeq ea) := fun wx tk =>
  PI_imp (PI_or (pi_list (ha wx tk)) (pi_tup (ha wx tk))) fun σ H Q ⟨k, sw, h, hs, hh, d⟩ => by
    have d0 := DenI.bind (rp := Rep A.toGx) d
    cases er : ea sw h with
    | no => rw [er] at d0; exact d0.elim
    | exc c fs vs h1 => rw [er] at d0; exact .inl ⟨k, sw, h, hs, hh, by rw [er]; exact d0⟩
    | ok w h1 =>
      have d1 : DenI A.toGx wx k H σ (iSeq ea sw h) Q := d
      unfold iSeq at d1
      rw [er] at d1
      dsimp only [R.bind] at d1
      have E : ∀ {Q' : VK}, (∀ v k' H', Nxt k H k' H' → HRep A.toGx k' H' h1 → Rep A.toGx k' w v → Q' v H') → TEx A.toGx wx ea σ H Q' := fun q => ⟨k, sw, h, hs, hh, by rw [er]; exact q⟩
      rw [hK]
      cases w <;> dsimp only at d1 <;> first | exact d1.elim | skip
      · refine .inr (E fun v k' H' n x r => ?_)
        simp only [Rep] at r
        obtain ⟨p, vs, rfl, q, r⟩ := r
        have q := q.sq
        refine ⟨p, rfl, ⟨vs, Ka.Le.seqT x.sub q⟩, d1 _ k' H' n x ⟨fun i k2 H2 h2 n2 x2 _ hi => ?_, fun k2 H2 h2 n2 x2 _ => ?_, fun i k2 H2 h2 y H3 w n2 x2 _ e yy => ?_⟩⟩
        · exact ⟨vs, vs[i]'(by rw [r.length]; exact hi), Ka.Le.seqT x2.sub (Ka.Le.seqT n2.le.F q), by simp⟩
        · exact ⟨vs, Ka.Le.seqT x2.sub (Ka.Le.seqT n2.le.F q), by rw [r.length]; exact Nat.le_refl _⟩
        · obtain ⟨e1, yy⟩ := yy
          subst e1
          have e2 := yy vs (Ka.Le.seqT x2.sub (Ka.Le.seqT n2.le.F q))
          obtain ⟨v, e3, r3⟩ := (r.mono n2.le).get e
          rw [e2] at e3; cases e3
          exact ⟨k2, .refl _ _, x2, r3⟩
      · refine .inl (E fun v k' H' n x r => ?_)
        simp only [Rep] at r
        obtain ⟨p, vs, rfl, q, r⟩ := r
        exact ⟨p, rfl, ⟨vs, SqL.of (x.sub _ _ q)⟩, d1 _ k' H' n x (walks_lst q r)⟩
      · rename_i ad
        refine .inl (E fun v k' H' n x r => ?_)
        cases ho : h1[ad]? with
        | none => rw [ho] at d1; exact d1.elim
        | some ob =>
          rw [ho] at d1
          cases ob <;> dsimp only at d1 <;> first | exact d1.elim | skip
          obtain ⟨p, rfl, em, vs, eH, rr⟩ := ref_at x r ho
          exact ⟨p, rfl, ⟨vs, SqL.of eH⟩, d1 _ k' H' n x (walks_ref em)⟩
/-- over range(a), range(a, b) -/
def iRg1 (a : EA) : EI := fun sw h => (a sw h).bind fun ws h1 => match ws with | [.int j] => if -lim ≤ j ∧ j ≤ lim then .ok (rngW 0 j.toNat, none) h1 else .no | _ => .no
theorem TIx.args {G : Gx} {wx : WX} {ev : EA} {f : List W → WH → R (List W × Option Nat)} {σ : St} {H : Hp} {Q : It → Hp → Prop} (t : TIx G wx (fun sw h => (ev sw h).bind f) σ H Q) :
    TAx G wx ev σ H fun vs H1 => ∃ k1 ws h1, HRep G k1 H1 h1 ∧ RepL G k1 ws vs ∧ DenI G wx k1 H1 σ (f ws h1) Q := by
  obtain ⟨k, sw, h, hs, hh, d⟩ := t
  exact ⟨k, sw, h, hs, hh, (DenI.bind (rp := RepL G) d).imp fun vs H1 ⟨k1, ws, h1, n1, x1, r1, d1⟩ => ⟨k1, ws, h1, x1, r1, d1⟩⟩
theorem lim62 {j : Int} (h1 : -lim ≤ j) (h2 : j ≤ lim) : -(2 ^ 62) ≤ j ∧ j < 2 ^ 62 := by
  have : (lim : Int) = 1000000 := rfl
  omega
theorem wi_rg1 (x : XOk A N sc X) (hs : sc.names.lookup ("range" : Str) = some .globalImplicit) (hg : A.gt.lookup ("range" : Str) = some .blt) (ha : WA A X [a] aa) (h3 : nonStar a = true) : WI A X tg (.Call (.Name "range" p) [a] [] pos) (iRg1 aa) := fun wx tk =>
  PI_imp (pi_range1 (gl_of x hs) (x.glob.blt _ hg) (ha wx tk) (star_ok h3)) fun σ H Q t => by
    obtain ⟨k, sw, h, hs, hh, d⟩ := TIx.args t
    refine ⟨k, sw, h, hs, hh, d.imp fun vs H1 ⟨k1, ws, h1, x1, r1, d1⟩ => ?_⟩
    split at d1
    · split at d1
      · rename_i hl
        obtain ⟨v, rfl, r2⟩ := rep1 r1
        simp only [Rep] at r2
        subst r2
        obtain ⟨l1, l2⟩ := lim62 hl.1 hl.2
        exact ⟨_, rfl, l1, l2, d1 _ k1 H1 (.refl _ _) x1 walks_rng⟩
      · exact d1.elim
    · exact d1.elim
/-! ### for -/
def forL (src : Option Nat) (ws0 : List W) (t : W → WS → Option WS) (body : EW) : List W → WS → WH → RS
  | [], sw, h => if srcOk src ws0 h then .ok (.next sw) h else .no
  | w :: rest, sw, h => if srcOk src ws0 h then (match t w sw with
      | none => .no
      | some sw1 => match body sw1 h with
        | .ok (.next s) h' => forL src ws0 t body rest s h'
        | .ok (.cont s) h' => forL src ws0 t body rest s h'
        | .ok (.brk s) h' => .ok (.next s) h'
        | .ok (.ret w) h' => .ok (.ret w) h'
        | .exc s c fs vs h' => .exc s c fs vs h'
        | .no => .no) else .no
def sFor (it : EI) (t : Tg) (body : EW) : EW := fun sw h => (it sw h).st sw fun x h1 => forL x.2 x.1 (tgW t) body x.1 sw h1
theorem ws_for (hc : X.calm = true) {t : Tg} {it : EI} {body : EW} {bd : List Stmt} {iter : Expr} (hi : WI A X tg iter it) (hg : WG A X tg t) (hb : WSs A X bd body) (hs : ∀ x, foldedSetIterable iter X.env x = pure x) : WSt A X (.For tg iter bd [] pos) (sFor it t body) := fun wx tk po =>
  PS_imp (ps_for po hc (hi wx tk) hg (hb wx tk po) hs) fun D σ H ⟨k, sw, h, hs, hh, d⟩ => by
    refine ⟨k, sw, h, hs, hh, ?_⟩
    unfold sFor at d
    cases er : it sw h with
    | no => rw [er] at d; exact d
    | exc c fs vs h' => rw [er] at d; exact fun C d' k' H' n x xr fr => d σ C d' k' H' n x (hs.mono n.le) xr fr
    | ok u h1 =>
      obtain ⟨ws, src⟩ := u
      rw [er] at d
      dsimp only [R.st] at d
      intro J k1 H1 n1 x1 wk
      refine ⟨fun i m σ2 H2 => m = ws.length - i ∧ i ≤ ws.length ∧ ∃ k2 sw2 h2, Nxt k1 H1 k2 H2 ∧ HRep A.toGx k2 H2 h2 ∧ SRep A.toGx k2 sw2 σ2 ∧ DenS A.toGx wx k2 H2 (forL src ws (tgW t) body (ws.drop i) sw2 h2) D,
        ⟨ws.length, rfl, Nat.zero_le _, k1, sw, h1, .refl _ _, x1, hs.mono n1.le, by simpa using d.nxt n1⟩, ?_⟩
      rintro i m σ2 H2 ⟨rfl, hi, k2, sw2, h2, n2, x2, s2, d2⟩
      by_cases hlt : i < ws.length
      · have ed : ws.drop i = ws[i] :: ws.drop (i + 1) := List.drop_eq_getElem_cons hlt
        rw [ed] at d2
        unfold forL at d2
        split at d2
        · rename_i so
          refine .inr ⟨wk.go i k2 H2 h2 n2 x2 so hlt, fun σ' H' => ∃ k' sw' h', Nxt k1 H1 k' H' ∧ HRep A.toGx k' H' h' ∧ SRep A.toGx k' sw' σ' ∧ DenS A.toGx wx k' H' (forL src ws (tgW t) body (ws.drop (i + 1)) sw' h') D,
            fun σ' H' q => ⟨ws.length - (i + 1), by omega, rfl, hlt, q⟩, fun x H3 y => ?_⟩
          obtain ⟨k3, n3, x3, r3⟩ := wk.yld i k2 H2 h2 x H3 ws[i] n2 x2 so (by simp) y
          split at d2
          · exact d2.elim
          · rename_i sw3 et
            refine ⟨k3, sw2, h2, ws[i], sw3, s2.mono n3.le, x3, r3, et, fun σ3 s3 _ => ⟨k3, sw3, h2, s3, x3, ?_⟩⟩
            have d3 := d2.nxt n3
            cases eb : body sw3 h2 with
            | no => rw [eb] at d3; exact d3
            | exc s c fs vs h' => rw [eb] at d3; exact d3
            | ok f h' =>
              rw [eb] at d3
              cases f with
              | next s => exact fun σ4 k4 H4 n4 x4 s4 => ⟨k4, s, h', (n2.trans n3).trans n4, x4, s4, d3.nxt n4⟩
              | cont s => exact fun σ4 k4 H4 n4 x4 s4 => ⟨k4, s, h', (n2.trans n3).trans n4, x4, s4, d3.nxt n4⟩
              | brk s => exact d3
              | ret w => exact d3
        · exact d2.elim
      · have ei : i = ws.length := by omega
        subst ei
        rw [List.drop_length] at d2
        unfold forL at d2
        split at d2
        · rename_i so
          exact .inl ⟨wk.stop k2 H2 h2 n2 x2 so, d2 σ2 k2 H2 (.refl _ _) x2 s2⟩
        · exact d2.elim

/-! ### while -/
/-! ### comprehensions -/
def wipeW (sw : WS) : List Nat → WS
  | [] => sw
  | v :: vs => (wipeW sw vs).set v none
theorem SRep.wipe {G : Gx} {k : Ka} {sw : WS} {σ : St} (h : SRep G k sw σ) : ∀ vs : List Nat, SRep G k (wipeW sw vs) (L2.wipe σ vs)
  | [] => h
  | v :: vs => by unfold wipeW L2.wipe; exact (SRep.wipe h vs).unset v
theorem wipe_off {σ σ' : St} : ∀ {vs : List Nat}, Off vs (L2.wipe σ vs) σ' → L2.wipe σ' vs = L2.wipe σ vs := by
  intro vs h
  apply List.ext_getElem?
  intro j
  by_cases hj : j ∈ vs
  · have key : ∀ (τ : St) (us : List Nat), j ∈ us → (L2.wipe τ us)[j]? = if j < τ.length then some none else none := by
      intro τ us
      induction us with
      | nil => intro h; cases h
      | cons u us ih =>
        intro hm
        unfold L2.wipe
        rw [List.getElem?_set]
        by_cases e : u = j
        · rw [if_pos e]
          simp only [L2.wipe_length, e]
        · rw [if_neg e]
          exact ih (by rcases List.mem_cons.mp hm with z | z; exact absurd z.symm e; exact z)
    rw [key σ' vs hj, key σ vs hj, h.1, L2.wipe_length]
  · rw [L2.wipe_out hj, h.2 j hj]
def compL (src : Option Nat) (ws0 : List W) (t : W → WS → Option WS) (cond : EB) (elt : EV) (sw : WS) : List W → List W → WH → R (List W)
  | [], acc, h => if srcOk src ws0 h then .ok acc h else .no
  | w :: rest, acc, h => if srcOk src ws0 h then (match t w sw with
      | none => .no
      | some sw1 => match cond sw1 h with
        | .ok true h1 => (match elt sw1 h1 with
          | .ok y h2 => if acc.length < lim then compL src ws0 t cond elt sw rest (acc ++ [y]) h2 else .no
          | _ => .no)
        | .ok false h1 => compL src ws0 t cond elt sw rest acc h1
        | _ => .no) else .no
def dComp (m : Bool) (it : EI) (t : Tg) (cond : EB) (elt : EV) (own : List Nat) : EV := fun sw h => (it sw h).bind fun x h1 => (compL x.2 x.1 (tgW t) cond elt (wipeW sw own) x.1 [] h1).bind fun ws h2 => newL m ws h2

/-! an object that is tracked and not ours: written, taken over -/
theorem HRep.off {G : Gx} {k : Ka} {H : Hp} {h : WH} {D : Addr} {o : HO} (x : HRep G k H h) (hF : k.F D = none) (hm : D ∉ k.mu) : HRep G k (upd H D o) h where
  sub := fun a u e => by
    have z : a ≠ D := fun z => by rw [z, hF] at e; cases e
    rw [upd_ne z]; exact x.sub a u e
  len := x.len
  nd := x.nd
  trk := fun a ha => by
    have z : a ≠ D := fun z => hm (by rw [← z]; exact ha)
    rw [upd_ne z]; exact x.trk a ha
  ob := fun i u q e1 e2 => by
    obtain ⟨r, n⟩ := x.ob i u q e1 e2
    have z : q ≠ D := fun z => hm (z ▸ List.mem_of_getElem? e2)
    refine ⟨r.mono (.refl k) (upd_ne z), fun d => ?_⟩
    obtain ⟨n1, n2⟩ := n d
    exact ⟨n1, by rw [upd_ne z]; exact n2⟩
theorem Nxt.off {k k1 : Ka} {H H1 : Hp} {D : Addr} {o : HO} (n : Nxt k H k1 H1) (h0 : H D = none) : Nxt k H k1 (upd H1 D o) where
  le := n.le
  oth := fun a ha na => by
    have z : a ≠ D := fun z => ha (by rw [z]; exact h0)
    rw [upd_ne z]; exact n.oth a ha na
  fro := n.fro
  new := n.new
  trk := fun a ha => by
    have z : a ≠ D := fun z => ha (by rw [z]; exact h0)
    rw [upd_ne z]; exact n.trk a ha
theorem HRep.adoptF {G : Gx} {k : Ka} {H : Hp} {h : WH} {D : Addr} {o : HO} (x : HRep G k H h) (hF : k.F D = none) (hm : D ∉ k.mu) (hD : H D = some o) : HRep G (k.froz D o) H h where
  sub := fun a u e => by
    by_cases z : a = D
    · subst z
      have e' : upd k.F a o a = some u := e
      rw [upd_same] at e'; cases e'; exact hD
    · have e' : upd k.F D o a = some u := e
      rw [upd_ne z] at e'; exact x.sub a u e'
  len := x.len
  nd := x.nd
  trk := x.trk
  ob := fun i u q e1 e2 => by
    obtain ⟨r, n⟩ := x.ob i u q e1 e2
    have z : q ≠ D := fun z => hm (z ▸ List.mem_of_getElem? e2)
    refine ⟨r.mono (le_froz hF) rfl, fun d => ?_⟩
    obtain ⟨n1, n2⟩ := n d
    exact ⟨(upd_ne z).trans n1, n2⟩
theorem Nxt.adoptF {k k1 : Ka} {H H1 : Hp} {D : Addr} {o : HO} (n : Nxt k H k1 H1) (h0 : H D = none) (hF : k1.F D = none) : Nxt k H (k1.froz D o) H1 where
  le := n.le.trans (le_froz hF)
  oth := n.oth
  fro := fun a u e => by
    by_cases z : a = D
    · subst z; exact .inr (.inl h0)
    · have e' : upd k1.F D o a = some u := e
      rw [upd_ne z] at e'; exact n.fro a u e'
  new := n.new
  trk := n.trk
theorem HRep.adoptM {G : Gx} {k : Ka} {H : Hp} {h : WH} {D : Addr} {ob : Ob} (x : HRep G k H h) (hF : k.F D = none) (hm : D ∉ k.mu) (r : ORep G (k.more D) H D ob) (m : Mut (H D)) (ht : H D ≠ none) : HRep G (k.more D) H (h ++ [ob]) where
  sub := x.sub
  len := by show (k.mu ++ [D]).length = _; simp [x.len]
  nd := by
    show (k.mu ++ [D]).Nodup
    rw [List.nodup_append]
    refine ⟨x.nd, by simp, fun a ha b hb => ?_⟩
    simp at hb; subst hb
    exact fun z => hm (z ▸ ha)
  trk := fun a ha => by
    have ha' : a ∈ k.mu ++ [D] := ha
    rcases List.mem_append.mp ha' with ha | ha
    · exact x.trk a ha
    · simp at ha; subst ha; exact ht
  ob := fun i u q e1 e2 => by
    have e2' : (k.mu ++ [D])[i]? = some q := e2
    by_cases hi : i < h.length
    · rw [List.getElem?_append_left hi] at e1
      rw [List.getElem?_append_left (by rw [x.len]; exact hi)] at e2'
      obtain ⟨r', n⟩ := x.ob i u q e1 e2'
      exact ⟨r'.mono le_more rfl, n⟩
    · rw [List.getElem?_append_right (by omega)] at e1
      rw [List.getElem?_append_right (by rw [x.len]; omega)] at e2'
      have hi0 : i - h.length = 0 := by
        have := (List.getElem?_eq_some_iff.mp e1).1
        simp at this; omega
      rw [hi0] at e1
      rw [x.len, hi0] at e2'
      simp at e1 e2'
      subst e1; subst e2'
      exact ⟨r, fun _ => ⟨hF, m⟩⟩
theorem Nxt.adoptM {k k1 : Ka} {H H1 : Hp} {D : Addr} (n : Nxt k H k1 H1) (h0 : H D = none) : Nxt k H (k1.more D) H1 where
  le := n.le.trans le_more
  oth := n.oth
  fro := n.fro
  new := fun a ha => by
    have ha' : a ∈ k1.mu ++ [D] := ha
    rcases List.mem_append.mp ha' with ha | ha
    · exact n.new a ha
    · simp at ha; subst ha; exact .inr h0
  trk := n.trk
theorem comp_core {m : Bool} {it : EI} {t : Tg} {cond : EB} {elt : EV} {own : List Nat} {wx : WX} (hsub : ∀ i ∈ t.slots, i ∈ own) {σ : St} {H : Hp} {Q : VK} (tt : TEx A.toGx wx (dComp m it t cond elt own) σ H Q) :
    tLc (TIx A.toGx wx it) (TGx A.toGx t.slots (tgW t)) (TTx A.toGx (fun _ _ _ _ => False) cond) (TEx A.toGx (fun _ _ _ _ => False) elt) own σ H Q := by
  obtain ⟨k, sw, h, hs, hh, d⟩ := tt
  refine ⟨k, sw, h, hs, hh, ?_⟩
  unfold dComp at d
  cases er : it sw h with
  | no => rw [er] at d; exact d
  | exc c fs vs h' => rw [er] at d; exact d
  | ok u h1 =>
    obtain ⟨ws, src⟩ := u
    rw [er] at d
    dsimp only [R.bind] at d
    intro J k1 H1 n1 x1 wk D hD
    have d1 := d.nxt n1
    have n0 : Nxt k1 H1 k1 (upd H1 D (.lst [])) := Nxt.other hD
    have hDF : k1.F D = none := x1.noF hD
    have hDm : D ∉ k1.mu := x1.noMu hD
    refine ⟨fun i m' H2 => m' = ws.length - i ∧ i ≤ ws.length ∧ ∃ k2 h2 acc va, Nxt k1 H1 k2 H2 ∧ k2.F D = none ∧ D ∉ k2.mu ∧ HRep A.toGx k2 H2 h2 ∧ H2 D = some (.lst va) ∧ RepL A.toGx k2 acc va ∧
        Den A.toGx (Rep A.toGx) wx k1 H1 σ ((compL src ws (tgW t) cond elt (wipeW sw own) (ws.drop i) acc h2).bind fun us h3 => newL m us h3) Q,
      ⟨ws.length, rfl, Nat.zero_le _, k1, h1, [], [], n0, hDF, hDm, x1.other hD, upd_same, by simp only [RepL], by rw [List.drop_zero]; exact d1⟩, ?_⟩
    rintro i m' H2 ⟨rfl, hi, k2, h2, acc, va, n2, f2, m2, x2, eD, ra, d2⟩
    by_cases hlt : i < ws.length
    · have ed : ws.drop i = ws[i] :: ws.drop (i + 1) := List.drop_eq_getElem_cons hlt
      rw [ed] at d2
      unfold compL at d2
      split at d2
      · rename_i so
        refine .inr ⟨wk.go i k2 H2 h2 n2 x2 so hlt, fun H' => ∃ k' h' acc' va', Nxt k1 H1 k' H' ∧ k'.F D = none ∧ D ∉ k'.mu ∧ HRep A.toGx k' H' h' ∧ H' D = some (.lst va') ∧ RepL A.toGx k' acc' va' ∧
            Den A.toGx (Rep A.toGx) wx k1 H1 σ ((compL src ws (tgW t) cond elt (wipeW sw own) (ws.drop (i + 1)) acc' h').bind fun us h3 => newL m us h3) Q,
          fun H' q => ⟨ws.length - (i + 1), by omega, rfl, hlt, q⟩, fun x H3 y => ?_⟩
        obtain ⟨k3, n3, x3, r3⟩ := wk.yld i k2 H2 h2 x H3 ws[i] n2 x2 so (by simp) y
        -- what a later state keeps of D
        have keepD : ∀ {ka : Ka} {Ha : Hp} {kb : Ka} {Hb : Hp}, Nxt ka Ha kb Hb → ka.F D = none → D ∉ ka.mu → Ha D = some (.lst va) → kb.F D = none ∧ D ∉ kb.mu ∧ Hb D = some (.lst va) := fun {ka Ha kb Hb} nn fa ma ea => by
          have hne : Ha D ≠ none := by rw [ea]; simp
          refine ⟨?_, fun z => (nn.new D z).elim ma hne, (nn.oth D hne ma).trans ea⟩
          cases q : kb.F D with
          | none => rfl
          | some o =>
            rcases nn.fro D o q with z | z | z
            · rw [fa] at z; cases z
            · exact absurd z hne
            · exact absurd z ma
        obtain ⟨f3, m3, eD3⟩ := keepD n3 f2 m2 eD
        split at d2
        · exact d2.elim
        · rename_i sw1 et
          have s3 : SRep A.toGx k3 (wipeW sw own) (L2.wipe σ own) := ((hs.mono n1.le).mono (n2.le.trans n3.le)).wipe own
          refine ⟨k3, wipeW sw own, h2, ws[i], sw1, s3, x3, r3, et, fun σ3 hs3 o3 => ⟨wipe_off ⟨o3.1, fun j hj => o3.2 j fun z => hj (hsub j z)⟩, k3, sw1, h2, hs3, x3, ?_⟩⟩
          cases ec : cond sw1 h2 with
          | no => rw [ec] at d2; exact d2.elim
          | exc c fs vs h' => rw [ec] at d2; exact d2.elim
          | ok b hc =>
            rw [ec] at d2
            intro b' k4 H4 n4 x4 eb
            subst eb
            obtain ⟨f4, m4, eD4⟩ := keepD n4 f3 m3 eD3
            cases b with
            | false =>
              rw [if_neg (by decide)]
              exact ⟨k4, hc, acc, va, (n2.trans n3).trans n4, f4, m4, x4, eD4, (ra.mono n3.le).mono n4.le, d2⟩
            | true =>
              rw [if_pos rfl]
              refine ⟨k4, sw1, hc, hs3.mono n4.le, x4, ?_⟩
              dsimp only at d2
              cases ee : elt sw1 hc with
              | no => rw [ee] at d2; exact d2.elim
              | exc c fs vs h' => rw [ee] at d2; exact d2.elim
              | ok y he =>
                rw [ee] at d2
                dsimp only at d2
                intro v k5 H5 n5 x5 r5
                obtain ⟨f5, m5, eD5⟩ := keepD n5 f4 m4 eD4
                split at d2
                · rename_i hl
                  have ra5 := ((ra.mono n3.le).mono n4.le).mono n5.le
                  have lv : va.length = acc.length := ra.length
                  exact ⟨va, eD5, by rw [lv]; exact Nat.lt_of_lt_of_le hl (lim_le (Nat.le_refl _)), k5, he, acc ++ [y], va ++ [v], (((n2.trans n3).trans n4).trans n5).off hD, f5, m5, x5.off f5 m5, upd_same, ra5.append (RepL.one r5), d2⟩
                · exact d2.elim
      · exact d2.elim
    · have ei : i = ws.length := by omega
      subst ei
      rw [List.drop_length] at d2
      unfold compL at d2
      split at d2
      · rename_i so
        refine .inl ⟨wk.stop k2 H2 h2 n2 x2 so, ?_⟩
        dsimp only [R.bind] at d2
        unfold newL at d2
        split at d2
        · refine d2 (.ref D) (k2.more D) H2 (n2.adoptM hD) (x2.adoptM f2 m2 ⟨va, eD, ra.mono le_more⟩ (by rw [eD]; trivial) (by rw [eD]; simp)) ?_
          simp only [Rep]
          refine ⟨D, rfl, ?_⟩
          show (k2.mu ++ [D])[h2.length]? = some D
          rw [← x2.len]; simp
        · refine d2 (.ref D) (k2.froz D (.lst va)) H2 (n2.adoptF hD f2) (x2.adoptF f2 m2 eD) ?_
          simp only [Rep]
          exact ⟨D, va, rfl, upd_same, ra.mono (le_froz f2)⟩
      · exact d2.elim
def WPT (A : Ax) (X : Cx) (ifs : List Expr) (ev : EB) : Prop := ∀ wx, Takes X wx → PTs X ifs (TTx A.toGx wx ev)
def bYes : EB := fun _ h => .ok true h
theorem wpt_nil : WPT A X [] bYes := fun wx tk => ⟨fun pins s σ H Q I t => by
  obtain ⟨k, sw, h, hs, hh, d⟩ := t
  exact (pts_nil (X := X)).run pins s σ H Q I (d true k H (.refl _ _) hh rfl)⟩
section
variable {elt iter : Expr} {ifs : List Expr} {scope : Scope} {own : List (Str × Nat)} {it : EI} {t : Tg} {cond : EB} {ev : EV} {m : Bool}
theorem we_comp (x : XOk A N sc X) (hi : WI A X tg iter it) (ok : BlkOk N sc scope own) (hsub : ∀ i ∈ t.slots, i ∈ own.map (·.2))
    (hg : ∀ (s : Shared) (H : Hp) (C : Addr) (cl : List (Str × Addr)) (fp : List Addr), WG A (X.blk s H scope (compEnvC scope cl C X.env) fp) tg t)
    (ht : ∀ (s : Shared) (H : Hp) (C : Addr) (cl : List (Str × Addr)) (fp : List Addr), WPT A (X.blk s H scope (compEnvC scope cl C X.env) fp) ifs cond)
    (he : ∀ (s : Shared) (H : Hp) (C : Addr) (cl : List (Str × Addr)) (fp : List Addr), WE A (X.blk s H scope (compEnvC scope cl C X.env) fp) elt ev) (hs : ∀ x, foldedSetIterable iter X.env x = pure x) :
    WE A X (.ListComp elt [⟨tg, iter, ifs, 0⟩] scope pos) (dComp m it t cond ev (own.map (·.2))) := fun wx tk =>
  PE_imp (pe_lc x.calm (by rw [x.hN]; exact x.nd) (hi wx tk) (by rw [x.hN, x.hsc]; exact ok) hg (fun s H C cl fp => ht s H C cl fp _ takes0) (fun s H C cl fp => he s H C cl fp _ takes0) hs) fun σ H Q t => comp_core hsub t
theorem ws_setc (x : XOk A N sc X) {i : Nat} {y : Str} {py spos : Pos} (hN : N[i]? = some y) (hyl : sc.names.lookup y = some .local) (hsw : swapsWith (.ListComp elt [⟨tg, iter, ifs, 0⟩] scope pos) (some (.Name y py)) spos.line X.env = pure true) (hi : WI A X tg iter it) (ok : BlkOk N sc scope own) (hsub : ∀ i ∈ t.slots, i ∈ own.map (·.2))
    (hg : ∀ (s : Shared) (H : Hp) (C : Addr) (cl : List (Str × Addr)) (fp : List Addr), WG A (X.blk s H scope (compEnvC scope cl C X.env) fp) tg t)
    (ht : ∀ (s : Shared) (H : Hp) (C : Addr) (cl : List (Str × Addr)) (fp : List Addr), WPT A (X.blk s H scope (compEnvC scope cl C X.env) fp) ifs cond)
    (he : ∀ (s : Shared) (H : Hp) (C : Addr) (cl : List (Str × Addr)) (fp : List Addr), WE A (X.blk s H scope (compEnvC scope cl C X.env) fp) elt ev) (hs : ∀ x, foldedSetIterable iter X.env x = pure x) :
    WSt A X (.Assign [.Name y py] (.ListComp elt [⟨tg, iter, ifs, 0⟩] scope pos) spos) (sSet i (dComp m it t cond ev (own.map (·.2)))) := fun wx tk po =>
  PS_imp (ps_setLc (i := i) x.calm (by rw [x.hN]; exact x.nd) (by rw [x.hN]; exact hN) (by rw [x.hsc]; exact hyl) hsw (hi wx tk) (by rw [x.hN, x.hsc]; exact ok) hg (fun s H C cl fp => ht s H C cl fp _ takes0) (fun s H C cl fp => he s H C cl fp _ takes0) hs) fun D σ H ⟨k, sw, h, hs', hh, d⟩ => by
    refine comp_core (m := m) hsub (Q := _) ⟨k, sw, h, hs', hh, (DenS.bind (rp := Rep A.toGx) hs' d).imp fun v H1 ⟨k1, w, h1, n1, hh1, r1, hs1, d1⟩ => ?_⟩
    exact d1 _ k1 H1 (.refl _ _) hh1 (hs1.set i r1)
/-- the block's own surroundings -/
theorem XOk.blk (x : XOk A N sc X) {s : Shared} {H : Hp} {C : Addr} {cl : List (Str × Addr)} {fp : List Addr} : XOk A N (relS scope sc) (X.blk s H scope (compEnvC scope cl C X.env) fp) where
  hK := x.hK
  hN := x.hN
  hP := x.hP
  hw := x.hw
  nd := x.nd
  hsc := by rw [← x.hsc]; rfl
  calm := x.calm
  gd := x.gd
  glob := x.glob
  un := x.un
theorem COk.blk (C' : COk A Φ n X) {s : Shared} {H : Hp} {C : Addr} {cl : List (Str × Addr)} {fp : List Addr} : COk A Φ n (X.blk s H scope (compEnvC scope cl C X.env) fp) where
  room := C'.room
  fn := C'.fn
  lv := C'.lv
  ex := C'.ex
  ex0 := C'.ex0
  sub := C'.sub
  mt := C'.mt
  ini := C'.ini
  kf := C'.kf
  mko := C'.mko
  kc := C'.kc
end
end
end KW

set_option Elab.async false
set_option linter.all false
set_option maxRecDepth 100000
set_option maxHeartbeats 4000000
/-! what is not run; isinstance; range by three; signs of a text; methods of built-ins; try that runs through -/
namespace KW
open PySem L2
section
variable {A : Ax} {X : Cx} {N : List Str} {sc : Scope} {Φ : Fns} {n : Nat} {a b c e tg o : Expr} {ea eb ec : EV} {aa : EA} {p p2 pos apos : Pos} {es : List Expr}

/-! ### not run -/
def sNo : EW := fun _ _ => .no
/-- what the body does where it raises nothing -/
def sThru (s : EW) : EW := fun sw h => match s sw h with | .exc .. => .no | r => r

/-! ### isinstance(x, T), T built in -/
def tyW (h : WH) : W → Option String
  | .non => some "NoneType"
  | .bl _ => some "bool"
  | .int _ => some "int"
  | .str _ => some "str"
  | .tup _ => some "tuple"
  | .lst _ => some "list"
  | .dct _ _ => some "dict"
  | .ref r => (match h[r]? with | some (.lst _) => some "list" | _ => none)
  | _ => none
def dIsT (T : String) (a : EV) : EV := fun sw h => (a sw h).bind fun w h1 => match (tyW h1 w).bind fun t => kitB t T with | some b => .ok (.bl b) h1 | none => .no
theorem tyW_ok {G : Gx} {k : Ka} {H : Hp} {h : WH} {w : W} {v : V} {t : String} (x : HRep G k H h) (r : Rep G k w v) (e : tyW h w = some t) : TyX G.K H v (.type t) := by
  cases w <;> simp only [tyW, Option.some.injEq, reduceCtorEq] at e
  · subst e; simp only [Rep] at r; subst r; exact .base .non
  · subst e; simp only [Rep] at r; subst r; exact .base (.bl _)
  · subst e; simp only [Rep] at r; subst r; exact .base (.int _)
  · subst e; simp only [Rep] at r; subst r; exact .base (.str _)
  · subst e
    obtain ⟨p, vs, rfl, q, _⟩ := tupAt x r
    rcases q with (q | ⟨o, q⟩) | ⟨o, its, n, q, c, _⟩
    · exact .base (.tup q)
    · exact .fTuple q
    · exact .kTuple q c
  · subst e
    simp only [Rep] at r
    obtain ⟨p, vs, rfl, q, _⟩ := r
    exact .base (.lst (x.sub _ _ q))
  · subst e
    simp only [Rep] at r
    obtain ⟨p, kvs, rfl, q, _⟩ := r
    exact .base (.dK (x.sub _ _ q))
  · split at e
    · cases e
      rename_i ho
      obtain ⟨p, rfl, em, vs, eH, rr⟩ := ref_at x r ho
      exact .base (.lst eH)
    · cases e
theorem we_isT (x : XOk A N sc X) {T : Str} {id : String} (ha : WE A X a ea) (hs : sc.names.lookup ("isinstance" : Str) = some .globalImplicit) (hg : A.gt.lookup ("isinstance" : Str) = some .blt)
    (hs2 : sc.names.lookup T = some .globalImplicit) (hg2 : A.gt.lookup T = some .blt) (hv : bootBuiltins T = some (.type id)) (hn : T ≠ ("__name__" : Str)) (hd : (T == ("__debug__" : Str)) = false) (h3 : nonStar a = true) :
    WE A X (.Call (.Name "isinstance" p) [a, .Name T p2] [] pos) (dIsT id ea) := fun wx tk =>
  PE_imp (pe_callB call_isi (gl_of x hs) (x.glob.blt _ hg) (by rfl) (pa_cons (ha wx tk) (pa_cons (pe_bltn (v := .ty id) (gl_of x hs2) (x.glob.blt _ hg2) hv rfl hn hd) pa_nil rfl) (star_ok h3)) (by decide +kernel) (by decide +kernel) (star_ok h3) (by rfl)) fun σ H Q t => by
    obtain ⟨k, sw, h, hs, hh, d⟩ := TEx.bind t
    refine ⟨k, sw, h, hs, hh, d.imp fun v H1 ⟨k1, sw1, w, h1, hs1, hh1, r, d1⟩ => ?_⟩
    split at d1
    · rename_i b e
      obtain ⟨t, e1, e2⟩ := Option.bind_eq_some_iff.mp e
      exact ⟨v, .ty id, .type t, .type id, b, rfl, .ty id, x.hK ▸ tyW_ok hh1 r e1, kit_ty e2, d1 _ k1 H1 (.refl _ _) hh1 (by simp only [Rep])⟩
    · exact d1.elim

/-! ### range(a, b, c) -/
/-! ### the signs of a text -/
def signs (x : Str) : List W := x.cps.toList.map fun c => .str ⟨#[c]⟩
theorem walks_str {G : Gx} {k : Ka} {H : Hp} {x : Str} : Walks G (Its x) k H (signs x) none where
  go := fun i k' H' h' _ y _ hi => by
    show i < x.cps.size
    simpa [signs] using hi
  stop := fun k' H' h' _ y _ => by simp [signs, Its]
  yld := fun i k' H' h' y H2 w _ hx _ e z => by
    obtain ⟨e1, c, e2, rfl⟩ := z
    subst e1
    refine ⟨k', .refl _ _, hx, ?_⟩
    rw [signs, List.getElem?_map, Array.getElem?_toList, e2] at e
    cases e
    simp only [Rep]
def iStrW (a : EV) : EI := fun sw h => (a sw h).bind fun w h1 => match w with | .str x => .ok (signs x, none) h1 | _ => .no
theorem wi_str (ha : WE A X a ea) : WI A X tg a (iStrW ea) := fun wx tk =>
  PI_imp (pi_str (ha wx tk)) fun σ H Q ⟨k, sw, h, hs, hh, d⟩ => by
    refine ⟨k, sw, h, hs, hh, (DenI.bind (rp := Rep A.toGx) d).imp fun v H1 ⟨k1, w, h1, n1, x1, r1, d1⟩ => ?_⟩
    split at d1
    · simp only [Rep] at r1
      exact ⟨_, r1, d1 _ k1 H1 (.refl _ _) x1 walks_str⟩
    · exact d1.elim

/-! ### methods of built-in types -/
/-- a method: what it gives of the object and the arguments -/
abbrev FM := W → List W → WH → R W
/-- is it of the type? -/
def tyIs (T : String) (h : WH) : W → Bool
  | .str _ => T == "str"
  | .lst _ => T == "list"
  | .ref r => (match h[r]? with | some (.lst _) => T == "list" | _ => false)
  | _ => false
def dBM (T : String) (f : FM) (o : EV) (a : EA) : EV := fun sw h => (o sw h).bind fun w h1 => if tyIs T h1 w then (a sw h1).bind fun ws h2 => f w ws h2 else .no
theorem RepL.snoc {G : Gx} {k : Ka} : ∀ {ws : List W} {vs : List V} {w : W} {v : V}, RepL G k ws vs → Rep G k w v → RepL G k (ws ++ [w]) (vs ++ [v]) := fun h r => h.append (RepL.one r)
/-- texts of values -/
def strsOf : List W → Option (List Str)
  | [] => some []
  | .str s :: r => (strsOf r).map (s :: ·)
  | _ :: _ => none
end
end KW

set_option Elab.async false
set_option linter.all false
set_option maxRecDepth 100000
set_option maxHeartbeats 4000000
/-! defs, the whole program, the law's end -/
namespace KW
open PySem L2

/-- a def, run: its slots laid, its result without what nothing names -/
def runF (slots np : Nat) (D : EW) (args : List W) (h : WH) : R W :=
  if args.length = np then (match D (args.map some ++ List.replicate (slots - np) none) h with
    | .ok (.ret w) h' => .ok w (gc h.length w h h')
    | .ok (.next _) h' => .ok .non (gc h.length .non h h')
    | .exc _ c fs vs h' => .exc c fs vs h'
    | _ => .no)
  else .no
/-- the program: how deep, which def -/
def sem (D : Fns → Nat → EW) (sl np : Nat → Nat) : Nat → Fns
  | 0 => fun _ _ _ => .no
  | k + 1 => fun f args h => runF (sl f) (np f) (D (sem D sl np k) f) args h

theorem srep_start {G : Gx} {k : Ka} {ws : List W} {vs : List V} {m : Nat} (r : RepL G k ws vs) : SRep G k (ws.map some ++ List.replicate m none) (vs.map some ++ List.replicate m none) := by
  refine ⟨by simp [r.length], fun i w e => ?_⟩
  have hi : i < ws.length := by
    by_cases z : i < ws.length
    · exact z
    · rw [List.getElem?_append_right (by simp; omega)] at e
      have := List.mem_of_getElem? e
      simp at this
  rw [List.getElem?_append_left (by simpa using hi), List.getElem?_map] at e
  have e2 : ws[i]? = some w := by
    cases h : ws[i]? with
    | none => rw [h] at e; cases e
    | some u => rw [h] at e; cases e; rfl
  obtain ⟨v, e1, rv⟩ := r.get e2
  refine ⟨v, ?_, rv⟩
  rw [List.getElem?_append_left (by rw [List.length_map, r.length]; exact hi), List.getElem?_map, e1]; rfl

structure FnF (A : Ax) (prog : Program) (w : World) (mg : Str → Option Value) (D : Fns → Nat → EW) (sl np : Nat → Nat) (f : Nat) (a : Addr) (fd : FuncData) (ps : List Str) : Prop where
  ex : ∃ x qual st N, FunX A.K x qual st a fd ∧ FnScope N ps (defScope st) ∧ N.length = sl f ∧ ps.length = np f ∧ ∀ (Φ : Fns) (n : Nat) (X : Cx), StOk A N (defScope st) X → COk A Φ n X → Lv X → WSs A X (defBody st) (D Φ f)
  bi : A.kwo f = false → Binds A.K fd ps []

structure PgOk (A : Ax) (prog : Program) (w : World) (mg : Str → Option Value) (D : Fns → Nat → EW) (sl np : Nat → Nat) (fd : Nat → FuncData) (ps : Nat → List Str) : Prop where
  glob : GlobOk A mg
  fns : ∀ f a, A.fa f = some a → FnF A prog w mg D sl np f a (fd f) (ps f)
  mt : ∀ c m f, A.mt c m = some f → ∃ C a, A.cl c = some C ∧ A.fa f = some a ∧ Meth A.K C (A.mn m) a ∧ Cls A.K C ∧ ∀ g, A.lay c g = true → A.fn g ≠ A.mn m
  ini : ∀ c f, A.ini c = some f → ∃ C a, A.cl c = some C ∧ A.fa f = some a ∧ Mk A.K C a
  hP : prog = A.P
  hW : w = A.w
  ex : ∀ c f, A.exf c = some f → ∀ base, ExOk A prog w mg base c f
  sub : SubOk A
  kw : ∀ f a, A.fa f = some a → ∀ m ks pm, A.kw f m ks = some pm → KwB A.K (fd f) (ps f) m ks pm
  ex0 : ∀ c, A.ex0 c = true → ∀ base, ExOk0 A prog w mg base c
  mko : (∀ c m f, A.mt c m = some f → A.kwo f = false) ∧ ∀ c f, A.ini c = some f → A.kwo f = false
  kc : ∀ f a, A.fa f = some a → ∀ m j, A.kwc f m = some j → KwC A.K (fd f) (ps f) m j

section
variable {A : Ax} {prog : Program} {w : World} {mg : Str → Option Value} {base : Heap} {D : Fns → Nat → EW} {sl np : Nat → Nat} {fd : Nat → FuncData} {ps : Nat → List Str}
theorem sem_ok (E : PgOk A prog w mg D sl np fd ps) : ∀ k f a, A.fa f = some a → FnG prog w A.K mg base (CXH prog w mg) (2 * k + 2) a (fd f) (ps f) (spF A.toGx (sem D sl np k f))
  | 0, f, a, hf => ⟨fun vs H Q _ ⟨_, _, _, _, _, d⟩ => d.elim, fun _ _ _ _ _ _ _ _ _ _ _ _ _ _ ⟨_, _, _, _, _, d⟩ => d.elim⟩
  | k + 1, f, a, hf => by
    obtain ⟨⟨x, qual, st, N, F, S, e1, e2, body⟩, _⟩ := E.fns f a hf
    have ih := sem_ok E k
    have e3 : 2 * (k + 1) + 2 = (2 * k + 3) + 1 := by omega
    rw [e3]
    refine funG F S (fun vs H Q Ex ⟨k1, ws, h, r, x, d⟩ => ?_) fun cdv Ar outer s H vs Q Ex gd hr ⟨k1, ws, h, r, x, d⟩ => ?_
    · by_cases z : ws.length = np f
      · rw [r.length, z, e2]
      · simp only [sem, runF, if_neg z] at d
        exact d.elim
    · by_cases z : ws.length = np f
      · have X1 : StOk A N (defScope st) (cxOf (CXH prog w mg) prog w A.K mg base N qual (defScope st) a cdv Ar outer s H Ex) :=
          { hK := rfl, hP := E.hP, hw := E.hW, hN := rfl, nd := S.nd, hsc := rfl, calm := rfl, gd := gd, glob := E.glob, un := by have := hr.un; show (Ar.deeper _).units + 70 < _; omega, fn := fun _ => rfl, stack := rfl, frame := rfl }
        have C1 : COk A (sem D sl np k) (2 * k + 2) (cxOf (CXH prog w mg) prog w A.K mg base N qual (defScope st) a cdv Ar outer s H Ex) :=
          { room := hr, lv := by omega, ex := fun c f e => E.ex c f e base, ex0 := fun c e => E.ex0 c e base, sub := E.sub, fn := fun g b hb => ⟨fd g, ps g, ih g b hb, by obtain ⟨⟨_, _, _, _, F', _⟩, _⟩ := E.fns g b hb; exact F'.kp, (E.fns g b hb).bi⟩, mt := E.mt, ini := E.ini, kf := fun g b hb => ⟨fd g, ps g, ih g b hb, by obtain ⟨⟨_, _, _, _, F', _⟩, _⟩ := E.fns g b hb; exact F'.kp, fun m ks pm e => E.kw g b hb m ks pm e⟩, mko := E.mko, kc := fun g b hb => ⟨fd g, ps g, ih g b hb, by obtain ⟨⟨_, _, _, _, F', _⟩, _⟩ := E.fns g b hb; exact F'.kp, fun m j e => E.kc g b hb m j e⟩ }
        have lv1 : Lv (cxOf (CXH prog w mg) prog w A.K mg base N qual (defScope st) a cdv Ar outer s H Ex) := ⟨fun e s'' => CXH prog w mg outer H s Ex e s'', fun e' s'' => CXH prog w mg outer H s Ex e' s'', rfl⟩
        have tk := takes_of (X := cxOf (CXH prog w mg) prog w A.K mg base N qual (defScope st) a cdv Ar outer s H Ex) rfl rfl rfl rfl
        refine ⟨_, (body _ _ _ X1 C1 lv1) _ tk (L2.passes_of rfl), k1, ws.map some ++ List.replicate (sl f - np f) none, h, ?_, x, ?_⟩
        · show SRep A.toGx k1 (ws.map some ++ List.replicate (sl f - np f) none) (vs.map some ++ List.replicate (N.length - vs.length) none)
          rw [e1, r.length, z]
          exact srep_start r
        · simp only [sem, runF, if_pos z] at d
          cases er : D (sem D sl np k) f (ws.map some ++ List.replicate (sl f - np f) none) h with
          | no => rw [er] at d; exact d.elim
          | exc s' c fs us h' =>
            rw [er] at d
            exact fun σ' C dd k' H' n' x' _ xr fr => d C dd k' H' n' x' xr fr
          | ok fl h' =>
            rw [er] at d
            cases fl with
            | next s' =>
              intro σ' k' H' n' x' _
              obtain ⟨k2, n2, x2, r2⟩ := x.gc x' n' (w := .non) (v := .non) (by simp only [Rep])
              exact d _ k2 H' n2 x2 r2
            | ret u =>
              intro v k' H' n' x' rv
              obtain ⟨k2, n2, x2, r2⟩ := x.gc x' n' rv
              exact d _ k2 H' n2 x2 r2
            | brk s' => exact d.elim
            | cont s' => exact d.elim
      · simp only [sem, runF, if_neg z] at d
        exact d.elim
end

/-- what is asked of the law's def -/
def spL (K : PySem.W.Frag) : Sp := fun vs H Q E => ∃ (a : Addr) (ns : List Int), vs = [V.ref a] ∧ SqL K H a (ns.map V.int) ∧ ns.length ≤ 63 ∧ ∀ v H', v = .bl true → Q v H'
theorem spL_of {G : Gx} {φ : List W → WH → R W} (h : ∀ ns : List Int, ns.length ≤ 63 → ∃ h', φ [.scr ns] [] = .ok (.bl true) h') : ∀ vs H Q E, spL G.K vs H Q E → spF G φ vs H Q E := by
  rintro vs H Q E ⟨a, ns, rfl, q, hl, hq⟩
  obtain ⟨h', e⟩ := h ns hl
  refine ⟨⟨H, []⟩, [.scr ns], [], ?_, ⟨fun a o z => z, rfl, List.nodup_nil, fun a z => by simp at z, fun i o p e1 => by simp at e1⟩, ?_⟩
  · refine RepL.one ?_
    simp only [Rep]
    exact ⟨a, rfl, q⟩
  · rw [e]
    intro v k' H' _ _ r
    simp only [Rep] at r
    exact hq v H' r
theorem walk {l : PySem.W.OpenLaw} {q : Program} {loose : List Str} {XP : (Str → Option Value) → Heap → Prop} {YP : World → Heap → Prop} {d : DefRec} {K : Params → PySem.W.Frag} {x : Str} {k : Nat} (hn : l.most = some 63) (hdf : d.params.defaults = []) (hr : Room k callerA)
    (hY : ∀ (w : World) (h : Heap), YP w h → (K w.params).In h)
    (F : ∀ (w : World) (mg : Str → Option Value) (fa : Addr) (h : Heap), (K w.params).In h → h.Ns mainGlobals mg → mg d.name = some (.ref fa) →
      ∃ fd : FuncData, (∀ (s : Shared) (u : Value), BindsTo s fd ⟨[u], []⟩ [(x, u)]) ∧ ∀ base : Heap, (K w.params).In base → base.Ns mainGlobals mg → FnG l.prog w (K w.params) mg base (CXH l.prog w mg) k fa fd [x] (spL (K w.params))) :
    PySem.W.WalkO q loose XP YP l.row.toRowW d [] (fun f vs => PySem.call f vs) :=
  walk_ofG (n := 63) (k := k) (x := x) (cx := fun w mg => CXH l.prog w mg) (sp := fun w => spL (K w.params)) hn (by decide) hdf hr hY F (fun _ _ a ns hl _ hS => ⟨a, ns, rfl, hS, hl, fun _ _ e => e⟩)
    fun _ _ _ _ _ _ c => cxh_no c
end KW

set_option Elab.async false
set_option linter.all false
set_option maxRecDepth 100000
set_option maxHeartbeats 4000000
/-! the rules as the printer names them: one look each -/
namespace KW
open PySem L2
def Gk.same : Gk → Gk → Bool
  | .fn a, .fn b => decide (a = b)
  | .cls a, .cls b => decide (a = b)
  | .cst a, .cst b => decide (a = b)
  | .blt, .blt => true
  | _, _ => false
theorem Gk.same_ok : ∀ {a b : Gk}, Gk.same a b = true → a = b
  | .fn a, .fn b, h => by rw [of_decide_eq_true h]
  | .cls a, .cls b, h => by rw [of_decide_eq_true h]
  | .cst a, .cst b, h => by rw [of_decide_eq_true h]
  | .blt, .blt, _ => rfl
  | .fn _, .cls _, h => by cases h
  | .fn _, .cst _, h => by cases h
  | .fn _, .blt, h => by cases h
  | .cls _, .fn _, h => by cases h
  | .cls _, .cst _, h => by cases h
  | .cls _, .blt, h => by cases h
  | .cst _, .fn _, h => by cases h
  | .cst _, .cls _, h => by cases h
  | .cst _, .blt, h => by cases h
  | .blt, .fn _, h => by cases h
  | .blt, .cls _, h => by cases h
  | .blt, .cst _, h => by cases h
def gtB (t : List (Str × Gk)) (n : Str) (g : Gk) : Bool := match t.lookup n with | some u => Gk.same u g | none => false
theorem gtB_ok {t : List (Str × Gk)} {n : Str} {g : Gk} (h : gtB t n g = true) : t.lookup n = some g := by
  unfold gtB at h
  split at h
  · rename_i u e
    rw [e, Gk.same_ok h]
  · cases h
/-- what a name of the code is -/
def varB (N : List Str) (sc : Scope) (i : Nat) (n : Str) : Bool := decide (N[i]? = some n) && (decide (sc.names.lookup n = some .local) || decide (sc.names.lookup n = some .cell) || decide (sc.names.lookup n = some .free)) && !(n == ("__debug__" : Str)) && !(n == ("__classdict__" : Str))
def locB (N : List Str) (sc : Scope) (i : Nat) (n : Str) : Bool := decide (N[i]? = some n) && (decide (sc.names.lookup n = some .local) || decide (sc.names.lookup n = some .cell))
def cmpB (N : List Str) (sc : Scope) (i : Nat) (n : Str) : Bool := decide (N[i]? = some n) && decide (sc.names.lookup n = some .local)
def gloB (sc : Scope) (n : Str) : Bool := decide (sc.names.lookup n = some .globalImplicit) && !(n == ("__debug__" : Str)) && !(n == ("__name__" : Str))
section
variable {A : Ax} {X : Cx} {N : List Str} {sc : Scope} {Φ : Fns} {n : Nat} {a b c e tg o : Expr} {ea eb ec : EV} {aa : EA} {p p2 pos apos : Pos} {es : List Expr}
theorem gloB_ok {nm : Str} (h : gloB sc nm = true) : sc.names.lookup nm = some .globalImplicit ∧ (nm == ("__debug__" : Str)) = false ∧ nm ≠ ("__name__" : Str) := by
  unfold gloB at h
  simp only [Bool.and_eq_true, decide_eq_true_eq, Bool.not_eq_true'] at h
  exact ⟨h.1.1, h.1.2, fun z => by rw [z] at h; simp at h⟩
theorem we_v (x : XOk A N sc X) (i : Nat) {nm : Str} (h : varB N sc i nm = true) : WE A X (.Name nm pos) (dVar i) := by
  unfold varB at h
  simp only [Bool.and_eq_true, decide_eq_true_eq, Bool.not_eq_true', Bool.or_eq_true] at h
  obtain ⟨⟨⟨h1, h2⟩, h3⟩, h4⟩ := h
  exact we_var x h1 (h2.elim (fun q => q.elim .inl fun q => .inr (.inl q)) fun q => .inr (.inr q)) h3 h4
theorem wa_c (h1 : WE A X e ea) (h2 : WA A X es aa) (hs : nonStar e = true) : WA A X (e :: es) (aCons ea aa) := wa_cons h1 h2 (star_ok hs)
theorem we_f (x : XOk A N sc X) (C : COk A Φ n X) (f : Nat) {nm : Str} (hg : A.gt.lookup nm = some (.fn f)) (h : gloB sc nm = true) (ha : WA A X (e :: es) aa) (h3 : (e :: es).all nonStar = true) (hk : A.kwo f = false := by rfl) : WE A X (.Call (.Name nm p) (e :: es) [] pos) (dCall (Φ f) aa) :=
  we_call x C hk (gloB_ok h).1 hg (gloB_ok h).2.1 ha h3
/-! built-ins -/
theorem bB (x : XOk A N sc X) {nm : Str} {id : String} {r : List V → Hp → VK → Prop} {f : List W → WH → R W} (hc : CallR X (.builtin id) r) (hf : CallW A X r f) (hv : bootBuiltins nm = some (.builtin id)) (hg : A.gt.lookup nm = some .blt) (h : gloB sc nm = true) (ha : WA A X (e :: es) aa) (h3 : (e :: es).all nonStar = true) :
    WE A X (.Call (.Name nm p) (e :: es) [] pos) (dBi f aa) := we_biB x hc hf (gloB_ok h).1 hg hv ha (gloB_ok h).2.2 (gloB_ok h).2.1 h3
theorem bT (x : XOk A N sc X) {nm : Str} {id : String} {r : List V → Hp → VK → Prop} {f : List W → WH → R W} (hc : CallR X (.type id) r) (hf : CallW A X r f) (hv : bootBuiltins nm = some (.type id)) (hg : A.gt.lookup nm = some .blt) (h : gloB sc nm = true) (ha : WA A X (e :: es) aa) (h3 : (e :: es).all nonStar = true) :
    WE A X (.Call (.Name nm p) (e :: es) [] pos) (dBi f aa) := we_biT x hc hf (gloB_ok h).1 hg hv ha (gloB_ok h).2.2 (gloB_ok h).2.1 h3
theorem b_len (x : XOk A N sc X) (hg : A.gt.lookup ("len" : Str) = some .blt) (h : gloB sc ("len" : Str) = true) (ha : WA A X (e :: es) aa) (h3 : (e :: es).all nonStar = true) : WE A X (.Call (.Name "len" p) (e :: es) [] pos) (dBi bLen aa) := bB x call_len (cw_len x.hK) (by rfl) hg h ha h3
theorem b_abs (x : XOk A N sc X) (hg : A.gt.lookup ("abs" : Str) = some .blt) (h : gloB sc ("abs" : Str) = true) (ha : WA A X (e :: es) aa) (h3 : (e :: es).all nonStar = true) : WE A X (.Call (.Name "abs" p) (e :: es) [] pos) (dBi bAbs aa) := bB x call_abs cw_abs (by rfl) hg h ha h3
theorem b_max (x : XOk A N sc X) (hg : A.gt.lookup ("max" : Str) = some .blt) (h : gloB sc ("max" : Str) = true) (ha : WA A X (e :: es) aa) (h3 : (e :: es).all nonStar = true) : WE A X (.Call (.Name "max" p) (e :: es) [] pos) (dBi bMax2 aa) := bB x (call_max2 x.calm) cw_max2 (by rfl) hg h ha h3
theorem b_min (x : XOk A N sc X) (hg : A.gt.lookup ("min" : Str) = some .blt) (h : gloB sc ("min" : Str) = true) (ha : WA A X (e :: es) aa) (h3 : (e :: es).all nonStar = true) : WE A X (.Call (.Name "min" p) (e :: es) [] pos) (dBi bMin2 aa) := bB x (call_min2 x.calm) cw_min2 (by rfl) hg h ha h3
theorem b_int (x : XOk A N sc X) (hg : A.gt.lookup ("int" : Str) = some .blt) (h : gloB sc ("int" : Str) = true) (ha : WA A X (e :: es) aa) (h3 : (e :: es).all nonStar = true) : WE A X (.Call (.Name "int" p) (e :: es) [] pos) (dBi bInt aa) := bT x call_int1 cw_int (by rfl) hg h ha h3
theorem b_all (x : XOk A N sc X) (hg : A.gt.lookup ("all" : Str) = some .blt) (h : gloB sc ("all" : Str) = true) (ha : WA A X (e :: es) aa) (h3 : (e :: es).all nonStar = true) : WE A X (.Call (.Name "all" p) (e :: es) [] pos) (dBi bAll aa) := bB x (cr_all x.calm) (cw_all x.hK) (by rfl) hg h ha h3
theorem b_isT (x : XOk A N sc X) {T : Str} {id : String} (hv : bootBuiltins T = some (.type id)) (hg : A.gt.lookup ("isinstance" : Str) = some .blt) (h : gloB sc ("isinstance" : Str) = true) (hg2 : A.gt.lookup T = some .blt) (h2 : gloB sc T = true) (ha : WE A X a ea) (h3 : nonStar a = true) :
    WE A X (.Call (.Name "isinstance" p) [a, .Name T p2] [] pos) (dIsT id ea) := we_isT x ha (gloB_ok h).1 hg (gloB_ok h2).1 hg2 hv (gloB_ok h2).2.2 (gloB_ok h2).2.1 h3
/-! ranges -/
theorem i_rg1 (x : XOk A N sc X) (hg : A.gt.lookup ("range" : Str) = some .blt) (h : gloB sc ("range" : Str) = true) (ha : WA A X [a] aa) (h3 : nonStar a = true) : WI A X tg (.Call (.Name "range" p) [a] [] pos) (iRg1 aa) := wi_rg1 x (gloB_ok h).1 hg ha h3
/-- list, tuple or text -/
def iAny (a : EV) : EI := fun sw h => (a sw h).bind fun w h1 => match w with
  | .str x => .ok (signs x, none) h1
  | .tup ws => .ok (ws, none) h1
  | .lst ws => .ok (ws, none) h1
  | .ref r => (match h1[r]? with | some (.lst ws) => .ok (ws, some r) h1 | _ => .no)
  | _ => .no
theorem i_any (x : XOk A N sc X) (ha : WE A X a ea) : WI A X tg a (iAny ea) := fun wx tk =>
  PI_imp (PI_or (wi_seq (tg := tg) x.hK ha wx tk) (wi_str (tg := tg) ha wx tk)) fun σ H Q ⟨k, sw, h, hs, hh, d⟩ => by
    by_cases z : ∃ s h1, ea sw h = .ok (.str s) h1
    · obtain ⟨s, h1, e⟩ := z
      refine .inr ⟨k, sw, h, hs, hh, ?_⟩
      have q : iAny ea sw h = iStrW ea sw h := by unfold iAny iStrW; rw [e]; rfl
      rw [← q]; exact d
    · refine .inl ⟨k, sw, h, hs, hh, ?_⟩
      have q : iAny ea sw h = iSeq ea sw h := by
        unfold iAny iSeq
        cases e : ea sw h with
        | ok w h1 => cases w <;> first | rfl | exact absurd ⟨_, _, e⟩ z
        | exc => rfl
        | no => rfl
      rw [← q]; exact d
/-! targets, comprehensions, statements -/
theorem g_nm (x : StOk A N sc X) (i : Nat) {y : Str} (h : locB N sc i y = true) : WG A X (.Name y pos) (.nm i) := by
  unfold locB at h
  simp only [Bool.and_eq_true, decide_eq_true_eq, Bool.or_eq_true] at h
  exact wg_nm x.toXOk h.1 h.2 (.inl (x.fn y))
theorem g_cm (x : XOk A N sc X) (i : Nat) {y : Str} (h : cmpB N sc i y = true) : WG A X (.Name y pos) (.nm i) := by
  unfold cmpB at h
  simp only [Bool.and_eq_true, decide_eq_true_eq] at h
  exact wg_nm x h.1 (.inl h.2) (.inr h.2)
theorem gs_c {t : Tg} {ts : List Tg} (h1 : WG A X e t) (h2 : WGs A X es ts) (hs : nonStar e = true) : WGs A X (e :: es) (t :: ts) := wgs_cons h1 h2 (assignEach_cons hs)
theorem s_set (x : StOk A N sc X) (i : Nat) {y : Str} {py : Pos} (h : locB N sc i y = true) (ha : WE A X a ea) (hc : notComp a = true) : WSt A X (.Assign [.Name y py] a pos) (sSet i ea) := by
  unfold locB at h
  simp only [Bool.and_eq_true, decide_eq_true_eq, Bool.or_eq_true] at h
  exact ws_set x h.1 h.2 ha hc
theorem s_par (x : StOk A N sc X) (i j : Nat) {y z : Str} {px py pt pt2 : Pos} {kt k2 : Nat} (h : (cmpB N sc i y && cmpB N sc j z && !(i == j)) = true) (ha : WA A X [a, b] aa)
    (hw : swappedStores [.Tuple [.Name y px, .Name z py] kt pt] (.Tuple [a, b] k2 pt2) X.env = pure (some [y, z])) (hs : swapsWithSole [.Tuple [.Name y px, .Name z py] kt pt] (.Tuple [a, b] k2 pt2) pos.line X.env = pure false) :
    WSt A X (.Assign [.Tuple [.Name y px, .Name z py] kt pt] (.Tuple [a, b] k2 pt2) pos) (sPar i j aa) := by
  unfold cmpB at h
  simp only [Bool.and_eq_true, decide_eq_true_eq, Bool.not_eq_true', beq_eq_false_iff_ne] at h
  exact ws_par x.toXOk h.1.1.1 h.1.2.1 h.2 h.1.1.2 h.1.2.2 ha hw hs
theorem XOk.u64 (x : XOk A N sc X) : X.A.units + 64 < cLine := by have := x.un; omega
theorem StOk.nox (x : StOk A N sc X) : StOk A N sc X.nox := { hK := x.hK, hP := x.hP, hw := x.hw, hN := x.hN, nd := x.nd, hsc := x.hsc, calm := x.calm, gd := x.gd, glob := x.glob, un := x.un, fn := x.fn, stack := x.stack, frame := x.frame }
theorem COk.nox (C : COk A Φ n X) : COk A Φ n X.nox := { room := C.room, lv := C.lv, ex := C.ex, ex0 := C.ex0, sub := C.sub, fn := C.fn, mt := C.mt, ini := C.ini, kf := C.kf, mko := C.mko, kc := C.kc }
/-! stores of a pair, by the scope alone -/
def envS (X : Cx) (sc : Scope) : Env := { X.env with scope := sc }
theorem swapped_env {ts : List Expr} {v : Expr} {env env' : Env} (h : env.scope = env'.scope) : swappedStores ts v env = swappedStores ts v env' := by
  have k : env.kindOf = env'.kindOf := by
    funext y
    unfold Env.kindOf
    rw [h]
  have b : env.blockKind = env'.blockKind := by
    unfold Env.blockKind
    rw [h]
  unfold swappedStores
  rw [k, b]
theorem s_par2 (x : StOk A N sc X) (i j : Nat) {y z : Str} {px py pt pt2 : Pos} {kt k2 : Nat} (h : (cmpB N sc i y && cmpB N sc j z && !(i == j)) = true) (ha : WA A X [a, b] aa)
    (hw : swappedStores [.Tuple [.Name y px, .Name z py] kt pt] (.Tuple [a, b] k2 pt2) (envS X sc) = pure (some [y, z])) (hs : swapsWithSole [.Tuple [.Name y px, .Name z py] kt pt] (.Tuple [a, b] k2 pt2) pos.line X.env = pure false) :
    WSt A X (.Assign [.Tuple [.Name y px, .Name z py] kt pt] (.Tuple [a, b] k2 pt2) pos) (sPar i j aa) := s_par x i j h ha ((swapped_env x.hsc).trans hw) hs
/-! the same by tables -/
def mkT (ini : Nat → Option Nat) (val : Nat → Bool) (Φ : Fns) (c : Nat) (ws : List W) (h : WH) : R W := match ini c with
  | none => .no
  | some f => (Φ f (.ref h.length :: ws) (h ++ [.ins c [] []])).bind fun v h2 => match v with
    | .non => if val c then (match h2[h.length]? with
        | some (.ins c' fs vs) => .ok (.ins c' fs vs) (gc h.length (.ins c' fs vs) h (h2.set h.length .dead))
        | _ => .no) else .ok (.ref h.length) h2
    | _ => .no
def fStF (lay : Nat → Nat → Bool) (o : W) (f : Nat) (v : W) (h : WH) : Option WH := match o with
  | .ref a => match h[a]? with
    | some (.ins c fs vs) => if lay c f = true ∧ fs.length < 900 then some (h.set a (.ins c (putFs f fs) (putVs f v fs vs))) else none
    | _ => none
  | _ => none
def sStF (lay : Nat → Nat → Bool) (o : EV) (f : Nat) (v : EV) : EW := fun sw h => (v sw h).st sw fun x h1 => (o sw h1).st sw fun y h2 => match fStF lay y f x h2 with | some h4 => .ok (.next sw) h4 | none => .no
end
end KW

set_option Elab.async false
set_option linter.all false
set_option maxRecDepth 100000
set_option maxHeartbeats 4000000
/-! enumerate over a tuple or a list -/
namespace KW
open PySem L2 PySem.Spec PyProof.Rows
/-- enumerate over a tuple -/
def ItU (K : PySem.W.Frag) (a : Addr) : It :=
  ⟨fun i H => ∃ (xs : List V) (x : V), SqT K H a xs ∧ xs[i]? = some x, fun i H v H' => ∃ T x, ∃ o : Obj, v = .ref T ∧ H T = none ∧ o.dict = none ∧ H' = upd H T (.frz o (.tup [.int (i : Nat), x])) ∧ ∀ xs, SqT K H a xs → xs[i]? = some x, fun i H => ∃ xs : List V, SqT K H a xs ∧ xs.length = i⟩
theorem turn_enumT {P : Program} {w : World} {K : PySem.W.Frag} {elts : List Expr} {kk : Nat} {tpos : Pos} (a e it : Addr) :
    Turn P w K (.Tuple elts kk tpos) (ItU K a) [e, it] e (fun i h => (∃ old, IsEnum h e it ((i : Nat) : Int) old) ∧ h.IsTupleIter it a i ∧ e ≠ it ∧ a ≠ it ∧ a ≠ e) where
  mem := by simp
  obj := by
    rintro i h ⟨⟨old, he⟩, ⟨o, ho, hc, hd⟩, _⟩ b hb
    rcases List.mem_cons.mp hb with z | z
    · rw [z]; exact ⟨_, he, fun v q => nomatch q⟩
    · rw [List.mem_singleton.mp z]
      exact ⟨o, ho, fun v q => by rw [hd] at q; cases q⟩
  keep := by
    rintro i h h' ⟨⟨old, he⟩, hi, hn⟩ k
    exact ⟨⟨old, k e (List.mem_cons_self ..) _ he⟩, hi.at fun o q => k it (by simp) o q, hn⟩
  item := by
    intro X hP hw hK hc i pins s σ H E I hf st hg
    subst hP; subst hw; subst hK
    obtain ⟨⟨old, he⟩, hit, hn1, hn2, hn3⟩ := st
    obtain ⟨xs, x, hq, hx⟩ := hg
    obtain ⟨its, rv, p, _⟩ := I.tuple hq
    obtain ⟨u, hu, ru⟩ := rv.get hx
    have hu' : its.toArray[i]? = some u := by simpa using hu
    have hlt : i < its.toArray.size := (Array.getElem?_eq_some_iff.mp hu').1
    have le1 : e < s.heap.objs.size := Heap.lt_size he
    have le2 : it < s.heap.objs.size := by obtain ⟨_, q, _⟩ := hit; exact Heap.lt_size q
    have hh : X.A.in1.handled = none := by simp [I.ok.hd hc]
    have D := Draws.tuple (prog := X.prog) (w := X.w) hh it a hn2 its.toArray
    refine wpAny_pyNext_enum_itemC D he ⟨hit, p⟩ hlt hn1 (by simp [hn1, hn3.symm]) fun y h' tk hy ho hst hT hsz hk => ?_
    have ey : y = u := Option.some.inj (hy.symm.trans hu')
    subst ey
    refine ⟨_, rfl, wpAny_letOwnedTupleGo_enum (s := { s with heap := h', toks := tk + 1 }) ho fun h2 he2 sb => ?_⟩
    have hT2 : h2.get? s.heap.objs.size = some { cls := .type "tuple", data := .seq #[.int i tk, y] } := (sb.2 _ (Nat.ne_of_gt le1)).trans hT
    have ob : ObjOk X.prog X.w (upd H s.heap.objs.size (.frz { cls := .type "tuple", data := .seq #[.int i tk, y] } (.tup [.int (i : Nat), x]))) h2 s.heap.objs.size (.frz { cls := .type "tuple", data := .seq #[.int i tk, y] } (.tup [.int (i : Nat), x])) :=
      ⟨hT2, by show 2 ≤ sizeLine; decide, [.int i tk, y], .cons ⟨_, rfl⟩ (.cons ru .nil), ⟨_, hT2, rfl, _, rfl⟩⟩
    have I2 : Inv X pins σ (upd H s.heap.objs.size (.frz { cls := .type "tuple", data := .seq #[.int i tk, y] } (.tup [.int (i : Nat), x]))) { s with heap := h2, toks := tk + 1 } :=
      I.turnedNew (ch := [e, it]) (fun b o hb q => (sb.2 b fun z => hb (by simp [z])).trans (hk b o (fun z => hb (by simp [z])) (fun z => hb (by simp [z])) q)) hf (Nat.le_refl _) ob
    refine ⟨.ref s.heap.objs.size, _, I2, rfl, ⟨_, x, _, rfl, I.hok.fresh (Nat.le_refl _), rfl, rfl, fun ys hy => by rw [I.tuple_inj hy hq]; exact hx⟩, ⟨⟨y, ?_⟩, ?_, hn1, hn2, hn3⟩, fun b hb => ?_⟩
    · rw [show ((i + 1 : Nat) : Int) = (i : Int) + 1 from by omega]
      exact he2
    · exact hst.1.at fun o q => (sb.2 it hn1.symm).trans q
    · have lb : b < s.heap.objs.size := by
        rcases List.mem_cons.mp hb with z | z
        · exact z ▸ le1
        · exact List.mem_singleton.mp z ▸ le2
      rw [upd_ne (Nat.ne_of_lt lb)]
      exact (hf b hb).1
  done := by
    intro X hP hw hK hc i pins s σ H E I hf st hg
    subst hP; subst hw; subst hK
    obtain ⟨⟨old, he⟩, hit, hn1, hn2, hn3⟩ := st
    obtain ⟨xs, hq, hx⟩ := hg
    obtain ⟨its, rv, p, _⟩ := I.tuple hq
    obtain ⟨f0, f1, f2, f3, f4, f5⟩ := hf it (by simp)
    have ln : its.toArray.size = i := by rw [List.size_toArray, ← rv.length]; exact hx
    have hh : X.A.in1.handled = none := by simp [I.ok.hd hc]
    have D := Draws.tuple (prog := X.prog) (w := X.w) hh it a hn2 its.toArray
    exact wpAny_pyNext_enum_endD D he ⟨ln ▸ hit, p⟩ fun h' eb => ⟨rfl, I.turned (t' := s.toks) (fun b o hb q => eb b o hb q) f0 f1 f3 f4 f5⟩
  self := fun A i s Q E st h => let ⟨⟨_, he⟩, _⟩ := st; wpAny_pyIter_enum he h

/-- enumerate(t): its two new cells -/
theorem meets_enumT (l : Addr) (items : Array Value) :
    Meets (Builtin.«enumerate.__new__» ⟨[.type "enumerate", .ref l], []⟩) (fun _ R s => s.heap.IsTuple l items ∧
      R (.ok (.ret (.ref (s.heap.objs.size + 1)))) { s with heap := (s.heap.push { cls := .type "tuple_iterator", data := .fields #[.ref l, .int 0 0] }).push { cls := .type "enumerate", data := .fields #[.none, .bool false, .ref s.heap.objs.size, rawInt 0, .none, .none] } }) :=
  .of_wp fun prog w A R s h => by
    obtain ⟨hp, g, d, tk, os⟩ := s
    obtain ⟨ht, h⟩ := h
    have hsub := sub_enumerate
    have hz : (hp.push { cls := .type "tuple_iterator", data := .fields #[.ref l, .int 0 0] }).objs.size = hp.objs.size + 1 := Heap.size_push ..
    have q1 : ∀ {A' : Around} {E : Value → Shared → Prop} {Q : Value → Shared → Prop}, Q (.ref hp.objs.size) ⟨hp.push { cls := .type "tuple_iterator", data := .fields #[.ref l, .int 0 0] }, g, d, tk, os⟩ → wpAny (model prog w) A' (pyIter (.ref l)) Q E ⟨hp, g, d, tk, os⟩ :=
      fun q => wpAny_pyIter_tuple (s := ⟨hp, g, d, tk, os⟩) ht q
    wp_walk using q1
    refine wpAny_stack_any fun st => wpAny_pure ?_
    split
    · rename_i c _ _ _ _ _
      cases (c == Value.type "enumerate")
      · wp_walk using q1
        exact ⟨_, rfl, hz ▸ h⟩
      · wp_walk using q1
        exact ⟨_, rfl, hz ▸ h⟩
    · wp_walk using q1
      exact ⟨_, rfl, hz ▸ h⟩
theorem call_enumT {prog : Program} {w : World} {A : Around} {E : Value → Shared → Prop} {s : Shared} {l : Addr} {items : Array Value} {Q : Value → Shared → Prop} (hL : s.heap.IsTuple l items)
    (h : ∀ h', IsEnum h' (s.heap.objs.size + 1) s.heap.objs.size 0 .none → h'.IsTupleIter s.heap.objs.size l 0 → (∀ b o, s.heap.get? b = some o → h'.get? b = some o) → Q (.ref (s.heap.objs.size + 1)) { s with heap := h' }) :
    wpAny (model prog w) A (call (.type "enumerate") [.ref l]) Q E s := by
  refine callType_new F.called_enumerate (by decide) (F.typeCall_enumerate_1 _) (F.newCall_enumerate_1 _) (fun obj => F.args_object_init_2 obj _) F.entry_enumerate_new (meets_enumT l items) ⟨hL, ?_⟩
  have hz : (s.heap.push { cls := .type "tuple_iterator", data := .fields #[.ref l, .int 0 0] }).objs.size = s.heap.objs.size + 1 := Heap.size_push ..
  have he := Heap.get?_push_size (s.heap.push { cls := .type "tuple_iterator", data := .fields #[.ref l, .int 0 0] }) (o := { cls := .type "enumerate", data := .fields #[.none, .bool false, .ref s.heap.objs.size, rawInt 0, .none, .none] }) rfl
  rw [hz] at he
  exact ⟨⟨_, he, rfl⟩, h _ he ⟨_, Heap.get?_push_of_some _ (Heap.get?_push_size _ rfl), rfl, rfl⟩ fun b o x => Heap.get?_push_of_some _ (Heap.get?_push_of_some _ x)⟩
def iEnumT (K : PySem.W.Frag) (ta : TA) : TI := fun σ H R => ta σ H fun vs H1 => ∃ a xs, vs = [.ref a] ∧ SqT K H1 a xs ∧ R (ItU K a) H1
theorem pi_enumT {X : Cx} {e : Expr} {ta : TA} {p pos tpos : Pos} {elts : List Expr} {kk : Nat} (hg : Gl X "enumerate") (hm : X.mg "enumerate" = none) (ha : PA X [e] ta) (hs : starEach [e] X.env = [(false, eval e X.env)]) :
    PI X (.Tuple elts kk tpos) (.Call (.Name "enumerate" p) [e] [] pos) (iEnumT X.K ta) := by
  refine ⟨fun pins s σ H R I h => ?_⟩
  refine Call_ (ld_blt I hg hm boot_enumerate (PyProof.Rows.callWith_type1 (thn (ha.run pos pins s σ H _ I h) fun us s1 ⟨vs, H1, I1, r1, a, xs, ex, hq, q⟩ => ?_) hs rfl))
  subst ex
  obtain ⟨u, rfl, ru⟩ := r1.one
  cases ru
  obtain ⟨its, rv, pl, hz⟩ := I1.tuple hq
  have la : a < s1.heap.objs.size := by obtain ⟨_, q, _⟩ := pl; exact Heap.lt_size q
  refine call_enumT pl fun h' he hit hk => wpAny_pyIter_enum he ?_
  have I2 : Inv X pins σ H1 { s1 with heap := h' } := I1.kept (t' := s1.toks) hk
  refine ⟨s1.heap.objs.size + 1, [s1.heap.objs.size + 1, s1.heap.objs.size], _, _, H1, rfl, I2, turn_enumT a (s1.heap.objs.size + 1) s1.heap.objs.size, ⟨⟨.none, he⟩, hit, Nat.succ_ne_self _, Nat.ne_of_lt la, Nat.ne_of_lt (Nat.lt_succ_of_lt la)⟩, fun b hb => ?_, q⟩
  have hle : s1.heap.objs.size ≤ b := by
    rcases List.mem_cons.mp hb with z | z
    · rw [z]; exact Nat.le_succ _
    · rw [List.mem_singleton.mp z]; exact Nat.le_refl _
  exact I1.fpOk hle (I1.hok.fresh hle)

/-- enumerate over a list -/
def ItV (K : PySem.W.Frag) (a : Addr) : It :=
  ⟨fun i H => ∃ (xs : List V) (x : V), SqL K H a xs ∧ xs[i]? = some x, fun i H v H' => ∃ T x, ∃ o : Obj, v = .ref T ∧ H T = none ∧ o.dict = none ∧ H' = upd H T (.frz o (.tup [.int (i : Nat), x])) ∧ ∀ xs, SqL K H a xs → xs[i]? = some x, fun i H => ∃ xs : List V, SqL K H a xs ∧ xs.length = i⟩
theorem turn_enumV {P : Program} {w : World} {K : PySem.W.Frag} {elts : List Expr} {kk : Nat} {tpos : Pos} (a e it : Addr) :
    Turn P w K (.Tuple elts kk tpos) (ItV K a) [e, it] e (fun i h => (∃ old, IsEnum h e it ((i : Nat) : Int) old) ∧ h.IsListIter it a i ∧ e ≠ it ∧ a ≠ it ∧ a ≠ e) where
  mem := by simp
  obj := by
    rintro i h ⟨⟨old, he⟩, ⟨o, ho, hc, hd⟩, _⟩ b hb
    rcases List.mem_cons.mp hb with z | z
    · rw [z]; exact ⟨_, he, fun v q => nomatch q⟩
    · rw [List.mem_singleton.mp z]
      exact ⟨o, ho, fun v q => by rw [hd] at q; cases q⟩
  keep := by
    rintro i h h' ⟨⟨old, he⟩, hi, hn⟩ k
    exact ⟨⟨old, k e (List.mem_cons_self ..) _ he⟩, hi.at fun o q => k it (by simp) o q, hn⟩
  item := by
    intro X hP hw hK hc i pins s σ H E I hf st hg
    subst hP; subst hw; subst hK
    obtain ⟨⟨old, he⟩, hit, hn1, hn2, hn3⟩ := st
    obtain ⟨xs, x, hq, hx⟩ := hg
    obtain ⟨its, rv, p, _⟩ := I.list hq
    obtain ⟨u, hu, ru⟩ := rv.get hx
    have hu' : its.toArray[i]? = some u := by simpa using hu
    have hlt : i < its.toArray.size := (Array.getElem?_eq_some_iff.mp hu').1
    have le1 : e < s.heap.objs.size := Heap.lt_size he
    have le2 : it < s.heap.objs.size := by obtain ⟨_, q, _⟩ := hit; exact Heap.lt_size q
    have hh : X.A.in1.handled = none := by simp [I.ok.hd hc]
    have D := Draws.list (prog := X.prog) (w := X.w) hh it a hn2 its.toArray
    refine wpAny_pyNext_enum_itemC D he ⟨hit, p.isList⟩ hlt hn1 (by simp [hn1, hn3.symm]) fun y h' tk hy ho hst hT hsz hk => ?_
    have ey : y = u := Option.some.inj (hy.symm.trans hu')
    subst ey
    refine ⟨_, rfl, wpAny_letOwnedTupleGo_enum (s := { s with heap := h', toks := tk + 1 }) ho fun h2 he2 sb => ?_⟩
    have hT2 : h2.get? s.heap.objs.size = some { cls := .type "tuple", data := .seq #[.int i tk, y] } := (sb.2 _ (Nat.ne_of_gt le1)).trans hT
    have ob : ObjOk X.prog X.w (upd H s.heap.objs.size (.frz { cls := .type "tuple", data := .seq #[.int i tk, y] } (.tup [.int (i : Nat), x]))) h2 s.heap.objs.size (.frz { cls := .type "tuple", data := .seq #[.int i tk, y] } (.tup [.int (i : Nat), x])) :=
      ⟨hT2, by show 2 ≤ sizeLine; decide, [.int i tk, y], .cons ⟨_, rfl⟩ (.cons ru .nil), ⟨_, hT2, rfl, _, rfl⟩⟩
    have I2 : Inv X pins σ (upd H s.heap.objs.size (.frz { cls := .type "tuple", data := .seq #[.int i tk, y] } (.tup [.int (i : Nat), x]))) { s with heap := h2, toks := tk + 1 } :=
      I.turnedNew (ch := [e, it]) (fun b o hb q => (sb.2 b fun z => hb (by simp [z])).trans (hk b o (fun z => hb (by simp [z])) (fun z => hb (by simp [z])) q)) hf (Nat.le_refl _) ob
    refine ⟨.ref s.heap.objs.size, _, I2, rfl, ⟨_, x, _, rfl, I.hok.fresh (Nat.le_refl _), rfl, rfl, fun ys hy => by rw [I.list_inj hy hq]; exact hx⟩, ⟨⟨y, ?_⟩, ?_, hn1, hn2, hn3⟩, fun b hb => ?_⟩
    · rw [show ((i + 1 : Nat) : Int) = (i : Int) + 1 from by omega]
      exact he2
    · exact hst.1.at fun o q => (sb.2 it hn1.symm).trans q
    · have lb : b < s.heap.objs.size := by
        rcases List.mem_cons.mp hb with z | z
        · exact z ▸ le1
        · exact List.mem_singleton.mp z ▸ le2
      rw [upd_ne (Nat.ne_of_lt lb)]
      exact (hf b hb).1
  done := by
    intro X hP hw hK hc i pins s σ H E I hf st hg
    subst hP; subst hw; subst hK
    obtain ⟨⟨old, he⟩, hit, hn1, hn2, hn3⟩ := st
    obtain ⟨xs, hq, hx⟩ := hg
    obtain ⟨its, rv, p, _⟩ := I.list hq
    obtain ⟨f0, f1, f2, f3, f4, f5⟩ := hf it (by simp)
    have ln : its.toArray.size = i := by rw [List.size_toArray, ← rv.length]; exact hx
    have hh : X.A.in1.handled = none := by simp [I.ok.hd hc]
    have D := Draws.list (prog := X.prog) (w := X.w) hh it a hn2 its.toArray
    exact wpAny_pyNext_enum_endD D he ⟨ln ▸ hit, p.isList⟩ fun h' eb => ⟨rfl, I.turned (t' := s.toks) (fun b o hb q => eb b o hb q) f0 f1 f3 f4 f5⟩
  self := fun A i s Q E st h => let ⟨⟨_, he⟩, _⟩ := st; wpAny_pyIter_enum he h

/-- enumerate(t): its two new cells -/
theorem meets_enumV (l : Addr) (items : Array Value) :
    Meets (Builtin.«enumerate.__new__» ⟨[.type "enumerate", .ref l], []⟩) (fun _ R s => s.heap.IsList l items ∧
      R (.ok (.ret (.ref (s.heap.objs.size + 1)))) { s with heap := (s.heap.push { cls := .type "list_iterator", data := .fields #[.ref l, .int 0 0] }).push { cls := .type "enumerate", data := .fields #[.none, .bool false, .ref s.heap.objs.size, rawInt 0, .none, .none] } }) :=
  .of_wp fun prog w A R s h => by
    obtain ⟨hp, g, d, tk, os⟩ := s
    obtain ⟨ht, h⟩ := h
    have hsub := sub_enumerate
    have hz : (hp.push { cls := .type "list_iterator", data := .fields #[.ref l, .int 0 0] }).objs.size = hp.objs.size + 1 := Heap.size_push ..
    have q1 : ∀ {A' : Around} {E : Value → Shared → Prop} {Q : Value → Shared → Prop}, Q (.ref hp.objs.size) ⟨hp.push { cls := .type "list_iterator", data := .fields #[.ref l, .int 0 0] }, g, d, tk, os⟩ → wpAny (model prog w) A' (pyIter (.ref l)) Q E ⟨hp, g, d, tk, os⟩ :=
      fun q => wpAny_pyIter_list (s := ⟨hp, g, d, tk, os⟩) ht q
    wp_walk using q1
    refine wpAny_stack_any fun st => wpAny_pure ?_
    split
    · rename_i c _ _ _ _ _
      cases (c == Value.type "enumerate")
      · wp_walk using q1
        exact ⟨_, rfl, hz ▸ h⟩
      · wp_walk using q1
        exact ⟨_, rfl, hz ▸ h⟩
    · wp_walk using q1
      exact ⟨_, rfl, hz ▸ h⟩
theorem call_enumV {prog : Program} {w : World} {A : Around} {E : Value → Shared → Prop} {s : Shared} {l : Addr} {items : Array Value} {Q : Value → Shared → Prop} (hL : s.heap.IsList l items)
    (h : ∀ h', IsEnum h' (s.heap.objs.size + 1) s.heap.objs.size 0 .none → h'.IsListIter s.heap.objs.size l 0 → (∀ b o, s.heap.get? b = some o → h'.get? b = some o) → Q (.ref (s.heap.objs.size + 1)) { s with heap := h' }) :
    wpAny (model prog w) A (call (.type "enumerate") [.ref l]) Q E s := by
  refine callType_new F.called_enumerate (by decide) (F.typeCall_enumerate_1 _) (F.newCall_enumerate_1 _) (fun obj => F.args_object_init_2 obj _) F.entry_enumerate_new (meets_enumV l items) ⟨hL, ?_⟩
  have hz : (s.heap.push { cls := .type "list_iterator", data := .fields #[.ref l, .int 0 0] }).objs.size = s.heap.objs.size + 1 := Heap.size_push ..
  have he := Heap.get?_push_size (s.heap.push { cls := .type "list_iterator", data := .fields #[.ref l, .int 0 0] }) (o := { cls := .type "enumerate", data := .fields #[.none, .bool false, .ref s.heap.objs.size, rawInt 0, .none, .none] }) rfl
  rw [hz] at he
  exact ⟨⟨_, he, rfl⟩, h _ he ⟨_, Heap.get?_push_of_some _ (Heap.get?_push_size _ rfl), rfl, rfl⟩ fun b o x => Heap.get?_push_of_some _ (Heap.get?_push_of_some _ x)⟩
def iEnumV (K : PySem.W.Frag) (ta : TA) : TI := fun σ H R => ta σ H fun vs H1 => ∃ a xs, vs = [.ref a] ∧ SqL K H1 a xs ∧ R (ItV K a) H1
theorem pi_enumV {X : Cx} {e : Expr} {ta : TA} {p pos tpos : Pos} {elts : List Expr} {kk : Nat} (hg : Gl X "enumerate") (hm : X.mg "enumerate" = none) (ha : PA X [e] ta) (hs : starEach [e] X.env = [(false, eval e X.env)]) :
    PI X (.Tuple elts kk tpos) (.Call (.Name "enumerate" p) [e] [] pos) (iEnumV X.K ta) := by
  refine ⟨fun pins s σ H R I h => ?_⟩
  refine Call_ (ld_blt I hg hm boot_enumerate (PyProof.Rows.callWith_type1 (thn (ha.run pos pins s σ H _ I h) fun us s1 ⟨vs, H1, I1, r1, a, xs, ex, hq, q⟩ => ?_) hs rfl))
  subst ex
  obtain ⟨u, rfl, ru⟩ := r1.one
  cases ru
  obtain ⟨its, rv, pl, hz⟩ := I1.list hq
  have la : a < s1.heap.objs.size := by obtain ⟨_, _, q, _⟩ := pl; exact Heap.lt_size q
  refine call_enumV pl.isList fun h' he hit hk => wpAny_pyIter_enum he ?_
  have I2 : Inv X pins σ H1 { s1 with heap := h' } := I1.kept (t' := s1.toks) hk
  refine ⟨s1.heap.objs.size + 1, [s1.heap.objs.size + 1, s1.heap.objs.size], _, _, H1, rfl, I2, turn_enumV a (s1.heap.objs.size + 1) s1.heap.objs.size, ⟨⟨.none, he⟩, hit, Nat.succ_ne_self _, Nat.ne_of_lt la, Nat.ne_of_lt (Nat.lt_succ_of_lt la)⟩, fun b hb => ?_, q⟩
  have hle : s1.heap.objs.size ≤ b := by
    rcases List.mem_cons.mp hb with z | z
    · rw [z]; exact Nat.le_succ _
    · rw [List.mem_singleton.mp z]; exact Nat.le_refl _
  exact I1.fpOk hle (I1.hok.fresh hle)

/-! ### as values -/
def enumW (ws : List W) : List W := ws.zipIdx.map fun p => .tup [.int (p.2 : Nat), p.1]
theorem enumW_get {ws : List W} {i : Nat} {w : W} (h : (enumW ws)[i]? = some w) : ∃ x, ws[i]? = some x ∧ w = .tup [.int (i : Nat), x] := by
  simp only [enumW, List.getElem?_map, List.getElem?_zipIdx, Option.map_map, Option.map_eq_some_iff] at h
  obtain ⟨x, e, rfl⟩ := h
  exact ⟨x, e, by simp⟩
theorem enumW_len {ws : List W} : (enumW ws).length = ws.length := by simp [enumW]
theorem pair_new {G : Gx} {k : Ka} {H : Hp} {h : WH} {T : Addr} {i : Int} {w : W} {v : V} {o : Obj} (ho : o.dict = none) (x : HRep G k H h) (hT : H T = none) (r : Rep G k w v) :
    ∃ k', Nxt k H k' (upd H T (.frz o (.tup [.int i, v]))) ∧ HRep G k' (upd H T (.frz o (.tup [.int i, v]))) h ∧ Rep G k' (.tup [.int i, w]) (.ref T) := by
  refine ⟨k.froz T (.frz o (.tup [.int i, v])), Nxt.froz x hT, x.froz hT, ?_⟩
  simp only [Rep]
  refine ⟨T, _, rfl, .inl ⟨o, upd_same, ho⟩, ?_⟩
  simp only [RepL]
  exact ⟨_, _, rfl, by simp only [Rep], _, _, rfl, r.mono (Nxt.froz x hT (o := .frz o (.tup [.int i, v]))).le, rfl⟩
theorem walks_enumT {G : Gx} {k : Ka} {H : Hp} {p : Addr} {ws : List W} {vs : List V} (q : SqT G.K k.F p vs) (r : RepL G k ws vs) : Walks G (ItU G.K p) k H (enumW ws) none where
  go := fun i k2 H2 h2 n2 x2 _ hi => by
    rw [enumW_len] at hi
    exact ⟨vs, vs[i]'(by rw [r.length]; exact hi), Ka.Le.seqT x2.sub (Ka.Le.seqT n2.le.F q), by simp⟩
  stop := fun k2 H2 h2 n2 x2 _ => ⟨vs, Ka.Le.seqT x2.sub (Ka.Le.seqT n2.le.F q), by rw [r.length, enumW_len]⟩
  yld := fun i k2 H2 h2 y H3 w n2 x2 _ e yy => by
    obtain ⟨T, v, ob, rfl, hT, ho, rfl, yy⟩ := yy
    obtain ⟨x, e2, rfl⟩ := enumW_get e
    obtain ⟨v2, e3, r3⟩ := (r.mono n2.le).get e2
    have e4 := yy vs (Ka.Le.seqT x2.sub (Ka.Le.seqT n2.le.F q))
    rw [e3] at e4; cases e4
    exact pair_new ho x2 hT r3
theorem walks_enumF {G : Gx} {k : Ka} {H : Hp} {p : Addr} {ws : List W} {vs : List V} (q : k.F p = some (.lst vs)) (r : RepL G k ws vs) : Walks G (ItV G.K p) k H (enumW ws) none where
  go := fun i k2 H2 h2 n2 x2 _ hi => by
    rw [enumW_len] at hi
    exact ⟨vs, vs[i]'(by rw [r.length]; exact hi), SqL.of (x2.sub _ _ (n2.le.F _ _ q)), by simp⟩
  stop := fun k2 H2 h2 n2 x2 _ => ⟨vs, SqL.of (x2.sub _ _ (n2.le.F _ _ q)), by rw [r.length, enumW_len]⟩
  yld := fun i k2 H2 h2 y H3 w n2 x2 _ e yy => by
    obtain ⟨T, v, ob, rfl, hT, ho, rfl, yy⟩ := yy
    obtain ⟨x, e2, rfl⟩ := enumW_get e
    obtain ⟨v2, e3, r3⟩ := (r.mono n2.le).get e2
    have e4 := yy vs (SqL.of (x2.sub _ _ (n2.le.F _ _ q)))
    rw [e3] at e4; cases e4
    exact pair_new ho x2 hT r3
/-- over enumerate(a tuple or a frozen list) -/
def iEnumW (a : EV) : EI := fun sw h => (a sw h).bind fun w h1 => match w with
  | .tup ws => .ok (enumW ws, none) h1
  | .lst ws => .ok (enumW ws, none) h1
  | _ => .no
section
variable {A : Ax} {X : Cx} {N : List Str} {sc : Scope} {a : Expr} {ea : EV} {p pos tpos : Pos} {elts : List Expr} {kk : Nat}
theorem i_enum (x : XOk A N sc X) (hg : A.gt.lookup ("enumerate" : Str) = some .blt) (h : gloB sc ("enumerate" : Str) = true) (ha : WE A X a ea) (h3 : nonStar a = true) : WI A X (.Tuple elts kk tpos) (.Call (.Name "enumerate" p) [a] [] pos) (iEnumW ea) := fun wx tk =>
  PI_imp (PI_or (pi_enumV (gl_of x (gloB_ok h).1) (x.glob.blt _ hg) (pa_cons (ha wx tk) pa_nil (star_ok h3)) (star_ok h3)) (pi_enumT (gl_of x (gloB_ok h).1) (x.glob.blt _ hg) (pa_cons (ha wx tk) pa_nil (star_ok h3)) (star_ok h3))) fun σ H Q ⟨k, sw, h, hs, hh, d⟩ => by
    have d0 := DenI.bind (rp := Rep A.toGx) d
    have d1 : DenI A.toGx wx k H σ (iEnumW ea sw h) Q := d
    unfold iEnumW at d1
    cases er : ea sw h with
    | no => rw [er] at d0; exact d0.elim
    | exc c fs vs h1 => rw [er] at d0; exact .inl ⟨k, sw, h, hs, hh, by rw [er]; exact d0⟩
    | ok w h1 =>
      rw [er] at d1
      dsimp only [R.bind] at d1
      have E : ∀ {Q' : VK}, (∀ v k' H', Nxt k H k' H' → HRep A.toGx k' H' h1 → Rep A.toGx k' w v → Q' v H') → TEx A.toGx wx ea σ H Q' := fun q => ⟨k, sw, h, hs, hh, by rw [er]; exact q⟩
      rw [x.hK]
      cases w <;> dsimp only at d1 <;> first | exact d1.elim | skip
      · refine .inr (E fun v k' H' n x r => ?_)
        simp only [Rep] at r
        obtain ⟨p, vs, rfl, q, r⟩ := r
        exact ⟨p, vs, rfl, Ka.Le.seqT x.sub q.sq, d1 _ k' H' n x (walks_enumT q.sq r)⟩
      · refine .inl (E fun v k' H' n x r => ?_)
        simp only [Rep] at r
        obtain ⟨p, vs, rfl, q, r⟩ := r
        exact ⟨p, vs, rfl, SqL.of (x.sub _ _ q), d1 _ k' H' n x (walks_enumF q r)⟩
end
end KW

set_option Elab.async false
set_option linter.all false
set_option maxRecDepth 100000
set_option maxHeartbeats 4000000
/-! len(set(texts)) -/
namespace KW
open PySem L2 PySem.Spec PyProof.Rows
/-- the unlike ones, in order -/
def unlike (xs : List Str) : List Str := xs.foldl (fun acc x => if x ∈ acc then acc else acc ++ [x]) []
section
variable {prog : Program} {w : World} {A : Around} {R : Result → Shared → Prop} {I : Addr} {fp wr : List Addr} {G : Array GenState → Array GenState → Prop} {n : Nat} {P : Nat → Value → Prop} {St : Nat → Shared → Prop}
/-- what the set holds after i items -/
abbrev HasTo (prog : Program) (w : World) (h : Heap) (S : Addr) (xs : List Str) : Prop := h.SetOf (PySem.strKind prog w) S (fun k => decide (k ∈ xs)) (unlike xs).length
theorem HasTo.at {S : Addr} {xs : List Str} {h h' : Heap} (x : HasTo prog w h S xs) (k : ∀ o, h.get? S = some o → h'.get? S = some o) : HasTo prog w h' S xs := by
  obtain ⟨o, es, ep, t, ho, rest⟩ := x
  exact ⟨o, es, ep, t, k o ho, rest⟩
end
section
variable {prog : Program} {w : World} {A : Around} {E : Value → Shared → Prop} {s : Shared}
end
section
variable {A : Ax} {X : Cx} {N : List Str} {sc : Scope} {a : Expr} {ea : EV} {p p2 q pos : Pos}
end
end KW

set_option Elab.async false
set_option linter.all false
set_option maxRecDepth 100000
set_option maxHeartbeats 4000000
/-! what the module's names hold, from a list -/
namespace KW
open PySem L2
def GE (A : Ax) (mg : Str → Option Value) (x : Str) : Gk → Prop
  | .fn f => ∃ a, A.fa f = some a ∧ mg x = some (.ref a)
  | .cls c => ∃ C, A.cl c = some C ∧ mg x = some (.ref C)
  | .cst w => ∃ u v, mg x = some u ∧ RelV v u ∧ ∀ k, Rep A.toGx k w v
  | .blt => mg x = none
def GEs (A : Ax) (mg : Str → Option Value) : List (Str × Gk) → Prop
  | [] => True
  | e :: r => GE A mg e.1 e.2 ∧ GEs A mg r
theorem GEs.at {A : Ax} {mg : Str → Option Value} {x : Str} {g : Gk} : ∀ {t : List (Str × Gk)}, GEs A mg t → t.lookup x = some g → GE A mg x g
  | [], _, h => by cases h
  | (y, u) :: r, ⟨h1, h2⟩, h => by
    rw [List.lookup_cons] at h
    split at h
    · rename_i e
      cases h
      rw [beq_iff_eq.mp e]; exact h1
    · exact GEs.at h2 h
theorem glob_of {A : Ax} {mg : Str → Option Value} (h : GEs A mg A.gt) : GlobOk A mg where
  fn := fun x f e => GEs.at h e
  cls := fun x c e => GEs.at h e
  cst := fun x w e => GEs.at h e
  blt := fun x e => GEs.at h e
end KW

set_option Elab.async false
set_option linter.all false
set_option maxRecDepth 100000
set_option maxHeartbeats 4000000
/-! running the meanings by simp -/
namespace KW
open PySem L2
section
variable {α β : Type} {i j : Nat} {sw : WS} {h : WH} {w u : W} {a b c : EV} {ta tb : EB} {s r : EW} {m : Bool} {f g : W → W → WH → R W} {e : EA} {es : List W}
@[simp] theorem x_bind (x : α) (f : α → WH → R β) : (R.ok x h).bind f = f x h := rfl
@[simp] theorem x_bindN (f : α → WH → R β) : (R.no : R α).bind f = .no := rfl
@[simp] theorem x_bindX {c fs vs} (f : α → WH → R β) : (R.exc c fs vs h : R α).bind f = .exc c fs vs h := rfl
@[simp] theorem x_st (x : α) (f : α → WH → RS) : (R.ok x h).st sw f = f x h := rfl
@[simp] theorem x_stN (f : α → WH → RS) : (R.no : R α).st sw f = .no := rfl
@[simp] theorem x_stX {c fs vs} (f : α → WH → RS) : (R.exc c fs vs h : R α).st sw f = .exc sw c fs vs h := rfl
@[simp] theorem x_var : dVar i sw h = match sw[i]? with | some (some w) => .ok w h | _ => .no := rfl
@[simp] theorem x_c : dC w sw h = .ok w h := rfl
@[simp] theorem x_op : dOp f a b sw h = (a sw h).bind fun w h1 => (b sw h1).bind fun u h2 => f w u h2 := rfl
@[simp] theorem x_nil : aNil sw h = .ok [] h := rfl
@[simp] theorem x_cons : aCons a e sw h = (a sw h).bind fun w h1 => (e sw h1).bind fun ws h2 => .ok (w :: ws) h2 := rfl
@[simp] theorem x_tup : dTup e sw h = (e sw h).bind fun ws h1 => if ws.length ≤ lim then .ok (.tup ws) h1 else .no := rfl
@[simp] theorem x_lst : dLst m e sw h = (e sw h).bind fun ws h1 => if ws.length ≤ lim then newL m ws h1 else .no := rfl
@[simp] theorem x_newF : newL false es h = .ok (.lst es) h := rfl
@[simp] theorem x_newT : newL true es h = .ok (.ref h.length) (h ++ [.lst es]) := rfl
@[simp] theorem x_if : dIf ta a b sw h = (ta sw h).bind fun c h1 => if c then a sw h1 else b sw h1 := rfl
@[simp] theorem x_tst : dTst a sw h = (a sw h).bind fun w h1 => match w with | .bl b => .ok b h1 | _ => .no := rfl
@[simp] theorem x_tru : dTru a sw h = (a sw h).bind fun w h1 => match truW h1 w with | some b => .ok b h1 | none => .no := rfl
@[simp] theorem x_notT : dNotT ta sw h = (ta sw h).bind fun c h1 => .ok (!c) h1 := rfl
@[simp] theorem x_andT : dAndT ta tb sw h = (ta sw h).bind fun c h1 => if c then tb sw h1 else .ok false h1 := rfl
@[simp] theorem x_orT : dOrT ta tb sw h = (ta sw h).bind fun c h1 => if c then .ok true h1 else tb sw h1 := rfl
@[simp] theorem x_and : dAnd a b sw h = (a sw h).bind fun w h1 => match truW h1 w with | some true => b sw h1 | some false => .ok w h1 | none => .no := rfl
@[simp] theorem x_or : dOr a b sw h = (a sw h).bind fun w h1 => match truW h1 w with | some true => .ok w h1 | some false => b sw h1 | none => .no := rfl
@[simp] theorem x_not : dNot a sw h = (a sw h).bind fun w h1 => match truW h1 w with | some c => .ok (.bl (!c)) h1 | none => .no := rfl
@[simp] theorem x_neg : dNeg a sw h = (a sw h).bind fun w h1 => match w with | .int i => .ok (.int (-i)) h1 | _ => .no := rfl
@[simp] theorem x_chn : dChn f g a b c sw h = (a sw h).bind fun x h1 => (b sw h1).bind fun y h2 => (f x y h2).bind fun z h3 => match z with
  | .bl true => (c sw h3).bind fun u h4 => g y u h4 | .bl false => .ok (.bl false) h3 | _ => .no := rfl
@[simp] theorem x_call {φ : List W → WH → R W} : dCall φ e sw h = (e sw h).bind φ := rfl
@[simp] theorem x_bi {φ : List W → WH → R W} : dBi φ e sw h = (e sw h).bind φ := rfl
@[simp] theorem x_oNo : oNo sw h = .ok none h := rfl
@[simp] theorem x_oSome : oSome a sw h = (a sw h).bind fun w h1 => match w with | .int i => .ok (some i) h1 | _ => .no := rfl
@[simp] theorem x_sl {lo hi : EO} : dSl m a lo hi sw h = (a sw h).bind fun x h1 => (lo sw h1).bind fun l h2 => (hi sw h2).bind fun u h3 => fSl m x l u h3 := rfl
@[simp] theorem x_isT {T} : dIsT T a sw h = (a sw h).bind fun w h1 => match (tyW h1 w).bind fun t => kitB t T with | some b => .ok (.bl b) h1 | none => .no := rfl
@[simp] theorem x_bm {T} {F : FM} : dBM T F a e sw h = (a sw h).bind fun w h1 => if tyIs T h1 w then (e sw h1).bind fun ws h2 => F w ws h2 else .no := rfl
@[simp] theorem x_fld : dFld a i sw h = (a sw h).bind fun w h1 => match insOf h1 w with
  | some (_, fs, vs) => (match lookF i fs vs with | some x => .ok x h1 | none => .no) | none => .no := rfl
@[simp] theorem x_sNil : sNil sw h = .ok (.next sw) h := rfl
/-- one thing after another, as a function of the first one's result -/
def RS.seq (x : RS) (r : EW) : RS := match x with | .ok (.next sw1) h1 => r sw1 h1 | x => x
@[simp] theorem x_seq : sSeq s r sw h = (s sw h).seq r := rfl
@[simp] theorem q_next : (RS.ok (.next sw) h).seq r = r sw h := rfl
@[simp] theorem q_ret : (RS.ok (.ret w) h).seq r = .ok (.ret w) h := rfl
@[simp] theorem q_brk : (RS.ok (.brk sw) h).seq r = .ok (.brk sw) h := rfl
@[simp] theorem q_cont : (RS.ok (.cont sw) h).seq r = .ok (.cont sw) h := rfl
@[simp] theorem q_no : RS.no.seq r = .no := rfl
@[simp] theorem q_exc {c fs vs} : (RS.exc sw c fs vs h).seq r = .exc sw c fs vs h := rfl
@[simp] theorem x_set : sSet i a sw h = (a sw h).st sw fun w h1 => .ok (.next (sw.set i (some w))) h1 := rfl
@[simp] theorem x_par : sPar i j e sw h = (e sw h).st sw fun ws h1 => match ws with | [w, u] => .ok (.next ((sw.set i (some w)).set j (some u))) h1 | _ => .no := rfl
@[simp] theorem x_tg {t : W → WS → Option WS} : sTg t a sw h = (a sw h).st sw fun w h1 => match t w sw with | some sw' => .ok (.next sw') h1 | none => .no := rfl
@[simp] theorem x_sexpr : sExpr a sw h = (a sw h).st sw fun _ h1 => .ok (.next sw) h1 := rfl
@[simp] theorem x_ret : sRet a sw h = (a sw h).st sw fun w h1 => .ok (.ret w) h1 := rfl
@[simp] theorem x_sif : sIf ta s r sw h = (ta sw h).st sw fun c h1 => if c then s sw h1 else r sw h1 := rfl
@[simp] theorem x_setI : sSetI a b c sw h = (c sw h).st sw fun x h1 => (a sw h1).st sw fun y h2 => (b sw h2).st sw fun z h3 => match fSetI y z x h3 with | some h4 => .ok (.next sw) h4 | none => .no := rfl
@[simp] theorem x_stF {lay} : sStF lay a i b sw h = (b sw h).st sw fun x h1 => (a sw h1).st sw fun y h2 => match fStF lay y i x h2 with | some h4 => .ok (.next sw) h4 | none => .no := rfl
@[simp] theorem x_for {it : EI} {t : Tg} : sFor it t s sw h = (it sw h).st sw fun x h1 => forL x.2 x.1 (tgW t) s x.1 sw h1 := rfl
@[simp] theorem x_thru : sThru s sw h = match s sw h with | .exc .. => .no | r => r := rfl
@[simp] theorem x_any : iAny a sw h = (a sw h).bind fun w h1 => match w with
  | .str x => .ok (signs x, none) h1 | .tup ws => .ok (ws, none) h1 | .lst ws => .ok (ws, none) h1
  | .ref r => (match h1[r]? with | some (.lst ws) => .ok (ws, some r) h1 | _ => .no) | _ => .no := rfl
@[simp] theorem x_enum : iEnumW a sw h = (a sw h).bind fun w h1 => match w with | .tup ws => .ok (enumW ws, none) h1 | .lst ws => .ok (enumW ws, none) h1 | _ => .no := rfl
@[simp] theorem x_rg1 : iRg1 e sw h = (e sw h).bind fun ws h1 => match ws with | [.int j] => if -lim ≤ j ∧ j ≤ lim then .ok (rngW 0 j.toNat, none) h1 else .no | _ => .no := rfl
@[simp] theorem x_comp {it : EI} {t : Tg} {cd : EB} {own : List Nat} : dComp m it t cd a own sw h = (it sw h).bind fun x h1 => (compL x.2 x.1 (tgW t) cd a (wipeW sw own) x.1 [] h1).bind fun ws h2 => newL m ws h2 := rfl
@[simp] theorem x_yes : bYes sw h = .ok true h := rfl
/-! the operators on numbers and texts -/
@[simp] theorem f_add {i j : Int} : fAdd m (.int i) (.int j) h = .ok (.int (i + j)) h := rfl
@[simp] theorem f_sub {i j : Int} : fSub (.int i) (.int j) h = .ok (.int (i - j)) h := rfl
/-- small enough -/
def mulB (i j : Int) : Bool := decide (i.natAbs.log2 + j.natAbs.log2 < 1000000)
def divB (j : Int) : Bool := decide (0 < j ∧ j.natAbs.log2 < 9000)
def powB (i j : Int) : Bool := decide (0 ≤ j ∧ (i.natAbs.log2 + 1) * j.toNat ≤ 1000000)
@[simp] theorem f_mul {i j : Int} : fMul m (.int i) (.int j) h = if mulB i j then .ok (.int (i * j)) h else .no := by simp [fMul, mulB]
@[simp] theorem f_div {i j : Int} : fDiv (.int i) (.int j) h = if divB j then .ok (.int (i / j)) h else .no := by simp [fDiv, divB]
@[simp] theorem f_pow {i j : Int} : fPow (.int i) (.int j) h = if powB i j then .ok (.int (i ^ j.toNat)) h else .no := by simp [fPow, powB]
@[simp] theorem f_mod {i j : Int} : fMod (.int i) (.int j) h = if 0 < j then .ok (.int (i % j)) h else .no := rfl
@[simp] theorem f_int {p : Int → Int → Bool} {i j : Int} : fInt p (.int i) (.int j) h = .ok (.bl (p i j)) h := rfl
@[simp] theorem f_ixT {ws : List W} {i : Int} : fIx (.tup ws) (.int i) h = match atI ws i with | some w => .ok w h | none => .no := rfl
@[simp] theorem f_ixL {ws : List W} {i : Int} : fIx (.lst ws) (.int i) h = match atI ws i with | some w => .ok w h | none => .no := rfl
theorem f_ixR {r : Nat} {ws : List W} {i : Int} (e : h[r]? = some (.lst ws)) : fIx (.ref r) (.int i) h = match atI ws i with | some w => .ok w h | none => .no := by
  have q : seqOf h (.ref r) = some ws := by simp [seqOf, lstOf, e]
  have q1 : dkOf h (.ref r) = none := by simp [dkOf, e]
  have q2 : tdOf h (.ref r) = none := by simp [tdOf, e]
  have q3 : fIx (.ref r) (.int i) h = fIxS (.ref r) (.int i) h := by simp [fIx, q1, q2]
  rw [q3]
  unfold fIxS
  simp only [q]
  try (cases atI ws i <;> rfl)
@[simp] theorem f_ixD {ks ws : List W} {y : W} : fIx (.dct ks ws) y h = dIx y h ks ws := rfl
@[simp] theorem at0 (x : α) (xs : List α) : atI (x :: xs) 0 = some x := by
  simp [atI, ixN]
@[simp] theorem at1 (x y : α) (xs : List α) : atI (x :: y :: xs) 1 = some y := by
  have : (1 : Int) < ((x :: y :: xs).length : Nat) := by simp only [List.length_cons]; omega
  rw [atI, ixN, if_pos (by decide), if_pos this]; rfl
@[simp] theorem at2 (x y z : α) (xs : List α) : atI (x :: y :: z :: xs) 2 = some z := by
  have : (2 : Int) < ((x :: y :: z :: xs).length : Nat) := by simp only [List.length_cons]; omega
  rw [atI, ixN, if_pos (by decide), if_pos this]; rfl
theorem atN {xs : List α} {i : Int} (h0 : 0 ≤ i) (h1 : i < xs.length) : atI xs i = some (xs[i.toNat]'(by omega)) := by
  rw [atI, ixN, if_pos h0, if_pos h1]
  exact List.getElem?_eq_getElem _
theorem setI_ok {r : Nat} {ws : List W} {v : W} (e : h[r]? = some (.lst ws)) {n : Nat} {i : Int} (hi : ixN ws.length i = some n) : fSetI (.ref r) (.int i) v h = some (h.set r (.lst (ws.set n v))) := by
  simp [fSetI, e, hi]
theorem get_same {r : Nat} {x y : Ob} (e : h[r]? = some y) : (h.set r x)[r]? = some x := by
  rw [List.getElem?_set_self (List.getElem?_eq_some_iff.mp e).1]
/-! what a call leaves of the heap -/
theorem gc_len {h h' : WH} (e : h'.length = h.length) : gc h.length w h h' = h' := by
  unfold gc
  split
  · exact List.take_of_length_le (by omega)
  · rfl
@[simp] theorem gc_set {r : Nat} {o : Ob} : gc h.length w h (h.set r o) = h.set r o := gc_len (by simp)
@[simp] theorem gc_self : gc h.length w h h = h := gc_len rfl
theorem gc_drop {h h1 e : WH} (el : h1.length = h.length) (hw : w.lt h.length = true) (ho : ∀ i, i < h.length → h1[i]? = h[i]? ∨ ∃ o, h1[i]? = some o ∧ o.lt h.length = true) : gc h.length w h (h1 ++ e) = h1 := by
  unfold gc
  rw [if_pos]
  · rw [← el]; simp
  · simp only [Bool.and_eq_true, List.all_eq_true, List.mem_range, Bool.or_eq_true, decide_eq_true_eq]
    refine ⟨hw, fun i hi => ?_⟩
    have q : (h1 ++ e)[i]? = h1[i]? := List.getElem?_append_left (by omega)
    rw [q]
    rcases ho i hi with z | ⟨o, z, z2⟩
    · exact .inl z
    · rw [z]; exact .inr z2
theorem lg0 {i : Int} (n : Nat) (h : i.natAbs < 2 ^ n) : i.natAbs.log2 ≤ n := by
  by_cases z : i.natAbs = 0
  · rw [z]; simp
  · exact Nat.le_of_lt ((Nat.log2_lt z).mpr h)
theorem mulB_of {i j : Int} (n : Nat) (hi : i.natAbs < 2 ^ n) (hj : j.natAbs < 2 ^ n) (hn : n < 400000) : mulB i j = true := by
  have := lg0 n hi
  have := lg0 n hj
  exact decide_eq_true (by omega)
theorem divB_of {j : Int} (h0 : 0 < j) (hj : j < 2 ^ 100) : divB j = true := decide_eq_true ⟨h0, by have := lg0 (i := j) 100 (by omega); omega⟩
theorem atMem {xs : List α} {i : Int} (h0 : 0 ≤ i) (h1 : i < xs.length) : ∃ x, x ∈ xs ∧ atI xs i = some x := ⟨_, List.getElem_mem _, atN h0 h1⟩
/-! loops by what stands at each turn -/
theorem forL_go {src : Option Nat} {ws0 : List W} {t : W → WS → Option WS} {body : EW} (P : Nat → WS → WH → Prop) {n : Nat} :
    ∀ (items : List W) (i : Nat) (sw : WS) (h : WH), i + items.length = n → P i sw h → (∀ i sw h, i ≤ n → P i sw h → srcOk src ws0 h = true) →
      (∀ j w sw h, items[j]? = some w → P (i + j) sw h → ∃ sw1 sw2 h2, t w sw = some sw1 ∧ (body sw1 h = .ok (.next sw2) h2 ∨ body sw1 h = .ok (.cont sw2) h2) ∧ P (i + j + 1) sw2 h2) → ∃ sw' h', forL src ws0 t body items sw h = .ok (.next sw') h' ∧ P n sw' h'
  | [], i, sw, h, e, p, hs, _ => by
    obtain rfl : i = n := by simpa using e
    exact ⟨sw, h, by unfold forL; rw [if_pos (hs i sw h (Nat.le_refl _) p)], p⟩
  | w :: rest, i, sw, h, e, p, hs, st => by
    obtain ⟨sw1, sw2, h2, e1, e2, p2⟩ := st 0 w sw h rfl p
    have e' : i + 1 + rest.length = n := by simp only [List.length_cons] at e; omega
    obtain ⟨sw', h', e3, p3⟩ := forL_go (src := src) (ws0 := ws0) (t := t) (body := body) P rest (i + 1) sw2 h2 e' p2 hs fun j u s g ej pj => by
      have := st (j + 1) u s g (by simpa using ej) (by rw [show i + (j + 1) = i + 1 + j from by omega]; exact pj)
      rw [show i + (j + 1) = i + 1 + j from by omega] at this
      exact this
    refine ⟨sw', h', ?_, p3⟩
    unfold forL
    rw [if_pos (hs i sw h (by omega) p), e1]
    rcases e2 with e2 | e2
    · simp only [e2]; exact e3
    · simp only [e2]; exact e3
theorem forL_run {src : Option Nat} {ws0 : List W} {t : W → WS → Option WS} {body : EW} {items : List W} {sw : WS} {h : WH} (P : Nat → WS → WH → Prop) (p0 : P 0 sw h) (hs : ∀ i sw h, i ≤ items.length → P i sw h → srcOk src ws0 h = true)
    (st : ∀ i w sw h, items[i]? = some w → P i sw h → ∃ sw1 sw2 h2, t w sw = some sw1 ∧ (body sw1 h = .ok (.next sw2) h2 ∨ body sw1 h = .ok (.cont sw2) h2) ∧ P (i + 1) sw2 h2) :
    ∃ sw' h', forL src ws0 t body items sw h = .ok (.next sw') h' ∧ P items.length sw' h' :=
  forL_go P items 0 sw h (by simp) p0 hs fun j w s g e p => by
    rw [Nat.zero_add] at p ⊢
    exact st j w s g e p
theorem compL_go {src : Option Nat} {ws0 : List W} {t : W → WS → Option WS} {cond : EB} {elt : EV} {sw : WS} (P : Nat → List W → WH → Prop) {n : Nat} :
    ∀ (items : List W) (i : Nat) (acc : List W) (h : WH), i + items.length = n → P i acc h → (∀ i acc h, i ≤ n → P i acc h → srcOk src ws0 h = true) →
      (∀ j w acc h, items[j]? = some w → P (i + j) acc h → ∃ sw1 h1, t w sw = some sw1 ∧ ((cond sw1 h = .ok false h1 ∧ P (i + j + 1) acc h1) ∨ ∃ y h2, cond sw1 h = .ok true h1 ∧ elt sw1 h1 = .ok y h2 ∧ acc.length < lim ∧ P (i + j + 1) (acc ++ [y]) h2)) →
      ∃ acc' h', compL src ws0 t cond elt sw items acc h = .ok acc' h' ∧ P n acc' h'
  | [], i, acc, h, e, p, hs, _ => by
    obtain rfl : i = n := by simpa using e
    exact ⟨acc, h, by unfold compL; rw [if_pos (hs i acc h (Nat.le_refl _) p)], p⟩
  | w :: rest, i, acc, h, e, p, hs, st => by
    have e' : i + 1 + rest.length = n := by simp only [List.length_cons] at e; omega
    have st' : ∀ j u a g, rest[j]? = some u → P (i + 1 + j) a g → ∃ sw1 h1, t u sw = some sw1 ∧ ((cond sw1 g = .ok false h1 ∧ P (i + 1 + j + 1) a h1) ∨ ∃ y h2, cond sw1 g = .ok true h1 ∧ elt sw1 h1 = .ok y h2 ∧ a.length < lim ∧ P (i + 1 + j + 1) (a ++ [y]) h2) := fun j u a g ej pj => by
      have := st (j + 1) u a g (by simpa using ej) (by rw [show i + (j + 1) = i + 1 + j from by omega]; exact pj)
      rw [show i + (j + 1) = i + 1 + j from by omega] at this
      exact this
    obtain ⟨sw1, h1, e1, e2⟩ := st 0 w acc h rfl p
    unfold compL
    rw [if_pos (hs i acc h (by omega) p), e1]
    rcases e2 with ⟨e2, p2⟩ | ⟨y, h2, e2, e3, hl, p2⟩
    · simp only [e2]
      exact compL_go P rest (i + 1) acc h1 e' p2 hs st'
    · simp only [e2, e3, if_pos hl]
      exact compL_go P rest (i + 1) (acc ++ [y]) h2 e' p2 hs st'
theorem compL_run {src : Option Nat} {ws0 : List W} {t : W → WS → Option WS} {cond : EB} {elt : EV} {sw : WS} {items : List W} {h : WH} (P : Nat → List W → WH → Prop) (p0 : P 0 [] h) (hs : ∀ i acc h, i ≤ items.length → P i acc h → srcOk src ws0 h = true)
    (st : ∀ i w acc h, items[i]? = some w → P i acc h → ∃ sw1 h1, t w sw = some sw1 ∧ ((cond sw1 h = .ok false h1 ∧ P (i + 1) acc h1) ∨ ∃ y h2, cond sw1 h = .ok true h1 ∧ elt sw1 h1 = .ok y h2 ∧ acc.length < lim ∧ P (i + 1) (acc ++ [y]) h2)) :
    ∃ acc' h', compL src ws0 t cond elt sw items [] h = .ok acc' h' ∧ P items.length acc' h' :=
  compL_go P items 0 [] h (by simp) p0 hs fun j w s g e p => by
    rw [Nat.zero_add] at p ⊢
    exact st j w s g e p
end
end KW

set_option Elab.async false
set_option linter.all false
set_option maxRecDepth 100000
set_option maxHeartbeats 4000000
/-! a def, run: what it leaves -/
namespace KW
open PySem L2
def fin (h : WH) (x : RS) : R W := match x with
  | .ok (.ret w) h' => .ok w (gc h.length w h h')
  | .ok (.next _) h' => .ok .non (gc h.length .non h h')
  | .exc _ c fs vs h' => .exc c fs vs h'
  | _ => .no
theorem run_fin {sl np : Nat} {D : EW} {args : List W} {h : WH} (e : args.length = np) : runF sl np D args h = fin h (D (args.map some ++ List.replicate (sl - np) none) h) := by
  rw [runF, if_pos e]
  unfold fin
  cases D (args.map some ++ List.replicate (sl - np) none) h with
  | ok f h' => cases f <;> rfl
  | exc => rfl
  | no => rfl
@[simp] theorem fin_ret {h h' : WH} {w : W} : fin h (.ok (.ret w) h') = .ok w (gc h.length w h h') := rfl
@[simp] theorem fin_next {h h' : WH} {s : WS} : fin h (.ok (.next s) h') = .ok .non (gc h.length .non h h') := rfl
end KW

set_option Elab.async false
set_option linter.all false
set_option maxRecDepth 100000
set_option maxHeartbeats 4000000
/-! raise, try .. except -/
namespace KW
open PySem L2
section
variable {A : Ax} {X : Cx} {N : List Str} {sc : Scope} {Φ : Fns} {n : Nat} {e : Expr} {ea : EV} {p pos apos pos2 : Pos}
def sRaise (c f : Nat) (a : EV) : EW := fun sw h => (a sw h).st sw fun w h1 => .exc sw c [f] [w] h1
@[simp] theorem x_raise {c f : Nat} {a : EV} {sw : WS} {h : WH} : sRaise c f a sw h = (a sw h).st sw fun w h1 => .exc sw c [f] [w] h1 := rfl
/-! ### try .. except C: -/
def sTryO (cat : Nat → Option Bool) (b s : EW) : EW := fun sw h => match b sw h with
  | .exc sw' c _ _ h' => (match cat c with
    | some true => (match s sw' h' with | .exc .. => .no | r => r)
    | some false => .no
    | none => .no)
  | r => r
@[simp] theorem x_try {cat : Nat → Option Bool} {b s : EW} {sw : WS} {h : WH} : sTryO cat b s sw h = match b sw h with
  | .exc sw' c _ _ h' => (match cat c with
    | some true => (match s sw' h' with | .exc .. => .no | r => r)
    | some false => .no
    | none => .no)
  | r => r := rfl
theorem DenS.wx {G : Gx} {wx wy : WX} {k : Ka} {H : Hp} {D : Ends} : ∀ {r : RS}, (∀ sw c fs vs h, r ≠ .exc sw c fs vs h) → DenS G wx k H r D → DenS G wy k H r D
  | .ok (.next _) _, _, d => d
  | .ok (.ret _) _, _, d => d
  | .ok (.brk _) _, _, d => d
  | .ok (.cont _) _, _, d => d
  | .exc sw c fs vs h, n, _ => absurd rfl (n sw c fs vs h)
  | .no, _, d => d
theorem StOk.tr (x : StOk A N sc X) {pn : List (Addr × Obj)} {xe : Value → Shared → Prop} : StOk A N sc (X.tr pn xe) := { hK := x.hK, hP := x.hP, hw := x.hw, hN := x.hN, nd := x.nd, hsc := x.hsc, calm := x.calm, gd := x.gd, glob := x.glob, un := x.un, fn := x.fn, stack := x.stack, frame := x.frame }
theorem COk.tr (C : COk A Φ n X) {pn : List (Addr × Obj)} {xe : Value → Shared → Prop} : COk A Φ n (X.tr pn xe) := { room := C.room, lv := C.lv, ex := C.ex, ex0 := C.ex0, sub := C.sub, fn := C.fn, mt := C.mt, ini := C.ini, kf := C.kf, mko := C.mko, kc := C.kc }
end
end KW

set_option Elab.async false
set_option linter.all false
set_option maxRecDepth 100000
set_option maxHeartbeats 4000000
/-! dicts made: {}, displays, comprehensions; a, *b = .. -/
namespace KW
open PySem L2
/-- a new dict: frozen, or a logical object -/
def newD (m : Bool) (r : List W × List W) (h : WH) : R W := if m then .ok (.ref h.length) (h ++ [.dct r.1 r.2]) else .ok (.dct r.1 r.2) h
@[simp] theorem x_newD0 {r : List W × List W} {h : WH} : newD false r h = .ok (.dct r.1 r.2) h := rfl
@[simp] theorem x_newD1 {r : List W × List W} {h : WH} : newD true r h = .ok (.ref h.length) (h ++ [.dct r.1 r.2]) := rfl
/-- {} with keys that will be nested tuples -/
def dTd : EV := fun _ h => .ok (.ref h.length) (h ++ [.td [] []])
@[simp] theorem x_td {sw : WS} {h : WH} : dTd sw h = .ok (.ref h.length) (h ++ [.td [] []]) := rfl
def ePairs : List (EV × EV) → WS → WH → R (List (W × W))
  | [], _, h => .ok [] h
  | (a, b) :: r, sw, h => (a sw h).bind fun x h1 => (b sw h1).bind fun y h2 => (ePairs r sw h2).bind fun ps h3 => .ok ((x, y) :: ps) h3
def foldD : List (W × W) → List W × List W → Option (List W × List W)
  | [], acc => some acc
  | (x, y) :: r, acc => match keyOfW x with | some k => foldD r (putD (keyW k) y acc.1 acc.2) | none => none
def dDisp (m : Bool) (ps : List (EV × EV)) : EV := fun sw h => (ePairs ps sw h).bind fun xs h1 => if xs.length ≤ 15 then (match foldD xs ([], []) with | some r => newD m r h1 | none => .no) else .no
@[simp] theorem x_disp {m : Bool} {ps : List (EV × EV)} {sw : WS} {h : WH} : dDisp m ps sw h = (ePairs ps sw h).bind fun xs h1 => if xs.length ≤ 15 then (match foldD xs ([], []) with | some r => newD m r h1 | none => .no) else .no := rfl
@[simp] theorem x_ePn {sw : WS} {h : WH} : ePairs [] sw h = .ok [] h := rfl
@[simp] theorem x_ePc {a b : EV} {r : List (EV × EV)} {sw : WS} {h : WH} : ePairs ((a, b) :: r) sw h = (a sw h).bind fun x h1 => (b sw h1).bind fun y h2 => (ePairs r sw h2).bind fun ps h3 => .ok ((x, y) :: ps) h3 := rfl
section
variable {A : Ax} {X : Cx} {N : List Str} {sc : Scope} {pos : Pos}
/-- what a dict that was made is, told -/
theorem newD_ok {G : Gx} {wx : WX} {m : Bool} {k k1 : Ka} {H1 H2 : Hp} {σ : St} {h : WH} {D : Addr} {kvs : List (Key × V)} {ks ws : List W} {Q : VK} (n : Nxt k1 H1 k H2) (x : HRep G k H2 h) (h0 : H1 D = none) (hF : k.F D = none) (hm : D ∉ k.mu) (eD : H2 D = some (.dK kvs))
    (nd : (kvs.map (·.1)).Nodup) (ek : ks = kvs.map fun x => keyW x.1) (r : RepL G k ws (kvs.map (·.2))) (d : Den G (Rep G) wx k1 H1 σ (newD m (ks, ws) h) Q) : Q (.ref D) H2 := by
  unfold newD at d
  split at d
  · refine d (.ref D) (k.more D) H2 (n.adoptM h0) (x.adoptM hF hm ⟨kvs, eD, nd, ek, r.mono le_more⟩ (by rw [eD]; trivial) (by rw [eD]; simp)) ?_
    simp only [Rep]
    refine ⟨D, rfl, ?_⟩
    show (k.mu ++ [D])[h.length]? = some D
    rw [← x.len]; simp
  · refine d (.ref D) (k.froz D (.dK kvs)) H2 (n.adoptF h0 hF) (x.adoptF hF hm eD) ?_
    simp only [Rep]
    exact ⟨D, kvs, rfl, upd_same, ek, r.mono (le_froz hF)⟩
theorem keepO {k k' : Ka} {H H' : Hp} {D : Addr} {o : HO} (nn : Nxt k H k' H') (fa : k.F D = none) (ma : D ∉ k.mu) (ea : H D = some o) : k'.F D = none ∧ D ∉ k'.mu ∧ H' D = some o := by
  have hne : H D ≠ none := by rw [ea]; simp
  refine ⟨?_, fun z => (nn.new D z).elim ma hne, (nn.oth D hne ma).trans ea⟩
  cases q : k'.F D with
  | none => rfl
  | some u =>
    rcases nn.fro D u q with z | z | z
    · rw [fa] at z; cases z
    · exact absurd z hne
    · exact absurd z ma
/-- {} -/
def dDict0 (m : Bool) : EV := fun _ h => newD m ([], []) h
@[simp] theorem x_dict0 {m : Bool} {sw : WS} {h : WH} : dDict0 m sw h = newD m ([], []) h := rfl
theorem we_dict0 {m : Bool} : WE A X (.Dict [] [] pos) (dDict0 m) := fun wx tk =>
  PE_imp pe_dnewK fun σ H Q ⟨k, sw, h, hs, hh, d⟩ => by
    intro p hp
    exact newD_ok (k := k) (k1 := k) (H1 := H) (kvs := []) (Nxt.other hp) (hh.other hp) hp (hh.noF hp) (hh.noMu hp) upd_same List.nodup_nil rfl (by simp only [List.map_nil, RepL]) d
/-! displays -/
def PsW (A : Ax) (X : Cx) : List Expr → List Expr → List (EV × EV) → Prop
  | [], [], [] => True
  | k :: ks, v :: vs, (a, b) :: r => WE A X k a ∧ WE A X v b ∧ PsW A X ks vs r
  | _, _, _ => False
def psT (G : Gx) (wx : WX) (ps : List (EV × EV)) : List (TE × TE) := ps.map fun p => (TEx G wx p.1, TEx G wx p.2)
theorem pps_of {wx : WX} (tk : Takes X wx) : ∀ {ks vs : List Expr} {ps : List (EV × EV)}, PsW A X ks vs ps → PPs X pos (ks.map some) vs (psT A.toGx wx ps)
  | [], [], [], _ => pps_nil
  | [], [], _ :: _, h => h.elim
  | [], _ :: _, _, h => h.elim
  | _ :: _, [], _, h => h.elim
  | _ :: _, _ :: _, [], h => h.elim
  | k :: ks, v :: vs, (a, b) :: r, ⟨h1, h2, h3⟩ => pps_cons (h1 wx tk) (h2 wx tk) (pps_of tk h3)
theorem psw_len : ∀ {ks vs : List Expr} {ps : List (EV × EV)}, PsW A X ks vs ps → ks.length = vs.length
  | [], [], [], _ => rfl
  | [], [], _ :: _, h => h.elim
  | [], _ :: _, _, h => h.elim
  | _ :: _, [], _, h => h.elim
  | _ :: _, _ :: _, [], h => h.elim
  | k :: ks, v :: vs, (a, b) :: r, ⟨_, _, h⟩ => by simp [psw_len h]
/-- pairs of values, told -/
def RepP (G : Gx) (k : Ka) (xs : List (W × W)) (ps : List (V × V)) : Prop := RepL G k (xs.map (·.1)) (ps.map (·.1)) ∧ RepL G k (xs.map (·.2)) (ps.map (·.2))
theorem tPairs_of {G : Gx} {wx : WX} {σ : St} {Q : List (V × V) → Hp → Prop} : ∀ {ps : List (EV × EV)} {k : Ka} {sw : WS} {h : WH} {H : Hp}, SRep G k sw σ → HRep G k H h → Den G (RepP G) wx k H σ (ePairs ps sw h) (fun v H' => Q v H') → tPairs (psT G wx ps) σ H Q
  | [], k, sw, h, H, hs, hh, d => d [] k H (.refl _ _) hh ⟨by simp only [List.map_nil, RepL], by simp only [List.map_nil, RepL]⟩
  | (a, b) :: r, k, sw, h, H, hs, hh, d => by
    have d : Den G (RepP G) wx k H σ ((a sw h).bind fun x h1 => (b sw h1).bind fun y h2 => (ePairs r sw h2).bind fun ps h3 => .ok ((x, y) :: ps) h3) (fun v H' => Q v H') := d
    refine ⟨k, sw, h, hs, hh, Den.imp (Den.bind (rp := Rep G) d) fun x H1 ⟨k1, wx1, h1, n1, x1, r1, d1⟩ => ?_⟩
    refine ⟨k1, sw, h1, hs.mono n1.le, x1, Den.imp (Den.bind (rp := Rep G) d1) fun y H2 ⟨k2, wy, h2, n2, x2, r2, d2⟩ => ?_⟩
    refine tPairs_of ((hs.mono n1.le).mono n2.le) x2 (Den.imp (Den.bind (rp := RepP G) d2) fun ps H3 ⟨k3, xs, h3, n3, x3, r3, d3⟩ => ?_)
    refine d3 ((x, y) :: ps) k3 H3 (.refl _ _) x3 ⟨?_, ?_⟩
    · simp only [List.map_cons, RepL]; exact ⟨x, _, rfl, (r1.mono n2.le).mono n3.le, r3.1⟩
    · simp only [List.map_cons, RepL]; exact ⟨y, _, rfl, r2.mono n3.le, r3.2⟩
theorem foldD_ok {G : Gx} {k : Ka} : ∀ {xs : List (W × W)} {ps : List (V × V)} {acc : List (Key × V)} {ks ws : List W} {r : List W × List W}, RepP G k xs ps → (acc.map (·.1)).Nodup → ks = acc.map (fun x => keyW x.1) → RepL G k ws (acc.map (·.2)) → foldD xs (ks, ws) = some r →
    ∃ kvs : List (Key × V), ps = kvs.map (fun kv => (kV kv.1, kv.2)) ∧ ((mergeK acc kvs).map (·.1)).Nodup ∧ r.1 = (mergeK acc kvs).map (fun x => keyW x.1) ∧ RepL G k r.2 ((mergeK acc kvs).map (·.2))
  | [], ps, acc, ks, ws, r, hr, nd, e1, rw', e => by
    have := hr.1.length
    simp at this
    subst this
    simp only [foldD, Option.some.injEq] at e
    subst e
    exact ⟨[], rfl, nd, e1, rw'⟩
  | (x, y) :: xs, ps, acc, ks, ws, r, hr, nd, e1, rw', e => by
    cases ps with
    | nil => have := hr.1.length; simp at this
    | cons p ps =>
      obtain ⟨u, v⟩ := p
      obtain ⟨h1, h2⟩ := hr
      simp only [List.map_cons, RepL] at h1 h2
      obtain ⟨u', t1, q1, ru, h1⟩ := h1
      obtain ⟨v', t2, q2, rv, h2⟩ := h2
      cases q1; cases q2
      unfold foldD at e
      split at e
      · rename_i key ek
        obtain ⟨rfl, _⟩ := keyOf_rep ru ek
        subst e1
        obtain ⟨i1, i2⟩ := putD_rep (y := key) rv nd rw'
        obtain ⟨kvs, f1, f2, f3, f4⟩ := foldD_ok (acc := putK acc key v) ⟨h1, h2⟩ (putK_keys nd) i1 i2 e
        exact ⟨(key, v) :: kvs, by rw [f1]; rfl, f2, f3, f4⟩
      · cases e
theorem we_disp {m : Bool} {ks vs : List Expr} {ps : List (EV × EV)} (hp : PsW A X ks vs ps) (h0 : (ks.map some) ≠ []) (h15 : ks.length ≤ 15) : WE A X (.Dict (ks.map some) vs pos) (dDisp m ps) := fun wx tk =>
  PE_imp (pe_disp (pps_of (A := A) tk hp) (by simp) (by rw [List.length_map]; exact psw_len hp) h0 (by rw [List.length_map]; exact h15)) fun σ H Q ⟨k, sw, h, hs, hh, d⟩ => by
    intro p hn
    have d : Den A.toGx (Rep A.toGx) wx k H σ ((ePairs ps sw h).bind fun xs h1 => if xs.length ≤ 15 then (match foldD xs ([], []) with | some r => newD m r h1 | none => .no) else .no) Q := d
    have n0 : Nxt k H k (upd H p (.dK [])) := Nxt.other hn
    cases ev : ePairs ps sw h with
    | no => rw [ev] at d; exact d.elim
    | exc c fs us h' =>
      rw [ev] at d
      exact tPairs_of hs (hh.other hn) (by rw [ev]; exact fun C dx k' H' n' x' xr fr => d C dx k' H' (n0.trans n') x' xr (fr.back n0))
    | ok xs h2 =>
      rw [ev] at d
      dsimp only [R.bind] at d
      refine tPairs_of hs (hh.other hn) ?_
      rw [ev]
      intro pv k2 H2 n2 x2 rp
      obtain ⟨f2, m2, e2⟩ := keepO n2 (hh.noF hn) (hh.noMu hn) upd_same
      refine ⟨e2, ?_⟩
      split at d
      · rename_i hl
        split at d
        · rename_i r er
          obtain ⟨kvs, g1, g2, g3, g4⟩ := foldD_ok (acc := []) rp List.nodup_nil rfl (by simp only [List.map_nil, RepL]) er
          have hlen : kvs.length ≤ 15 := by
            have := rp.1.length
            rw [g1] at this
            simp at this
            omega
          exact ⟨kvs, g1, hlen, newD_ok (k := k2) (k1 := k) (H1 := H) (kvs := mergeK [] kvs) ((n0.trans n2).off hn) (x2.off f2 m2) hn f2 m2 upd_same g2 g3 g4 d⟩
        · exact d.elim
      · exact d.elim
end
end KW

set_option Elab.async false
set_option linter.all false
set_option maxRecDepth 100000
set_option maxHeartbeats 4000000
namespace KW
open PySem L2
section
variable {A : Ax} {X : Cx} {N : List Str} {sc : Scope} {pos p : Pos} {a : Expr} {ea : EV}
/-! a, *b = x -/
def sStar (i j : Nat) (a : EV) : EW := fun sw h => (a sw h).st sw fun w h1 => match w with | .tup (x :: rest) => .ok (.next ((sw.set i (some x)).set j (some (.lst rest)))) h1 | _ => .no
@[simp] theorem x_star {i j : Nat} {a : EV} {sw : WS} {h : WH} : sStar i j a sw h = (a sw h).st sw fun w h1 => match w with | .tup (x :: rest) => .ok (.next ((sw.set i (some x)).set j (some (.lst rest)))) h1 | _ => .no := rfl
/-! {k: v for t in it} -/
def compD (src : Option Nat) (ws0 : List W) (t : W → WS → Option WS) (cond : EB) (kx vx : EV) (sw : WS) : List W → List W × List W → WH → R (List W × List W)
  | [], acc, h => if srcOk src ws0 h then .ok acc h else .no
  | w :: rest, acc, h => if srcOk src ws0 h then (match t w sw with
      | none => .no
      | some sw1 => match cond sw1 h with
        | .ok true h1 => (match kx sw1 h1 with
          | .ok y h2 => (match vx sw1 h2 with
            | .ok z h3 => (match keyOfW y with | some k => if acc.1.length < lim then compD src ws0 t cond kx vx sw rest (putD (keyW k) z acc.1 acc.2) h3 else .no | none => .no)
            | _ => .no)
          | _ => .no)
        | .ok false h1 => compD src ws0 t cond kx vx sw rest acc h1
        | _ => .no) else .no
def dDComp (m : Bool) (it : EI) (t : Tg) (cond : EB) (kx vx : EV) (own : List Nat) : EV := fun sw h => (it sw h).bind fun x h1 => (compD x.2 x.1 (tgW t) cond kx vx (wipeW sw own) x.1 ([], []) h1).bind fun r h2 => newD m r h2
@[simp] theorem x_dcomp {m : Bool} {it : EI} {t : Tg} {cond : EB} {kx vx : EV} {own : List Nat} {sw : WS} {h : WH} : dDComp m it t cond kx vx own sw h = (it sw h).bind fun x h1 => (compD x.2 x.1 (tgW t) cond kx vx (wipeW sw own) x.1 ([], []) h1).bind fun r h2 => newD m r h2 := rfl
variable {kxe vxe tg iter : Expr} {ifs : List Expr} {scope : Scope} {own : List (Str × Nat)} {it : EI} {t : Tg} {cond : EB} {kx vx : EV}
end
end KW

set_option Elab.async false
set_option linter.all false
set_option maxRecDepth 100000
set_option maxHeartbeats 4000000
namespace KW
open PySem L2
/-! isinstance of own classes -/
abbrev Ty := Sum String Nat
def tyX (h : WH) : W → Option Ty
  | .ins c _ _ => some (.inr c)
  | .dct _ _ => some (.inl "dict")
  | .ref r => match h[r]? with
    | some (.lst _) => some (.inl "list")
    | some (.dct _ _) => some (.inl "dict")
    | some (.ins c _ _) => some (.inr c)
    | _ => none
  | w => (tyW h w).map .inl
/-- what isinstance asks of an own class -/
structure InsC1 (K : PySem.W.Frag) (C : Addr) : Prop where
  cl : Cls K C
  ha : PySem.W.findIn K (.ref C) "__class__" = some (some (.builtin "object.__class__"))
  hn : PySem.W.specialIn K (.builtin "object.__class__") "__get__" = some (some (.builtin "getset_descriptor.__get__"))
  htk : PySem.W.takesIn K (.builtin "object.__class__") = some true
  hm : PySem.W.mroIn K C (.type "object") = some true
/-- the table of isinstance's answers: own classes -/
def IsaOk (A : Ax) (isa : Ty → Nat → Option Bool) : Prop := ∀ t d b, isa t d = some b → ∃ D, A.cl d = some D ∧ match t with
  | .inl s => PySem.W.kitOne A.K (.type s) (.ref D) = some b
  | .inr c => ∃ C, A.cl c = some C ∧ InsC1 A.K C ∧ PySem.W.kitOne A.K (.ref C) (.ref D) = some b
def dIsC (isa : Ty → Nat → Option Bool) (d : Nat) (a : EV) : EV := fun sw h => (a sw h).bind fun w h1 => match (tyX h1 w).bind fun t => isa t d with | some b => .ok (.bl b) h1 | none => .no
@[simp] theorem x_isC {isa : Ty → Nat → Option Bool} {d : Nat} {a : EV} {sw : WS} {h : WH} : dIsC isa d a sw h = (a sw h).bind fun w h1 => match (tyX h1 w).bind fun t => isa t d with | some b => .ok (.bl b) h1 | none => .no := rfl
section
variable {A : Ax} {X : Cx} {N : List Str} {sc : Scope} {pos p p2 : Pos} {a : Expr} {ea : EV}
/-! isinstance of a built-in class, of wider values -/
end
end KW

set_option Elab.async false
set_option linter.all false
set_option maxRecDepth 100000
set_option maxHeartbeats 4000000
namespace KW
open PySem L2 RZ KW.Z
/-! zip -/
def zipW (as bs : List W) : List W := (as.zip bs).map fun p => .tup [p.1, p.2]
theorem zipW_get {as bs : List W} {i : Nat} {w : W} (h : (zipW as bs)[i]? = some w) : ∃ x y, as[i]? = some x ∧ bs[i]? = some y ∧ w = .tup [x, y] := by
  simp only [zipW, List.getElem?_map, Option.map_eq_some_iff] at h
  obtain ⟨⟨x, y⟩, e, rfl⟩ := h
  rw [List.getElem?_zip_eq_some] at e
  exact ⟨x, y, e.1, e.2, rfl⟩
theorem zipW_len {as bs : List W} : (zipW as bs).length = min as.length bs.length := by simp [zipW]
theorem pair2_new {G : Gx} {k : Ka} {H : Hp} {h : WH} {T : Addr} {a b : W} {u v : V} {o : Obj} (ho : o.dict = none) (x : HRep G k H h) (hT : H T = none) (ra : Rep G k a u) (rb : Rep G k b v) :
    ∃ k', Nxt k H k' (upd H T (.frz o (.tup [u, v]))) ∧ HRep G k' (upd H T (.frz o (.tup [u, v]))) h ∧ Rep G k' (.tup [a, b]) (.ref T) := by
  refine ⟨k.froz T (.frz o (.tup [u, v])), Nxt.froz x hT, x.froz hT, ?_⟩
  simp only [Rep]
  refine ⟨T, _, rfl, .inl ⟨o, upd_same, ho⟩, ?_⟩
  simp only [RepL]
  have l := (Nxt.froz x hT (o := .frz o (.tup [u, v]))).le
  exact ⟨_, _, rfl, ra.mono l, _, _, rfl, rb.mono l, rfl⟩
/-- frozen: a list or a tuple -/
def FzK (t : Bool) (K : PySem.W.Frag) (k : Ka) (p : Addr) (us : List V) : Prop := match t with | false => k.F p = some (.lst us) | true => SqT K k.F p us
theorem FzK.sq {t : Bool} {G : Gx} {k k2 : Ka} {H2 : Hp} {h2 : WH} {p : Addr} {us : List V} (q : FzK t G.K k p us) (l : k.Le k2) (x : HRep G k2 H2 h2) : SqK t G.K H2 p us := by
  cases t
  · exact SqL.of (x.sub _ _ (l.F _ _ q))
  · exact Ka.Le.seqT x.sub (Ka.Le.seqT l.F q)
theorem walks_zip {t u : Bool} {G : Gx} {k : Ka} {H : Hp} {p q : Addr} {as bs : List W} {us vs : List V} (hp : FzK t G.K k p us) (hq : FzK u G.K k q vs) (ra : RepL G k as us) (rb : RepL G k bs vs) : Walks G (ItZ G.K t u p q) k H (zipW as bs) none where
  go := fun i k2 H2 h2 n2 x2 _ hi => by
    rw [zipW_len] at hi
    exact ⟨us, vs, us[i]'(by rw [ra.length]; omega), vs[i]'(by rw [rb.length]; omega), hp.sq n2.le x2, hq.sq n2.le x2, by simp, by simp⟩
  stop := fun k2 H2 h2 n2 x2 _ => ⟨us, vs, hp.sq n2.le x2, hq.sq n2.le x2, by rw [ra.length, zipW_len]; omega, by rw [rb.length, zipW_len]; omega, by rw [ra.length, rb.length, zipW_len]; omega⟩
  yld := fun i k2 H2 h2 y H3 w n2 x2 _ e yy => by
    obtain ⟨T, u, v, o, rfl, hT, ho, rfl, y1, y2⟩ := yy
    obtain ⟨a, b, e1, e2, rfl⟩ := zipW_get e
    obtain ⟨u2, e3, r3⟩ := (ra.mono n2.le).get e1
    obtain ⟨v2, e4, r4⟩ := (rb.mono n2.le).get e2
    have e5 := y1 us (hp.sq n2.le x2)
    have e6 := y2 vs (hq.sq n2.le x2)
    rw [e3] at e5; cases e5
    rw [e4] at e6; cases e6
    exact pair2_new ho x2 hT r3 r4
def iZip (a : EA) : EI := fun sw h => (a sw h).bind fun ws h1 => match ws with
  | [.tup as, .tup bs] => .ok (zipW as bs, none) h1
  | [.lst as, .lst bs] => .ok (zipW as bs, none) h1
  | [.tup as, .lst bs] => .ok (zipW as bs, none) h1
  | [.lst as, .tup bs] => .ok (zipW as bs, none) h1
  | _ => .no
@[simp] theorem x_zip {a : EA} {sw : WS} {h : WH} : iZip a sw h = (a sw h).bind fun ws h1 => match ws with
  | [.tup as, .tup bs] => .ok (zipW as bs, none) h1
  | [.lst as, .lst bs] => .ok (zipW as bs, none) h1
  | [.tup as, .lst bs] => .ok (zipW as bs, none) h1
  | [.lst as, .tup bs] => .ok (zipW as bs, none) h1
  | _ => .no := rfl
section
variable {A : Ax} {X : Cx} {N : List Str} {sc : Scope} {a b c : Expr} {aa : EA} {p pos tpos : Pos} {elts : List Expr} {kk : Nat}
theorem i_zip (x : XOk A N sc X) (hg : A.gt.lookup ("zip" : Str) = some .blt) (h : gloB sc ("zip" : Str) = true) (ha : WA A X [a, b] aa) (h3 : [a, b].all nonStar = true) : WI A X (.Tuple elts kk tpos) (.Call (.Name "zip" p) [a, b] [] pos) (iZip aa) := fun wx tk => by
  simp only [List.all_cons, List.all_nil, Bool.and_eq_true] at h3
  refine PI_imp (pi_zipN (gl_of x (gloB_ok h).1) (x.glob.blt _ hg) (ha wx tk) (star_ok h3.1) (stars_any (es := [b]) (by simp [h3.2.1]))) fun σ H Q t => ?_
  obtain ⟨k, sw, h, hs, hh, d⟩ := TIx.args t
  refine ⟨k, sw, h, hs, hh, d.imp fun vs H1 ⟨k1, ws, h1, x1, r1, d1⟩ => ?_⟩
  rw [x.hK]
  have go : ∀ {t u : Bool} {p1 p2 : Addr} {us vs : List V} {as bs : List W}, FzK t A.K k1 p1 us → FzK u A.K k1 p2 vs → RepL A.toGx k1 as us → RepL A.toGx k1 bs vs → DenI A.toGx wx k1 H1 σ (.ok (zipW as bs, none) h1) Q → ∃ (a b : Addr) (t u : Bool) (xs ys : List V), [V.ref p1, .ref p2] = [V.ref a, .ref b] ∧ SqK t A.K H1 a xs ∧ SqK u A.K H1 b ys ∧ Q (ItZ A.K t u a b) H1 :=
    fun q1 q2 ra rb d1 => ⟨_, _, _, _, _, _, rfl, q1.sq (.refl _) x1, q2.sq (.refl _) x1, d1 _ k1 H1 (.refl _ _) x1 (walks_zip q1 q2 ra rb)⟩
  split at d1
  · obtain ⟨u, v, rfl, ru, rv⟩ := rep2 r1
    simp only [Rep] at ru rv
    obtain ⟨p1, us, rfl, q1, ra⟩ := ru
    obtain ⟨p2, vs, rfl, q2, rb⟩ := rv
    exact go (t := true) (u := true) q1.sq q2.sq ra rb d1
  · obtain ⟨u, v, rfl, ru, rv⟩ := rep2 r1
    simp only [Rep] at ru rv
    obtain ⟨p1, us, rfl, q1, ra⟩ := ru
    obtain ⟨p2, vs, rfl, q2, rb⟩ := rv
    exact go (t := false) (u := false) q1 q2 ra rb d1
  · obtain ⟨u, v, rfl, ru, rv⟩ := rep2 r1
    simp only [Rep] at ru rv
    obtain ⟨p1, us, rfl, q1, ra⟩ := ru
    obtain ⟨p2, vs, rfl, q2, rb⟩ := rv
    exact go (t := true) (u := false) q1.sq q2 ra rb d1
  · obtain ⟨u, v, rfl, ru, rv⟩ := rep2 r1
    simp only [Rep] at ru rv
    obtain ⟨p1, us, rfl, q1, ra⟩ := ru
    obtain ⟨p2, vs, rfl, q2, rb⟩ := rv
    exact go (t := false) (u := true) q1 q2.sq ra rb d1
  · exact d1.elim
/-! a, b, c = x, y, z -/
def sPar3 (i j l : Nat) (a : EA) : EW := fun sw h => (a sw h).st sw fun ws h1 => match ws with | [w, u, v] => .ok (.next (((sw.set i (some w)).set j (some u)).set l (some v))) h1 | _ => .no
@[simp] theorem x_par3 {i j l : Nat} {a : EA} {sw : WS} {h : WH} : sPar3 i j l a sw h = (a sw h).st sw fun ws h1 => match ws with | [w, u, v] => .ok (.next (((sw.set i (some w)).set j (some u)).set l (some v))) h1 | _ => .no := rfl
end
/-! tuples that are constants of the module -/
end KW

set_option Elab.async false
set_option linter.all false
set_option maxRecDepth 100000
set_option maxHeartbeats 4000000
/-! repr -/
namespace KW
open PySem L2
section
variable {A : Ax} {X : Cx} {N : List Str} {sc : Scope} {e : Expr} {es : List Expr} {aa : EA} {p pos : Pos}
mutual
theorem dp_noD {K : PySem.W.Frag} {H : Hp} : ∀ (d : PyData) (v : V), Dp K H v d → d.hasDict = false
  | .none, _, _ => by simp only [PyData.hasDict]
  | .bool _, _, _ => by simp only [PyData.hasDict]
  | .int _, _, _ => by simp only [PyData.hasDict]
  | .str _, _, _ => by simp only [PyData.hasDict]
  | .list ds, _, h => by
    cases h with
    | lst _ ha => simp only [PyData.hasDict]; exact dps_noD ds _ ha
  | .tuple ds, _, h => by
    cases h with
    | tup _ ha => simp only [PyData.hasDict]; exact dps_noD ds _ ha
  | .dict _, _, h => by cases h
theorem dps_noD {K : PySem.W.Frag} {H : Hp} : ∀ (ds : List PyData) (vs : List V), DpAll K H vs ds → PyData.hasDictAll ds = false
  | [], _, _ => by simp only [PyData.hasDictAll]
  | d :: ds, _, h => by
    cases h with
    | cons h1 h2 => simp only [PyData.hasDictAll, dp_noD d _ h1, dps_noD ds _ h2, Bool.or_self]
end
/-- can it be shown? -/
def showB (d : PyData) : Bool := d.showable && decide (d.depth ≤ 60) && decide (d.shown.length ≤ lim)
end
end KW

set_option Elab.async false
set_option linter.all false
set_option maxRecDepth 100000
set_option maxHeartbeats 4000000
/-! len(set(a list of texts)) -/
namespace KW
open PySem L2 PySem.Spec PyProof.Rows
section
variable {prog : Program} {w : World} {A : Around} {E : Value → Shared → Prop} {s : Shared}
end
section
variable {A : Ax} {X : Cx} {N : List Str} {sc : Scope} {a : Expr} {ea : EV} {p p2 q pos : Pos}
end
end KW

set_option Elab.async false
set_option linter.all false
set_option maxRecDepth 100000
set_option maxHeartbeats 4000000
/-! a, b, .. = a list -/
namespace KW
open PySem L2
/-- by the scope alone -/
theorem swapsW_env {v : Expr} {t : Option Expr} {l : Nat} {env env' : Env} (h : env.scope = env'.scope) : swapsWith v t l env = swapsWith v t l env' := by
  have k : env.kindOf = env'.kindOf := by
    funext y
    unfold Env.kindOf
    rw [h]
  have b : env.blockKind = env'.blockKind := by
    unfold Env.blockKind
    rw [h]
  unfold swapsWith
  rw [k, b, h]
section
variable {A : Ax} {X : Cx} {N : List Str} {sc : Scope} {a : Expr} {ea : EV} {p pos : Pos} {es : List Expr}
def sTgL (ts : List Tg) (a : EV) : EW := fun sw h => (a sw h).st sw fun w h1 => match lstOf h1 w with
  | some ws => (match tgWs ts ws sw with | some sw' => .ok (.next sw') h1 | none => .no)
  | none => .no
@[simp] theorem x_tgL {ts : List Tg} {a : EV} {sw : WS} {h : WH} : sTgL ts a sw h = (a sw h).st sw fun w h1 => match lstOf h1 w with
  | some ws => (match tgWs ts ws sw with | some sw' => .ok (.next sw') h1 | none => .no)
  | none => .no := rfl
end
end KW

set_option Elab.async false
set_option linter.all false
set_option maxRecDepth 100000
set_option maxHeartbeats 4000000
/-! tuple * int: no times, once, more -/
namespace KW
open PySem PySem.Spec PyProof.Rows L2
end KW

set_option Elab.async false
set_option linter.all false
set_option maxRecDepth 100000
set_option maxHeartbeats 4000000
/-! sorted(a dict with texts for keys) -/
namespace KW
open PySem PySem.Spec PyProof.Rows L2
/-! texts by their signs -/
def leS (x y : Str) : Bool := !ltCps y.cps.toList x.cps.toList
def insS (x : Str) : List Str → List Str
  | [] => [x]
  | y :: r => if leS x y then x :: y :: r else y :: insS x r
def sortS : List Str → List Str
  | [] => []
  | x :: r => insS x (sortS r)
section
variable {A : Ax} {X : Cx} {N : List Str} {sc : Scope} {e : Expr} {es : List Expr} {aa : EA} {ea : EV} {p pos apos : Pos} {o : Expr}
/-- sorted(d), d a dict with texts for keys -/
def bSortD (m : Bool) (ws : List W) (h : WH) : R W := match ws with
  | [w] => (match dkOf h w with
    | some r => (match strsOf r.1 with | some ss => if ss.length < 64 then newL m ((sortS ss).map .str) h else .no | none => .no)
    | none => .no)
  | _ => .no
@[simp] theorem x_sortD {m : Bool} {ws : List W} {h : WH} : bSortD m ws h = match ws with
  | [w] => (match dkOf h w with
    | some r => (match strsOf r.1 with | some ss => if ss.length < 64 then newL m ((sortS ss).map .str) h else .no | none => .no)
    | none => .no)
  | _ => .no := rfl
end
end KW

set_option Elab.async false
set_option linter.all false
set_option maxRecDepth 100000
set_option maxHeartbeats 4000000
/-! calls by names; str(x); f-strings -/
namespace KW
open PySem PySem.Spec PyProof.Rows L2
section
variable {A : Ax} {X : Cx} {N : List Str} {sc : Scope} {Φ : Fns} {n : Nat} {e : Expr} {es : List Expr} {ea : EV} {aa ka : EA} {p pos kpos : Pos} {kws : List Keyword} {nm : Option Str}
/-! keywords -/
theorem PK_imp {X : Cx} {kws : List Keyword} {t t' : TA} (h : PK X kws t) (i : ∀ σ H Q, t' σ H Q → t σ H Q) : PK X kws t' := ⟨fun pos pins s σ H Q I q => h.run pos pins s σ H Q I (i σ H Q q)⟩
def WK (A : Ax) (X : Cx) (kws : List Keyword) (ev : EA) : Prop := ∀ wx, Takes X wx → PK X kws (TAx A.toGx wx ev)
theorem wk_nil : WK A X [] aNil := fun wx tk => PK_imp pk_nil fun σ H Q ⟨k, sw, h, hs, hh, d⟩ => d [] k H (.refl k H) hh (by simp only [RepL])
theorem wk_cons {a : EV} {r : EA} (h1 : WE A X e a) (h2 : WK A X kws r) : WK A X (⟨nm, e, kpos⟩ :: kws) (aCons a r) := fun wx tk =>
  PK_imp (pk_cons (h1 wx tk) (h2 wx tk)) fun σ H Q ⟨k, sw, h, hs, hh, d⟩ => by
    refine ⟨k, sw, h, hs, hh, Den.imp (Den.bind (rp := Rep A.toGx) d) fun v H1 ⟨k1, w, h1, n1, x1, r1, d1⟩ => ?_⟩
    refine ⟨k1, sw, h1, hs.mono n1.le, x1, Den.imp (Den.bind (rp := RepL A.toGx) d1) fun vs H2 ⟨k2, ws, h2, n2, x2, r2, d2⟩ => ?_⟩
    exact d2 (v :: vs) k2 H2 (.refl k2 H2) x2 (by simp only [RepL]; exact ⟨v, vs, rfl, r1.mono n2.le, r2⟩)
/-- in the parameters' order -/
def pick (pm : List Nat) (ws : List W) : List W := pm.map fun i => ws.getD i .non
theorem RepL.getD {G : Gx} {k : Ka} : ∀ {ws : List W} {vs : List V} (i : Nat), RepL G k ws vs → Rep G k (ws.getD i .non) (vs.getD i .non)
  | [], vs, i, h => by simp only [RepL] at h; subst h; simp [Rep]
  | w :: ws, vs, 0, h => by
    simp only [RepL] at h
    obtain ⟨v, r, rfl, h1, h2⟩ := h
    exact h1
  | w :: ws, vs, i + 1, h => by
    simp only [RepL] at h
    obtain ⟨v, r, rfl, h1, h2⟩ := h
    simpa using RepL.getD i h2
theorem RepL.pick {G : Gx} {k : Ka} {ws : List W} {vs : List V} (h : RepL G k ws vs) : ∀ pm : List Nat, RepL G k (KW.pick pm ws) (pm.map fun i => vs.getD i .non)
  | [] => by simp only [KW.pick, List.map_nil, RepL]
  | i :: pm => by
    simp only [KW.pick, List.map_cons, RepL]
    exact ⟨_, _, rfl, h.getD i, RepL.pick h pm⟩
def dCallK (φ : List W → WH → R W) (m q : Nat) (pm : List Nat) (a k : EA) : EV := fun sw h => (a sw h).bind fun ws h1 => (k sw h1).bind fun us h2 => if ws.length = m ∧ us.length = q then φ (pick pm (ws ++ us)) h2 else .no
@[simp] theorem x_callK {φ : List W → WH → R W} {m q : Nat} {pm : List Nat} {a k : EA} {sw : WS} {h : WH} : dCallK φ m q pm a k sw h = (a sw h).bind fun ws h1 => (k sw h1).bind fun us h2 => if ws.length = m ∧ us.length = q then φ (pick pm (ws ++ us)) h2 else .no := rfl
/-! str(x) -/
def bStr (ws : List W) (h : WH) : R W := match ws with
  | [.int i] => if i.natAbs.log2 < 1920 then .ok (.str (toString i)) h else .no
  | [.str s] => .ok (.str s) h
  | _ => .no
@[simp] theorem x_str {ws : List W} {h : WH} : bStr ws h = match ws with
  | [.int i] => if i.natAbs.log2 < 1920 then .ok (.str (toString i)) h else .no
  | [.str s] => .ok (.str s) h
  | _ => .no := rfl
/-! f-strings -/
def dFmt (a : EV) : EV := fun sw h => (a sw h).bind fun w h1 => match w with
  | .str y => if y.length ≤ lim then .ok (.str y) h1 else .no
  | .int i => if i.natAbs.log2 < 1920 then .ok (.str (toString i)) h1 else .no
  | _ => .no
@[simp] theorem x_fmt {a : EV} {sw : WS} {h : WH} : dFmt a sw h = (a sw h).bind fun w h1 => match w with
  | .str y => if y.length ≤ lim then .ok (.str y) h1 else .no
  | .int i => if i.natAbs.log2 < 1920 then .ok (.str (toString i)) h1 else .no
  | _ => .no := rfl
def fsL : List EV → Str → WS → WH → R W
  | [], acc, _, h => .ok (.str acc) h
  | a :: r, acc, sw, h => (a sw h).bind fun w h1 => match w with
    | .str y => if (acc ++ y).length ≤ lim then fsL r (acc ++ y) sw h1 else .no
    | _ => .no
def dFs (ps : List EV) : EV := fun sw h => fsL ps Str.empty sw h
@[simp] theorem x_fs {ps : List EV} {sw : WS} {h : WH} : dFs ps sw h = fsL ps Str.empty sw h := rfl
@[simp] theorem x_fsN {acc : Str} {sw : WS} {h : WH} : fsL [] acc sw h = .ok (.str acc) h := rfl
@[simp] theorem x_fsC {a : EV} {r : List EV} {acc : Str} {sw : WS} {h : WH} : fsL (a :: r) acc sw h = (a sw h).bind fun w h1 => match w with
    | .str y => if (acc ++ y).length ≤ lim then fsL r (acc ++ y) sw h1 else .no
    | _ => .no := rfl
end
end KW

set_option Elab.async false
set_option linter.all false
set_option maxRecDepth 100000
set_option maxHeartbeats 4000000
/-! == and != of instances whose class has its own __eq__ -/
namespace KW
open PySem PySem.Spec PyProof.Rows L2
section
variable {M : Model} {prog : Program} {w : World} {A : Around} {E : Value → Shared → Prop} {s : Shared} {K : PySem.W.Frag} {x C f L : Addr} {ox : Obj} {od : Option Obj} {b tb : Value} {h₀ : Heap} {m : Str → Option Value}
end
section
variable {A : Ax} {X : Cx} {N : List Str} {sc : Scope} {Φ : Fns} {n : Nat}
end
end KW

set_option Elab.async false
set_option linter.all false
set_option maxRecDepth 100000
set_option maxHeartbeats 4000000
/-! a short tuple, very many times -/
namespace KW
open PySem PySem.Spec PyProof.Rows L2
def fMulM (x y : W) (h : WH) : R W := match x, y with
  | .tup ws, .int j => if ws ≠ [] ∧ 2 ≤ j ∧ j ≤ 100000 ∧ ws.length ≤ 10 then .ok (.tup (List.replicate j.toNat ws).flatten) h else .no
  | _, _ => .no
@[simp] theorem x_mulM {ws : List W} {j : Int} {h : WH} : fMulM (.tup ws) (.int j) h = if ws ≠ [] ∧ 2 ≤ j ∧ j ≤ 100000 ∧ ws.length ≤ 10 then .ok (.tup (List.replicate j.toNat ws).flatten) h else .no := rfl
end KW

set_option Elab.async false
set_option linter.all false
set_option maxRecDepth 100000
set_option maxHeartbeats 4000000
/-! repr of data with dicts among them -/
namespace KW
open PySem L2
/-- none of these, if it's a dict, stands where the modules' dict does -/
def NoSy (h : Heap) (as : List Addr) : Prop := ∀ b, b ∈ as → ∀ o, h.get? b = some o → o.cls = .type "dict" → (b == sysModules) = false
theorem NoSy.left {h : Heap} {as bs : List Addr} (z : NoSy h (as ++ bs)) : NoSy h as := fun b m => z b (List.mem_append.mpr (.inl m))
theorem NoSy.right {h : Heap} {as bs : List Addr} (z : NoSy h (as ++ bs)) : NoSy h bs := fun b m => z b (List.mem_append.mpr (.inr m))
theorem NoSy.tl {h : Heap} {a : Addr} {as : List Addr} (z : NoSy h (a :: as)) : NoSy h as := fun b m => z b (List.mem_cons.mpr (.inr m))
section
variable {P : Program} {w : World} {h : Heap}
mutual
theorem rk_of : ∀ {u : Value} {d : PyData} {as : List Addr}, Reads h u d as → d.showable = true → NoSy h as → d.shown.length ≤ sizeLine →
    ∃ bs, ReadAtMost h d.depth bs ∧ ReprK P w bs h d.depth u d.shown
  | _, _, _, .none, _, _, _ => ⟨[], (fun _ m => nomatch m), by rw [PyData.shown]; exact ReprK.of_is .none _ _ _⟩
  | _, _, _, .bool b, _, _, _ => ⟨[], (fun _ m => nomatch m), by rw [PyData.shown]; exact ReprK.of_is (.bool b) _ _ _⟩
  | _, _, _, .int i t, sh, _, _ => ⟨[], (fun _ m => nomatch m), by rw [PyData.shown]; exact ReprK.of_is (.int t (by simpa only [PyData.showable, decide_eq_true_eq] using sh)) _ _ _⟩
  | _, _, _, .str x t, _, _, le => ⟨[], (fun _ m => nomatch m), by rw [PyData.shown]; exact ReprK.of_is (.str x t (by rw [PyData.shown] at le; exact le)) _ _ _⟩
  | _, _, _, .list (a := p) (vs := us) (xs := ds) q1 q2 q3 q4, sh, z, le => by
    rw [PyData.shown] at le
    rw [PyData.showable] at sh
    obtain ⟨bs, m, rs⟩ := rks_of q4 sh z.tl fun t e => Nat.le_trans (listText_mem_le e) le
    have rd := Reads.list q1 q2 q3 q4
    have off : p ∉ bs := not_mem_of_deeper rd (by rw [PyData.depth]; omega) m
    refine ⟨p :: bs, m.cons rd (by rw [PyData.depth]; omega), ?_⟩
    rw [PyData.depth, PyData.shown]
    cases us with | mk us =>
    cases us with
    | nil =>
      cases (show ReadsAll h [] ds _ from q4)
      rw [PyData.shownAll, listText_nil]
      exact .listEmpty q1 q2 q3
    | cons u us => exact .list q1 q2 q3 off (by simpa only [List.size_toArray] using rs.length_eq) fun i y e => rs.item i y (by simpa only [List.getElem?_toArray] using e)
  | _, _, _, .tuple (a := p) (xs := ds) q1 q2 q3 q4, sh, z, le => by
    rw [PyData.shown] at le
    rw [PyData.showable] at sh
    obtain ⟨bs, m, rs⟩ := rks_of q4 sh z fun t e => Nat.le_trans (tupleText_mem_le e) le
    have rd := Reads.tuple q1 q2 q3 q4
    have off : p ∉ bs := not_mem_of_deeper rd (by rw [PyData.depth]; omega) m
    refine ⟨p :: bs, m.cons rd (by rw [PyData.depth]; omega), ?_⟩
    rw [PyData.depth, PyData.shown]
    exact .tuple q1 q2 q3 off rs
  | _, _, _, .dict (a := p) (es := es) (kvs := ds) q1 q2 q3 q4 q5, sh, z, le => by
    rw [PyData.shown] at le
    rw [PyData.showable] at sh
    obtain ⟨s1, s2⟩ := PyData.showableKv_split ds sh
    have z1 : NoSy h _ := z.left.tl
    obtain ⟨b1, m1, r1⟩ := rks_of q4 s1 z1 fun t e => let ⟨_, i1, i2⟩ := PyData.shownKv_key_le ds t e; Nat.le_trans i2 (Nat.le_trans (dictText_mem_le i1) le)
    obtain ⟨b2, m2, r2⟩ := rks_of q5 s2 z.right fun t e => let ⟨_, i1, i2⟩ := PyData.shownKv_val_le ds t e; Nat.le_trans i2 (Nat.le_trans (dictText_mem_le i1) le)
    have rd := Reads.dict q1 q2 q3 q4 q5
    have m : ReadAtMost h (PyData.depthKv ds) (b1 ++ b2) := (m1.mono (PyData.depthAll_keys_le ds)).append (m2.mono (PyData.depthAll_vals_le ds))
    have off : p ∉ b1 ++ b2 := not_mem_of_deeper rd (by rw [PyData.depth]; omega) m
    refine ⟨p :: (b1 ++ b2), m.cons rd (by rw [PyData.depth]; omega), ?_⟩
    rw [PyData.depth, PyData.shown, PyData.shownKv_eq]
    exact .dict q1 q2 q3 (z p List.mem_cons_self _ q1 q2) off (.of_two es.toList _ _ (r1.more_le (fun _ e => List.mem_append.mpr (.inl e)) (PyData.depthAll_keys_le ds))
      (r2.more_le (fun _ e => List.mem_append.mpr (.inr e)) (PyData.depthAll_vals_le ds)))
theorem rks_of : ∀ {us : List Value} {ds : List PyData} {as : List Addr}, ReadsAll h us ds as → PyData.showableAll ds = true → NoSy h as → (∀ t, t ∈ PyData.shownAll ds → t.length ≤ sizeLine) →
    ∃ bs, ReadAtMost h (PyData.depthAll ds) bs ∧ ReprAllK P w bs h (PyData.depthAll ds) us (PyData.shownAll ds)
  | _, _, _, .nil, _, _, _ => ⟨[], (fun _ m => nomatch m), by rw [PyData.shownAll]; exact .nil⟩
  | _, _, _, .cons (d := d) (ds := ds) q r, sh, z, le => by
    rw [PyData.showableAll, Bool.and_eq_true] at sh
    rw [PyData.shownAll] at le
    obtain ⟨b1, m1, r1⟩ := rk_of q sh.1 z.left (le _ List.mem_cons_self)
    obtain ⟨b2, m2, r2⟩ := rks_of r sh.2 z.right fun t e => le t (List.mem_cons.mpr (.inr e))
    refine ⟨b1 ++ b2, ?_, ?_⟩
    · rw [PyData.depthAll]
      exact (m1.mono (Nat.le_max_left _ _)).append (m2.mono (Nat.le_max_right _ _))
    · rw [PyData.depthAll, PyData.shownAll]
      exact .cons ((r1.more fun _ e => List.mem_append.mpr (.inl e)).level_le (Nat.le_max_left _ _)) (r2.more_le (fun _ e => List.mem_append.mpr (.inr e)) (Nat.le_max_right _ _))
end
end
def keyD : Key → PyData
  | .inl i => .int i
  | .inr x => .str x
mutual
/-- data with dicts: what stands at a value -/
inductive DpD (K : PySem.W.Frag) (H : Hp) : V → PyData → Prop
  | non : DpD K H .non .none
  | bl (b : Bool) : DpD K H (.bl b) (.bool b)
  | int (i : Int) : DpD K H (.int i) (.int i)
  | str (x : Str) : DpD K H (.str x) (.str x)
  | lst {p : Addr} {vs : List V} {ds : List PyData} : SqL K H p vs → DpDs K H vs ds → DpD K H (.ref p) (.list ds)
  | tup {p : Addr} {vs : List V} {ds : List PyData} : SqT K H p vs → DpDs K H vs ds → DpD K H (.ref p) (.tuple ds)
  | dct {p : Addr} {kvs : List (Key × V)} {ds : List PyData} : H p = some (.dK kvs) → DpDs K H (kvs.map (·.2)) ds → DpD K H (.ref p) (.dict ((kvs.map fun x => keyD x.1).zip ds))
inductive DpDs (K : PySem.W.Frag) (H : Hp) : List V → List PyData → Prop
  | nil : DpDs K H [] []
  | cons {v : V} {vs : List V} {d : PyData} {ds : List PyData} : DpD K H v d → DpDs K H vs ds → DpDs K H (v :: vs) (d :: ds)
end
theorem DpDs.length {K : PySem.W.Frag} {H : Hp} : ∀ {vs : List V} {ds : List PyData}, DpDs K H vs ds → vs.length = ds.length
  | _, _, .nil => rfl
  | _, _, .cons _ r => congrArg (· + 1) r.length
theorem pairs_vals {P : Program} {w : World} : ∀ {kvs : List (Key × V)} {vs : List (Key × Value)} {es : List DictEntry}, KV kvs vs → Pairs (mixKind P w) es vs → Vals (kvs.map (·.2)) (es.map (·.val))
  | _, _, _, .nil, .nil => .nil
  | _, _, _, .cons r rs, .cons _ e es => .cons (by dsimp only; rw [e]; exact r.2) (pairs_vals rs es)
theorem pairs_keys {P : Program} {w : World} {h : Heap} : ∀ {kvs : List (Key × V)} {vs : List (Key × Value)} {es : List DictEntry}, KV kvs vs → Pairs (mixKind P w) es vs →
    ReadsAll h (es.map (·.key)) (kvs.map fun x => keyD x.1) []
  | _, _, _, .nil, .nil => .nil
  | (k, v) :: kvs, _, e :: es, .cons r rs, .cons q _ qs => by
    have q : keyIs _ e.key = true := q
    rw [← r.1] at q
    rcases keyIs_shape q with ⟨i, t, e1, e2⟩ | ⟨x, t, e1, e2⟩
    · have e1 : k = Sum.inl i := e1
      subst e1
      have z := ReadsAll.cons (Reads.int (h := h) i t) (pairs_keys (h := h) rs qs)
      rw [← e2] at z
      exact z
    · have e1 : k = Sum.inr x := e1
      subst e1
      have z := ReadsAll.cons (Reads.str (h := h) x t) (pairs_keys (h := h) rs qs)
      rw [← e2] at z
      exact z
theorem NoSy.nil {h : Heap} : NoSy h [] := fun _ m => nomatch m
theorem NoSy.app {h : Heap} {as bs : List Addr} (z : NoSy h as) (y : NoSy h bs) : NoSy h (as ++ bs) := fun b m => (List.mem_append.mp m).elim (z b) (y b)
section
variable {X : Cx} {pins : List (Addr × Obj)} {σ : L2.St} {H : Hp} {s : Shared}
mutual
theorem DpD.reads (I : Inv X pins σ H s) : ∀ {v : V} {d : PyData} {u : Value}, DpD X.K H v d → RelV v u → ∃ as, Reads s.heap u d as ∧ NoSy s.heap as
  | _, _, _, .non, r => by cases r; exact ⟨_, .none, .nil⟩
  | _, _, _, .bl b, r => by cases r; exact ⟨_, .bool b, .nil⟩
  | _, _, _, .int i, r => by obtain ⟨t, rfl⟩ := r; exact ⟨_, .int i t, .nil⟩
  | _, _, _, .str x, r => by obtain ⟨t, rfl⟩ := r; exact ⟨_, .str x t, .nil⟩
  | _, _, _, .lst (p := p) q qs, r => by
    cases r
    obtain ⟨its, rv, ⟨o, n, ho, hc, _, hd⟩, _⟩ := I.list q
    obtain ⟨as, hr, z⟩ := DpDs.reads I qs rv
    refine ⟨_, .list ho hc hd hr, fun b m o' e c => ?_⟩
    rcases List.mem_cons.mp m with rfl | m
    · rw [ho] at e
      cases e
      rw [hc] at c
      exact absurd c (by decide)
    · exact z b m o' e c
  | _, _, _, .tup q qs, r => by
    cases r
    obtain ⟨its, rv, ⟨o, ho, hc, n, hd⟩, _⟩ := I.tuple q
    obtain ⟨as, hr, z⟩ := DpDs.reads I qs rv
    exact ⟨_, .tuple ho hc hd hr, z⟩
  | _, _, _, .dct (p := p) (kvs := kvs) (ds := ds) q qs, r => by
    cases r
    obtain ⟨_, hs, vs, rel, o, es, ep, ho, hx, hd, _, hp, _⟩ := I.hok p _ q
    obtain ⟨as, hr, z⟩ := DpDs.reads I qs (pairs_vals rel hp)
    have len := qs.length
    have e1 : (((kvs.map fun x => keyD x.1).zip ds).map (·.1)) = kvs.map fun x => keyD x.1 := List.map_fst_zip (by simpa using Nat.le_of_eq len)
    have e2 : (((kvs.map fun x => keyD x.1).zip ds).map (·.2)) = ds := List.map_snd_zip (by simpa using Nat.le_of_eq len.symm)
    refine ⟨_, .dict ho hx.1 hd (by rw [e1]; exact pairs_keys rel hp) (by rw [e2]; exact hr), fun b m o' e c => ?_⟩
    rcases List.mem_cons.mp m with rfl | m
    · exact hs
    · exact z b m o' e c
theorem DpDs.reads (I : Inv X pins σ H s) : ∀ {vs : List V} {ds : List PyData} {us : List Value}, DpDs X.K H vs ds → Vals vs us → ∃ as, ReadsAll s.heap us ds as ∧ NoSy s.heap as
  | _, _, _, .nil, .nil => ⟨_, .nil, .nil⟩
  | _, _, _, .cons q qs, .cons r rs => by
    obtain ⟨as, a1, z1⟩ := DpD.reads I q r
    obtain ⟨bs, b1, z2⟩ := DpDs.reads I qs rs
    exact ⟨_, .cons a1 b1, z1.app z2⟩
end
end
mutual
def W.datD : W → Option PyData
  | .non => some .none
  | .bl b => some (.bool b)
  | .int i => some (.int i)
  | .str s => some (.str s)
  | .tup ws => (W.datDs ws).map .tuple
  | .lst ws => (W.datDs ws).map .list
  | .dct ks ws => (W.datDs ws).map fun ds => .dict ((ks.map keyP).zip ds)
  | _ => none
def W.datDs : List W → Option (List PyData)
  | [] => some []
  | w :: ws => match W.datD w, W.datDs ws with | some d, some ds => some (d :: ds) | _, _ => none
def keyP : W → PyData
  | .int i => .int i
  | .str x => .str x
  | _ => .none
end
theorem keyP_W : ∀ k : Key, keyP (keyW k) = keyD k
  | .inl _ => by simp only [keyW, keyP, keyD]
  | .inr _ => by simp only [keyW, keyP, keyD]
mutual
theorem dpD_of {G : Gx} {k : Ka} {H : Hp} (sub : ∀ a o, k.F a = some o → H a = some o) : ∀ {w : W} {v : V} {d : PyData}, Rep G k w v → w.datD = some d → DpD G.K H v d
  | .non, v, d, r, e => by simp only [Rep] at r; simp only [W.datD] at e; cases e; subst r; exact .non
  | .bl _, v, d, r, e => by simp only [Rep] at r; simp only [W.datD] at e; cases e; subst r; exact .bl _
  | .int _, v, d, r, e => by simp only [Rep] at r; simp only [W.datD] at e; cases e; subst r; exact .int _
  | .str _, v, d, r, e => by simp only [Rep] at r; simp only [W.datD] at e; cases e; subst r; exact .str _
  | .tup ws, v, d, r, e => by
    simp only [Rep] at r
    obtain ⟨p, vs, rfl, q, r⟩ := r
    simp only [W.datD] at e
    obtain ⟨ds, e1, rfl⟩ := Option.map_eq_some_iff.mp e
    exact .tup (Ka.Le.seqT sub q.sq) (dpDs_of sub r e1)
  | .lst ws, v, d, r, e => by
    simp only [Rep] at r
    obtain ⟨p, vs, rfl, q, r⟩ := r
    simp only [W.datD] at e
    obtain ⟨ds, e1, rfl⟩ := Option.map_eq_some_iff.mp e
    exact .lst (SqL.of (sub _ _ q)) (dpDs_of sub r e1)
  | .dct ks ws, v, d, r, e => by
    simp only [Rep] at r
    obtain ⟨p, kvs, rfl, q, rfl, r⟩ := r
    simp only [W.datD] at e
    obtain ⟨ds, e1, rfl⟩ := Option.map_eq_some_iff.mp e
    rw [List.map_map, show (kvs.map (keyP ∘ fun x => keyW x.1)) = kvs.map fun x => keyD x.1 from List.map_congr_left fun x _ => keyP_W x.1]
    exact .dct (sub _ _ q) (dpDs_of sub r e1)
  | .ins _ _ _, v, d, r, e => by simp [W.datD] at e
  | .ref _, v, d, r, e => by simp [W.datD] at e
  | .scr _, v, d, r, e => by simp [W.datD] at e
  | .exn _ _ _, v, d, r, e => by simp [W.datD] at e
theorem dpDs_of {G : Gx} {k : Ka} {H : Hp} (sub : ∀ a o, k.F a = some o → H a = some o) : ∀ {ws : List W} {vs : List V} {ds : List PyData}, RepL G k ws vs → W.datDs ws = some ds → DpDs G.K H vs ds
  | [], vs, ds, r, e => by simp only [RepL] at r; simp only [W.datDs] at e; cases e; subst r; exact .nil
  | w :: ws, vs, ds, r, e => by
    simp only [RepL] at r
    obtain ⟨v, vs', rfl, r1, r2⟩ := r
    simp only [W.datDs] at e
    split at e
    · rename_i e1 e2
      cases e
      exact .cons (dpD_of sub r1 e1) (dpDs_of sub r2 e2)
    · cases e
end
section
variable {A : Ax} {X : Cx} {N : List Str} {sc : Scope} {e : Expr} {es : List Expr} {aa : EA} {p pos : Pos}
end
end KW

set_option Elab.async false
set_option linter.all false
set_option maxRecDepth 100000
set_option maxHeartbeats 4000000
/-! d.get(k, x) -/
namespace KW
open PySem L2
def fGet (w y z : W) (h : WH) : R W := match dkOf h w, keyOfW y with
  | some r, some k => .ok ((lookD (keyW k) r.1 r.2).getD z) h
  | _, _ => .no
def dGet2 (a b c : EV) : EV := fun sw h => (a sw h).bind fun w h1 => if (dkOf h1 w).isSome = true then (b sw h1).bind fun y h2 => (c sw h2).bind fun z h3 => fGet w y z h3 else .no
@[simp] theorem x_get2 {a b c : EV} {sw : WS} {h : WH} : dGet2 a b c sw h = (a sw h).bind fun w h1 => if (dkOf h1 w).isSome = true then (b sw h1).bind fun y h2 => (c sw h2).bind fun z h3 => fGet w y z h3 else .no := rfl
@[simp] theorem f_getS {ks ws : List W} {y : Str} {z : W} {h : WH} : fGet (.dct ks ws) (.str y) z h = .ok ((lookD (.str y) ks ws).getD z) h := rfl
section
variable {A : Ax} {X : Cx} {N : List Str} {sc : Scope} {e f o : Expr} {ea eb ec : EV} {pos apos : Pos}
end
end KW

set_option Elab.async false
set_option linter.all false
set_option maxRecDepth 100000
set_option maxHeartbeats 4000000
/-! t[::-1], t a tuple -/
namespace KW
open PySem L2 PyProof.Rows
section
variable {prog : Program} {w : World} {A : Around} {E : Value → Shared → Prop} {s : Shared}
end
def dRevT (a : EV) : EV := fun sw h => (a sw h).bind fun w h1 => match w with | .tup ws => .ok (.tup ws.reverse) h1 | _ => .no
@[simp] theorem x_revT {a : EV} {sw : WS} {h : WH} : dRevT a sw h = (a sw h).bind fun w h1 => match w with | .tup ws => .ok (.tup ws.reverse) h1 | _ => .no := rfl
end KW

set_option Elab.async false
set_option linter.all false
set_option maxRecDepth 100000
set_option maxHeartbeats 4000000
/-! try .. except C as e: the exception in hand -/
namespace KW
open PySem L2
def Gx.hold (G : Gx) (q : Addr × Addr × Option Addr) : Gx := { G with xo := some q }
def Ax.hold (A : Ax) (q : Addr × Addr × Option Addr) : Ax := { A with xo := some q }
/-! what is told without an exception in hand is told with one, and back -/
section
variable {G : Gx} {q : Addr × Addr × Option Addr}
mutual
theorem Rep.hold (n : G.xo = none) {k : Ka} : ∀ {w : W} {v : V}, Rep G k w v → Rep (G.hold q) k w v
  | .non, v, h => by simpa only [Rep] using h
  | .bl _, v, h => by simpa only [Rep] using h
  | .int _, v, h => by simpa only [Rep] using h
  | .str _, v, h => by simpa only [Rep] using h
  | .tup ws, v, h => by
    simp only [Rep] at h ⊢
    obtain ⟨p, vs, e, z, r⟩ := h
    exact ⟨p, vs, e, z, RepL.hold n r⟩
  | .lst ws, v, h => by
    simp only [Rep] at h ⊢
    obtain ⟨p, vs, e, z, r⟩ := h
    exact ⟨p, vs, e, z, RepL.hold n r⟩
  | .dct ks ws, v, h => by
    simp only [Rep] at h ⊢
    obtain ⟨p, kvs, e, z, e2, r⟩ := h
    exact ⟨p, kvs, e, z, e2, RepL.hold n r⟩
  | .ins c fs ws, v, h => by
    simp only [Rep] at h ⊢
    obtain ⟨p, C, dx, fvs, e, e1, z, e2, r⟩ := h
    exact ⟨p, C, dx, fvs, e, e1, z, e2, RepL.hold n r⟩
  | .ref a, v, h => by simpa only [Rep] using h
  | .scr ns, v, h => by
    simp only [Rep] at h ⊢
    exact h
  | .exn c fs ws, v, h => by
    simp only [Rep] at h
    obtain ⟨p, C, d, e, ⟨e1, _⟩, _⟩ := h
    rw [n] at e1
    cases e1
theorem RepL.hold (n : G.xo = none) {k : Ka} : ∀ {ws : List W} {vs : List V}, RepL G k ws vs → RepL (G.hold q) k ws vs
  | [], vs, h => by simpa only [RepL] using h
  | w :: ws, vs, h => by
    simp only [RepL] at h ⊢
    obtain ⟨v, r, e, h1, h2⟩ := h
    exact ⟨v, r, e, Rep.hold n h1, RepL.hold n h2⟩
end
mutual
def W.nox : W → Bool
  | .tup ws => W.noxs ws
  | .lst ws => W.noxs ws
  | .dct ks ws => W.noxs ks && W.noxs ws
  | .ins _ _ ws => W.noxs ws
  | .exn _ _ _ => false
  | _ => true
def W.noxs : List W → Bool
  | [] => true
  | w :: ws => W.nox w && W.noxs ws
end
def Ob.nox : Ob → Bool
  | .lst ws => W.noxs ws
  | .dct ks ws => W.noxs ks && W.noxs ws
  | .ins _ _ ws => W.noxs ws
  | .td ks ws => W.noxs ks && W.noxs ws
  | .exo _ _ ws => W.noxs ws
  | .dead => true
mutual
theorem Rep.free {k : Ka} : ∀ {w : W} {v : V}, w.nox = true → Rep (G.hold q) k w v → Rep G k w v
  | .non, v, _, h => by simpa only [Rep] using h
  | .bl _, v, _, h => by simpa only [Rep] using h
  | .int _, v, _, h => by simpa only [Rep] using h
  | .str _, v, _, h => by simpa only [Rep] using h
  | .tup ws, v, z, h => by
    simp only [Rep] at h ⊢
    simp only [W.nox] at z
    obtain ⟨p, vs, e, y, r⟩ := h
    exact ⟨p, vs, e, y, RepL.free z r⟩
  | .lst ws, v, z, h => by
    simp only [Rep] at h ⊢
    simp only [W.nox] at z
    obtain ⟨p, vs, e, y, r⟩ := h
    exact ⟨p, vs, e, y, RepL.free z r⟩
  | .dct ks ws, v, z, h => by
    simp only [Rep] at h ⊢
    simp only [W.nox, Bool.and_eq_true] at z
    obtain ⟨p, kvs, e, y, e2, r⟩ := h
    exact ⟨p, kvs, e, y, e2, RepL.free z.2 r⟩
  | .ins c fs ws, v, z, h => by
    simp only [Rep] at h ⊢
    simp only [W.nox] at z
    obtain ⟨p, C, dx, fvs, e, e1, y, e2, r⟩ := h
    exact ⟨p, C, dx, fvs, e, e1, y, e2, RepL.free z r⟩
  | .ref a, v, _, h => by simpa only [Rep] using h
  | .scr ns, v, _, h => by
    simp only [Rep] at h ⊢
    exact h
  | .exn c fs ws, v, z, h => by simp [W.nox] at z
theorem RepL.free {k : Ka} : ∀ {ws : List W} {vs : List V}, W.noxs ws = true → RepL (G.hold q) k ws vs → RepL G k ws vs
  | [], vs, _, h => by simpa only [RepL] using h
  | w :: ws, vs, z, h => by
    simp only [RepL] at h ⊢
    simp only [W.noxs, Bool.and_eq_true] at z
    obtain ⟨v, r, e, h1, h2⟩ := h
    exact ⟨v, r, e, Rep.free z.1 h1, RepL.free z.2 h2⟩
end
theorem TdR.hold (n : G.xo = none) {k : Ka} : ∀ {ks ws : List W} {xs : List (NestedKey × Addr × V)}, TdR G k ks ws xs → TdR (G.hold q) k ks ws xs
  | [], ws, xs, h => h
  | y :: ks, ws, xs, h => by
    obtain ⟨w, us, m, b, v, r, e1, e2, e3, e4, r1, r2, t⟩ := h
    exact ⟨w, us, m, b, v, r, e1, e2, e3, e4, r1.hold n, r2.hold n, t.hold n⟩
theorem TdR.free {k : Ka} : ∀ {ks ws : List W} {xs : List (NestedKey × Addr × V)}, W.noxs ks = true → W.noxs ws = true → TdR (G.hold q) k ks ws xs → TdR G k ks ws xs
  | [], ws, xs, _, _, h => h
  | y :: ks, ws, xs, z1, z2, h => by
    obtain ⟨w, us, m, b, v, r, e1, e2, e3, e4, r1, r2, t⟩ := h
    subst e1
    simp only [W.noxs, Bool.and_eq_true] at z1 z2
    exact ⟨w, us, m, b, v, r, rfl, e2, e3, e4, r1.free z1.1, r2.free z2.1, t.free z1.2 z2.2⟩
theorem ORep.hold (n : G.xo = none) {k : Ka} {H : Hp} {p : Addr} : ∀ {o : Ob}, ORep G k H p o → ORep (G.hold q) k H p o
  | .lst ws, ⟨vs, e, r⟩ => ⟨vs, e, r.hold n⟩
  | .dct ks ws, ⟨kvs, e, nd, e2, r⟩ => ⟨kvs, e, nd, e2, r.hold n⟩
  | .ins c fs ws, ⟨C, dx, fvs, e1, e, e2, r⟩ => ⟨C, dx, fvs, e1, e, e2, r.hold n⟩
  | .td ks ws, ⟨xs, e, nd, r⟩ => ⟨xs, e, nd, r.hold n⟩
  | .exo c fs ws, ⟨C, d, e1, q, z⟩ => ⟨C, d, e1, q, z.imp id fun ⟨dx, fvs, a, b, c, r⟩ => ⟨dx, fvs, a, b, c, r.hold n⟩⟩
  | .dead, _ => trivial
theorem ORep.free {k : Ka} {H : Hp} {p : Addr} : ∀ {o : Ob}, o.nox = true → ORep (G.hold q) k H p o → ORep G k H p o
  | .lst ws, z, ⟨vs, e, r⟩ => ⟨vs, e, r.free z⟩
  | .dct ks ws, z, ⟨kvs, e, nd, e2, r⟩ => ⟨kvs, e, nd, e2, r.free (by simp only [Ob.nox, Bool.and_eq_true] at z; exact z.2)⟩
  | .ins c fs ws, z, ⟨C, dx, fvs, e1, e, e2, r⟩ => ⟨C, dx, fvs, e1, e, e2, r.free z⟩
  | .td ks ws, z, ⟨xs, e, nd, r⟩ => by
    simp only [Ob.nox, Bool.and_eq_true] at z
    exact ⟨xs, e, nd, r.free z.1 z.2⟩
  | .exo c fs ws, n, ⟨C, d, e1, q, z⟩ => ⟨C, d, e1, q, z.imp id fun ⟨dx, fvs, a, b, c, r⟩ => ⟨dx, fvs, a, b, c, r.free n⟩⟩
  | .dead, _, _ => trivial
theorem HRep.hold (n : G.xo = none) {k : Ka} {H : Hp} {h : WH} (x : HRep G k H h) : HRep (G.hold q) k H h :=
  ⟨x.sub, x.len, x.nd, x.trk, fun i o p e1 e2 => ⟨(x.ob i o p e1 e2).1.hold n, (x.ob i o p e1 e2).2⟩⟩
theorem HRep.free {k : Ka} {H : Hp} {h : WH} (z : h.all Ob.nox = true) (x : HRep (G.hold q) k H h) : HRep G k H h :=
  ⟨x.sub, x.len, x.nd, x.trk, fun i o p e1 e2 => ⟨(x.ob i o p e1 e2).1.free (List.all_eq_true.mp z o (List.mem_of_getElem? e1)), (x.ob i o p e1 e2).2⟩⟩
theorem SRep.hold (n : G.xo = none) {k : Ka} {sw : WS} {σ : L2.St} (x : SRep G k sw σ) : SRep (G.hold q) k sw σ :=
  ⟨x.1, fun i w e => let ⟨v, e1, r⟩ := x.2 i w e; ⟨v, e1, r.hold n⟩⟩
/-- the exception's dict, kept still -/
theorem HRep.still {k : Ka} {H : Hp} {h : WH} {dx : Addr} {fvs : List (Str × V)} (x : HRep G k H h) (e : H dx = some (.xd fvs)) : HRep G (k.froz dx (.xd fvs)) H h ∧ k.Le (k.froz dx (.xd fvs)) := by
  have le : k.Le (k.froz dx (.xd fvs)) := ⟨fun a o z => by
    by_cases y : a = dx
    · subst y
      have := (x.sub a o z).symm.trans e
      cases this
      exact upd_same
    · exact (upd_ne y).trans z, List.prefix_refl _⟩
  refine ⟨⟨fun a o z => ?_, x.len, x.nd, x.trk, fun i o p e1 e2 => ?_⟩, le⟩
  · by_cases y : a = dx
    · subst y
      have z : upd k.F a (.xd fvs) a = some o := z
      rw [upd_same] at z
      cases z
      exact e
    · have z : upd k.F dx (.xd fvs) a = some o := z
      rw [upd_ne y] at z
      exact x.sub a o z
  · obtain ⟨o1, o2⟩ := x.ob i o p e1 e2
    refine ⟨o1.mono le rfl, fun nd => ?_⟩
    obtain ⟨a, m⟩ := o2 nd
    refine ⟨?_, m⟩
    have y : p ≠ dx := fun z => by rw [z, e] at m; exact m
    show upd k.F dx (.xd fvs) p = none
    rw [upd_ne y]; exact a
theorem Nxt.still {k k1 : Ka} {H H1 : Hp} {dx : Addr} {o : HO} (n : Nxt k H k1 H1) (le : k1.Le (k1.froz dx o)) (hd : H dx = none) : Nxt k H (k1.froz dx o) H1 where
  le := n.le.trans le
  oth := n.oth
  fro := fun a u e => by
    by_cases y : a = dx
    · exact .inr (.inl (y ▸ hd))
    · have e : upd k1.F dx o a = some u := e
      rw [upd_ne y] at e
      exact n.fro a u e
  new := n.new
  trk := n.trk
end
/-! what the suite's code asks of its surroundings -/
structure XSu (A : Ax) (N : List Str) (sc : Scope) (X : Cx) : Prop where
  hK : X.K = A.K
  hN : X.N = N
  nd : N.Nodup
  hsc : X.env.scope = sc
  gd : X.A.guards = some []
  glob : GlobOk A X.mg
  un : X.A.units + 70 < cLine
  fn : ∀ y, X.fn y = true
section
variable {A : Ax} {X : Cx} {N : List Str} {sc : Scope} {Φ : Fns} {n : Nat} {q : Addr × Addr × Option Addr}
theorem GlobOk.hold {mg : Str → Option Value} (n : A.xo = none) (g : GlobOk A mg) : GlobOk (A.hold q) mg :=
  ⟨g.fn, g.cls, fun x w e => let ⟨u, v, e1, r, z⟩ := g.cst x w e; ⟨u, v, e1, r, fun k => (z k).hold (G := A.toGx) n⟩, g.blt⟩
theorem StOk.su (x : StOk A N sc X) (n : A.xo = none) {a : Addr} {pn : List (Addr × Obj)} : XSu (A.hold q) N sc (X.suite a pn) :=
  { hK := x.hK, hN := x.hN, nd := x.nd, hsc := x.hsc, gd := x.gd, glob := x.glob.hold n, un := x.un, fn := x.fn }
/-- except C as e: s, e in slot i -/
def sTryA (cat : Nat → Option Bool) (i : Nat) (b s : EW) : EW := fun sw h => match b sw h with
  | .exc sw' c fs vs h' => (match cat c with
    | some true => (match s (sw'.set i (some (.exn c fs vs))) h' with
      | .ok (.ret w) h2 => if w.nox = true ∧ h2.all Ob.nox = true then .ok (.ret w) h2 else .no
      | _ => .no)
    | some false => .no
    | none => .no)
  | r => r
@[simp] theorem x_tryA {cat : Nat → Option Bool} {i : Nat} {b s : EW} {sw : WS} {h : WH} : sTryA cat i b s sw h = match b sw h with
  | .exc sw' c fs vs h' => (match cat c with
    | some true => (match s (sw'.set i (some (.exn c fs vs))) h' with
      | .ok (.ret w) h2 => if w.nox = true ∧ h2.all Ob.nox = true then .ok (.ret w) h2 else .no
      | _ => .no)
    | some false => .no
    | none => .no)
  | r => r := rfl
/-- what a class whose instances are caught must say -/
structure ExqC (A : Ax) (nf : Nat) (C : Addr) : Prop where
  xf : XfC A.K C
  ex : ExcC A.K C
  no : ∀ f, f < nf → PySem.W.findIn A.K (.ref C) (A.fn f) = some none
def ExqOk (A : Ax) (nf : Nat) : Prop := ∀ c d b C, A.sub c d = some b → A.cl c = some C → ExqC A nf C
end
end KW

set_option Elab.async false
set_option linter.all false
set_option maxRecDepth 100000
set_option maxHeartbeats 4000000
/-! in an except suite: the exception asked for its class, its field; names, stores, repr -/
namespace KW
open PySem L2
section
variable {A : Ax} {X : Cx} {N : List Str} {sc : Scope} {e o : Expr} {es : List Expr} {ea : EV} {aa : EA} {pos p p2 p3 p4 p5 : Pos}
theorem XSu.u64 (x : XSu A N sc X) : X.A.units + 64 < cLine := by have := x.un; omega
/-! ### isinstance -/
abbrev Tq := Sum Nat String
def IsqOk (A : Ax) (isq : Nat → Tq → Option Bool) : Prop := ∀ c t b, isq c t = some b → ∃ C, A.cl c = some C ∧ match t with
  | .inl d => ∃ D, A.cl d = some D ∧ PySem.W.kitOne A.K (.ref C) (.ref D) = some b
  | .inr s => PySem.W.kitOne A.K (.ref C) (.type s) = some b
def isqs (isq : Nat → Tq → Option Bool) (c : Nat) : List Nat → Option Bool
  | [] => some false
  | d :: r => match isq c (.inl d) with
    | some true => some true
    | some false => isqs isq c r
    | none => none
def dIsQ (isq : Nat → Tq → Option Bool) (t : Tq) (a : EV) : EV := fun sw h => (a sw h).bind fun w h1 => match w with
  | .exn c _ _ => (match isq c t with | some b => .ok (.bl b) h1 | none => .no)
  | _ => .no
def dIsQs (isq : Nat → Tq → Option Bool) (ts : List Nat) (a : EV) : EV := fun sw h => (a sw h).bind fun w h1 => match w with
  | .exn c _ _ => (match isqs isq c ts with | some b => .ok (.bl b) h1 | none => .no)
  | _ => .no
@[simp] theorem x_isQ {isq : Nat → Tq → Option Bool} {t : Tq} {a : EV} {sw : WS} {h : WH} : dIsQ isq t a sw h = (a sw h).bind fun w h1 => match w with
  | .exn c _ _ => (match isq c t with | some b => .ok (.bl b) h1 | none => .no)
  | _ => .no := rfl
@[simp] theorem x_isQs {isq : Nat → Tq → Option Bool} {t : List Nat} {a : EV} {sw : WS} {h : WH} : dIsQs isq t a sw h = (a sw h).bind fun w h1 => match w with
  | .exn c _ _ => (match isqs isq c t with | some b => .ok (.bl b) h1 | none => .no)
  | _ => .no := rfl
end
section
variable {A : Ax} {X : Cx} {N : List Str} {sc : Scope} {o : Expr} {ea : EV} {pos p p2 p3 p4 p5 : Pos} {a C : Addr} {d : Option Addr} {oe : Obj} {pn : List (Addr × Obj)} {nf : Nat} {isq : Nat → Tq → Option Bool}
/-! ### the field -/
def dXf (f : Nat) (a : EV) : EV := fun sw h => (a sw h).bind fun w h1 => match w with
  | .exn _ [g] [u] => if f = g then .ok u h1 else .no
  | _ => .no
@[simp] theorem x_xf {f : Nat} {a : EV} {sw : WS} {h : WH} : dXf f a sw h = (a sw h).bind fun w h1 => match w with
  | .exn _ [g] [u] => if f = g then .ok u h1 else .no
  | _ => .no := rfl
end
end KW

set_option Elab.async false
set_option linter.all false
set_option maxRecDepth 100000
set_option maxHeartbeats 4000000
/-! a caught exception that is kept in a name: what is behind the try has it still in hand -/
namespace KW
open PySem PySem.Spec PyProof.Rows L2
section
variable {X : Cx} {xn nn : Str} {cv : Value} {ix : Nat} {bd su rs : List Stmt} {s0 : Stmt} {q1 q2 q3 : Pos} {tb : WX → TS} {ts tx : Addr → Value → Option Addr → TS} {tr : TS} {Wo : WX}
end
/-! the rule -/
def sTryK (cat : Nat → Option Bool) (i : Nat) (b s r rx : EW) : EW := fun sw h => match b sw h with
  | .ok (.next sw1) h1 => r sw1 h1
  | .exc sw' c fs vs h' => (match cat c with
    | some true => (match s (sw'.set i (some (.exn c fs vs))) h' with
      | .ok (.next sw2) h2 => (match rx (sw2.set i none) h2 with
        | .ok (.ret w) h3 => if w.nox = true ∧ h3.all Ob.nox = true then .ok (.ret w) h3 else .no
        | _ => .no)
      | _ => .no)
    | some false => .no
    | none => .no)
  | q => q
@[simp] theorem x_tryK {cat : Nat → Option Bool} {i : Nat} {b s r rx : EW} {sw : WS} {h : WH} : sTryK cat i b s r rx sw h = match b sw h with
  | .ok (.next sw1) h1 => r sw1 h1
  | .exc sw' c fs vs h' => (match cat c with
    | some true => (match s (sw'.set i (some (.exn c fs vs))) h' with
      | .ok (.next sw2) h2 => (match rx (sw2.set i none) h2 with
        | .ok (.ret w) h3 => if w.nox = true ∧ h3.all Ob.nox = true then .ok (.ret w) h3 else .no
        | _ => .no)
      | _ => .no)
    | some false => .no
    | none => .no)
  | q => q := rfl
section
variable {A : Ax} {X : Cx} {N : List Str} {sc : Scope} {Φ : Fns} {n : Nat} {q : Addr × Addr × Option Addr}
theorem StOk.kept (x : StOk A N sc X) (n : A.xo = none) (pl : List (Addr × Obj)) : StOk (A.hold q) N sc (X.tr pl X.xe) :=
  { hK := x.hK, hN := x.hN, hP := x.hP, hw := x.hw, nd := x.nd, hsc := x.hsc, calm := x.calm, gd := x.gd, glob := x.glob.hold n, un := x.un, fn := x.fn, stack := x.stack, frame := x.frame }
end
end KW

set_option Elab.async false
set_option linter.all false
set_option maxRecDepth 100000
set_option maxHeartbeats 4000000
/-! behind the try: the kept exception asked for its class, its field -/
namespace KW
open PySem L2
section
variable {A : Ax} {X : Cx} {N : List Str} {sc : Scope} {e o : Expr} {es : List Expr} {ea : EV} {aa : EA} {pos p p2 p3 p4 p5 : Pos} {a C : Addr} {d : Option Addr} {oe : Obj} {nf : Nat} {isq : Nat → Tq → Option Bool}
end
end KW

set_option Elab.async false
set_option linter.all false
set_option maxRecDepth 100000
set_option maxHeartbeats 4000000
/-! dict(a list of pairs) -/
namespace KW
open PySem L2
section
variable {A : Ax} {X : Cx} {N : List Str} {sc : Scope} {e : Expr} {es : List Expr} {aa : EA} {p pos : Pos}
end
end KW

set_option Elab.async false
set_option linter.all false
set_option maxRecDepth 100000
set_option maxHeartbeats 4000000
/-! C(k = v, ..): a new instance, by names; a comprehension into a cell -/
namespace KW
open PySem PySem.Spec PyProof.Rows L2
section
variable {A : Ax} {X : Cx} {N : List Str} {sc : Scope} {Φ : Fns} {n : Nat} {p pos : Pos} {kws : List Keyword} {ka : EA} {a : Expr} {ea : EV}
def dMkK (ini : Nat → Option Nat) (val : Nat → Bool) (Φ : Fns) (c q : Nat) (pm : List Nat) (k : EA) : EV := fun sw h => (k sw h).bind fun us h1 => if us.length = q then mkT ini val Φ c (pick pm us) h1 else .no
@[simp] theorem x_mkK {ini : Nat → Option Nat} {val : Nat → Bool} {c q : Nat} {pm : List Nat} {k : EA} {sw : WS} {h : WH} : dMkK ini val Φ c q pm k sw h = (k sw h).bind fun us h1 => if us.length = q then mkT ini val Φ c (pick pm us) h1 else .no := rfl
/-! a comprehension into a name that other code keeps in a cell -/
end
end KW

set_option Elab.async false
set_option linter.all false
set_option maxRecDepth 100000
set_option maxHeartbeats 4000000
/-! raise of an own exception that keeps nothing: its dict is never made -/
namespace KW
open PySem PySem.Spec PyProof.Rows L2
section
variable {X : Cx} {pins : List (Addr × Obj)} {σ : L2.St} {H1 : Hp} {Q : XK}
end
section
variable {X : Cx} {pos p : Pos}
end
section
variable {A : Ax} {X : Cx} {N : List Str} {sc : Scope} {Φ : Fns} {n : Nat} {p pos pos2 : Pos}
def sRaise0 (c : Nat) : EW := fun sw h => .exc sw c [] [] h
@[simp] theorem x_raise0 {c : Nat} {sw : WS} {h : WH} : sRaise0 c sw h = .exc sw c [] [] h := rfl
end
end KW

set_option Elab.async false
set_option linter.all false
set_option maxRecDepth 100000
set_option maxHeartbeats 4000000
/-! own == with None, a number, an instance of another class on the right -/
namespace KW
open PySem PySem.Spec PyProof.Rows L2
section
variable {A : Ax} {X : Cx} {N : List Str} {sc : Scope} {Φ : Fns} {n : Nat}
end
end KW

set_option Elab.async false
set_option linter.all false
set_option maxRecDepth 100000
set_option maxHeartbeats 4000000
/-! isinstance of a built-in type, own instances too -/
namespace KW
open PySem L2
def dIsTX (isb : Nat → String → Option Bool) (T : String) (a : EV) : EV := fun sw h => (a sw h).bind fun w h1 => match w with
  | .ins c _ _ => (match isb c T with | some b => .ok (.bl b) h1 | none => .no)
  | w => (match (tyW h1 w).bind fun t => kitB t T with | some b => .ok (.bl b) h1 | none => .no)
@[simp] theorem x_isTX {isb : Nat → String → Option Bool} {T : String} {a : EV} {sw : WS} {h : WH} : dIsTX isb T a sw h = (a sw h).bind fun w h1 => match w with
  | .ins c _ _ => (match isb c T with | some b => .ok (.bl b) h1 | none => .no)
  | w => (match (tyW h1 w).bind fun t => kitB t T with | some b => .ok (.bl b) h1 | none => .no) := rfl
section
variable {A : Ax} {X : Cx} {N : List Str} {sc : Scope} {pos p p2 : Pos} {a : Expr} {ea : EV}
end
end KW

set_option Elab.async false
set_option linter.all false
set_option maxRecDepth 100000
set_option maxHeartbeats 4000000
/-! list(zip(a, b)) -/
namespace KW
open PySem L2 KW.Z
section
variable {A : Ax} {X : Cx} {N : List Str} {sc : Scope} {a b : Expr} {aa : EA} {p p2 pos pos2 : Pos}
end
end KW

set_option Elab.async false
set_option linter.all false
set_option maxRecDepth 100000
set_option maxHeartbeats 4000000
/-! t.index(x): of a tuple of texts -/
namespace KW
open PySem PySem.Spec PyProof.Rows L2
/-- texts -/
def txtW : List W → Option (List Str)
  | [] => some []
  | .str s :: ws => (txtW ws).map (s :: ·)
  | _ => none
def fIndexT (x : W) (ws : List W) (h : WH) : R W := match x, ws with
  | .tup us, [.str s] => (match txtW us with | some ss => if s ∈ ss then .ok (.int (ss.idxOf s : Nat)) h else .no | none => .no)
  | _, _ => .no
def dIndexT (a : EV) (e : EA) : EV := fun sw h => (a sw h).bind fun w h1 => match w with
  | .tup us => (e sw h1).bind fun ws h2 => fIndexT (.tup us) ws h2
  | _ => .no
@[simp] theorem x_indexT {a : EV} {e : EA} {sw : WS} {h : WH} : dIndexT a e sw h = (a sw h).bind fun w h1 => match w with
  | .tup us => (e sw h1).bind fun ws h2 => fIndexT (.tup us) ws h2
  | _ => .no := rfl
section
variable {X : Cx} {o e : Expr} {es : List Expr} {to : TE} {t : TA} {apos cpos : Pos} {H : Hp} {s : Shared} {σ : L2.St} {pins : List (Addr × Obj)}
theorem PlT.obj {p : Addr} {vs : List V} (I : Inv X pins σ H s) (q : PlT X.K H p vs) : ∃ ob, s.heap.get? p = some ob ∧ ob.cls = .type "tuple" ∧ ob.dict = none := by
  rcases q with ⟨o, e, d⟩ | ⟨o, its, n, e, c, d, _⟩
  · obtain ⟨e1, _, _, _, o2, e2, c, _⟩ := (show ObjOk X.prog X.w H s.heap p (.frz o (.tup vs)) from I.hok p _ e)
    rw [e1] at e2; cases e2
    exact ⟨o, e1, c, d⟩
  · exact ⟨o, I.kIn p o e, c, d⟩
end
section
variable {A : Ax} {X : Cx} {N : List Str} {sc : Scope} {o e : Expr} {es : List Expr} {ea : EV} {aa : EA} {apos pos : Pos}
end
end KW

set_option Elab.async false
set_option linter.all false
set_option maxRecDepth 100000
set_option maxHeartbeats 4000000
/-! dict(zip(a, b)), a and b of one length -/
namespace KW
open PySem L2 KW.Z
section
variable {A : Ax} {X : Cx} {N : List Str} {sc : Scope} {a b : Expr} {aa : EA} {p p2 pos pos2 : Pos}
end
end KW

set_option Elab.async false
set_option linter.all false
set_option maxRecDepth 100000
set_option maxHeartbeats 4000000
/-! d.update(e), d a logical dict, e one that is told by value -/
namespace KW
open PySem L2 PyProof.Rows
def isDR (w : W) (h : WH) : Bool := match w with
  | .ref r => (match h[r]? with | some (.dct _ _) => true | _ => false)
  | _ => false
def fUpd (w : W) (ws : List W) (h : WH) : R W := match w, ws with
  | .ref r, [.dct k2 v2] => (match h[r]? with | some (.dct ks vs) => if ks.length + k2.length ≤ lim then (match foldD (k2.zip v2) (ks, vs) with | some rr => .ok .non (h.set r (.dct rr.1 rr.2)) | none => .no) else .no | _ => .no)
  | _, _ => .no
def dUpd (o : EV) (a : EA) : EV := fun sw h => (o sw h).bind fun w h1 => if isDR w h1 then (a sw h1).bind fun ws h2 => fUpd w ws h2 else .no
@[simp] theorem x_upd {o : EV} {a : EA} {sw : WS} {h : WH} : dUpd o a sw h = (o sw h).bind fun w h1 => if isDR w h1 then (a sw h1).bind fun ws h2 => fUpd w ws h2 else .no := rfl
section
variable {A : Ax} {X : Cx} {N : List Str} {sc : Scope} {o e : Expr} {es : List Expr} {ea : EV} {aa : EA} {apos pos : Pos}
end
end KW

set_option Elab.async false
set_option linter.all false
set_option maxRecDepth 100000
set_option maxHeartbeats 4000000
/-! a[k], z = x, y -/
namespace KW
open PySem L2
def sParS (ao ai : EV) (j : Nat) (e : EA) : EW := fun sw h => (dTup e sw h).st sw fun t h1 => match t with
  | .tup [w, u] => (ao sw h1).st sw fun y h2 => (ai sw h2).st sw fun z h3 => match fSetI y z w h3 with | some h4 => .ok (.next (sw.set j (some u))) h4 | none => .no
  | _ => .no
@[simp] theorem x_parS {ao ai : EV} {j : Nat} {e : EA} {sw : WS} {h : WH} : sParS ao ai j e sw h = (dTup e sw h).st sw fun t h1 => match t with
  | .tup [w, u] => (ao sw h1).st sw fun y h2 => (ai sw h2).st sw fun z h3 => match fSetI y z w h3 with | some h4 => .ok (.next (sw.set j (some u))) h4 | none => .no
  | _ => .no := rfl
section
variable {A : Ax} {X : Cx} {N : List Str} {sc : Scope} {a b x y : Expr} {eo ei : EV} {aa : EA} {pos : Pos}
end
end KW

set_option Elab.async false
set_option linter.all false
set_option maxRecDepth 100000
set_option maxHeartbeats 4000000
/-! sorted(a list of triples: a text, a number, a tuple of numbers) -/
namespace KW
open PySem PySem.Spec PyProof.Rows L2 KW.F
section
variable {A : Ax} {X : Cx} {N : List Str} {sc : Scope} {e : Expr} {es : List Expr} {aa : EA} {p pos : Pos}
end
end KW

set_option Elab.async false
set_option linter.all false
set_option maxRecDepth 100000
set_option maxHeartbeats 4000000
/-! for a, b in d.items(), the dict locked: the pairs plain -/
namespace KW.Z
open PySem PySem.Calls PySem.Spec PyProof.Rows L2
section
variable {P : Program} {w : World} {K : PySem.W.Frag} {d : Addr} {o : Obj} {es : Array DictEntry} {ep : Nat}
end
section
variable {X : Cx} {e : Expr} {td : TE} {apos cpos : Pos}
end
end KW.Z

set_option Elab.async false
set_option linter.all false
set_option maxRecDepth 100000
set_option maxHeartbeats 4000000
/-! [.. for .. in .. if .. for .. in .. if ..]: a new logical list -/
namespace KW
open PySem L2
section
variable {A : Ax} {X : Cx} {N : List Str} {sc : Scope} {pos : Pos} {tg tg1 elt iter iter1 : Expr} {ifs ifs1 : List Expr} {scope : Scope} {own : List (Str × Nat)} {own1 : List Nat} {it it1 : EI} {t t1 : Tg} {cond cond1 : EB} {ev : EV}
end
end KW

set_option Elab.async false
set_option linter.all false
set_option maxRecDepth 100000
set_option maxHeartbeats 4000000
/-! for a, b in name.field.items(): the dict is locked meanwhile; names that hold it are not seen there -/
namespace KW
open PySem L2
def imW : W → Bool
  | .non | .bl _ | .int _ | .str _ => true
  | _ => false
def imV : V → Bool
  | .ref _ => false
  | _ => true
theorem im_rep {G : Gx} {k : Ka} {w : W} {v : V} (r : Rep G k w v) : imV v = imW w := by
  cases w <;> simp only [Rep] at r <;> first | (subst r; rfl) | (obtain ⟨p, rfl, _⟩ := r; rfl) | (obtain ⟨p, _, rfl, _⟩ := r; rfl) | (obtain ⟨p, _, _, rfl, _⟩ := r; rfl) | (obtain ⟨p, _, _, _, rfl, _⟩ := r; rfl)
theorem im_reps {G : Gx} {k : Ka} : ∀ {ws : List W} {vs : List V}, RepL G k ws vs → vs.map imV = ws.map imW
  | [], vs, h => by simp only [RepL] at h; subst h; rfl
  | w :: ws, vs, h => by
    simp only [RepL] at h
    obtain ⟨v, r, rfl, h1, h2⟩ := h
    simp only [List.map_cons, im_rep h1, im_reps h2]
mutual
/-- no dict of these keys, to things of these kinds, within -/
def nqW (ks0 : List W) (ts0 : List Bool) : W → Bool
  | .tup ws => nqWs ks0 ts0 ws
  | .lst ws => nqWs ks0 ts0 ws
  | .dct ks ws => !(W.eqbs ks ks0 && decide (ws.map imW = ts0)) && nqWs ks0 ts0 ws
  | .ins _ _ ws => nqWs ks0 ts0 ws
  | .exn _ _ _ => false
  | _ => true
def nqWs (ks0 : List W) (ts0 : List Bool) : List W → Bool
  | [] => true
  | w :: ws => nqW ks0 ts0 w && nqWs ks0 ts0 ws
end
section
variable {G : Gx} {k kL : Ka} {p : Addr} {kvs0 : List (Key × V)} {ks0 : List W} {ts0 : List Bool} {O : HO}
theorem plt_tr {K : PySem.W.Frag} {F F' : Hp} (hp : F p = some O) (hO : ∀ o vs, O ≠ .frz o (.tup vs)) (hF : ∀ q o, F q = some o → q ≠ p → F' q = some o) {a : Addr} {vs : List V} (q : PlT K F a vs) : PlT K F' a vs := by
  rcases q with ⟨o, e, d⟩ | q
  · exact .inl ⟨o, hF _ _ e (by rintro rfl; rw [hp] at e; exact hO _ _ (Option.some.inj e)), d⟩
  · exact .inr q
theorem sql_tr {K : PySem.W.Frag} {F F' : Hp} (hp : F p = some O) (h1 : ∀ vs, O ≠ .lst vs) (h2 : ∀ o vs, O ≠ .frz o (.lst vs)) (hF : ∀ q o, F q = some o → q ≠ p → F' q = some o) {a : Addr} {vs : List V} (q : SqL K F a vs) : SqL K F' a vs := by
  rcases q with (e | ⟨o, e⟩) | q
  · exact .inl (.inl (hF _ _ e (by rintro rfl; rw [hp] at e; exact h1 _ (Option.some.inj e))))
  · exact .inl (.inr ⟨o, hF _ _ e (by rintro rfl; rw [hp] at e; exact h2 _ _ (Option.some.inj e))⟩)
  · exact .inr q
mutual
theorem Rep.lock (hm : kL.mu = k.mu) (hp : k.F p = some (.dK kvs0)) (e1 : ks0 = kvs0.map fun x => keyW x.1) (e2 : ts0 = kvs0.map fun x => imV x.2) (hF : ∀ q o, k.F q = some o → q ≠ p → kL.F q = some o) : ∀ {w : W} {v : V}, nqW ks0 ts0 w = true → Rep G k w v → Rep G kL w v
  | .non, v, _, h => by simpa only [Rep] using h
  | .bl _, v, _, h => by simpa only [Rep] using h
  | .int _, v, _, h => by simpa only [Rep] using h
  | .str _, v, _, h => by simpa only [Rep] using h
  | .tup ws, v, n, h => by
    simp only [Rep] at h ⊢
    simp only [nqW] at n
    obtain ⟨a, vs, e, q, r⟩ := h
    exact ⟨a, vs, e, plt_tr hp (fun _ _ z => nomatch z) hF q, RepL.lock hm hp e1 e2 hF n r⟩
  | .lst ws, v, n, h => by
    simp only [Rep] at h ⊢
    simp only [nqW] at n
    obtain ⟨a, vs, e, q, r⟩ := h
    exact ⟨a, vs, e, hF _ _ q (by rintro rfl; rw [hp] at q; cases q), RepL.lock hm hp e1 e2 hF n r⟩
  | .dct ks ws, v, n, h => by
    simp only [Rep] at h ⊢
    simp only [nqW, Bool.and_eq_true, Bool.not_eq_true', Bool.and_eq_false_iff] at n
    obtain ⟨a, kvs, e, q, e3, r⟩ := h
    refine ⟨a, kvs, e, hF _ _ q ?_, e3, RepL.lock hm hp e1 e2 hF n.2 r⟩
    rintro rfl
    rw [hp] at q
    cases q
    rcases n.1 with z | z
    · rw [e3, e1, W.eqbs_refl] at z; cases z
    · have := im_reps r
      rw [List.map_map] at this
      rw [e2, ← this] at z
      simp [Function.comp_def] at z
  | .ins c fs ws, v, n, h => by
    simp only [Rep] at h ⊢
    simp only [nqW] at n
    obtain ⟨a, C, dx, fvs, e, q0, q, e3, r⟩ := h
    exact ⟨a, C, dx, fvs, e, q0, hF _ _ q (by rintro rfl; rw [hp] at q; cases q), e3, RepL.lock hm hp e1 e2 hF n r⟩
  | .ref a, v, _, h => by simp only [Rep] at h ⊢; rw [hm]; exact h
  | .scr ns, v, _, h => by
    simp only [Rep] at h ⊢
    obtain ⟨a, e, q⟩ := h
    exact ⟨a, e, sql_tr hp (fun _ z => nomatch z) (fun _ _ z => nomatch z) hF q⟩
  | .exn _ _ _, v, n, h => by simp [nqW] at n
theorem RepL.lock (hm : kL.mu = k.mu) (hp : k.F p = some (.dK kvs0)) (e1 : ks0 = kvs0.map fun x => keyW x.1) (e2 : ts0 = kvs0.map fun x => imV x.2) (hF : ∀ q o, k.F q = some o → q ≠ p → kL.F q = some o) : ∀ {ws : List W} {vs : List V}, nqWs ks0 ts0 ws = true → RepL G k ws vs → RepL G kL ws vs
  | [], vs, _, h => by simpa only [RepL] using h
  | w :: ws, vs, n, h => by
    simp only [RepL] at h ⊢
    simp only [nqWs, Bool.and_eq_true] at n
    obtain ⟨v, r, e, h1, h2⟩ := h
    exact ⟨v, r, e, Rep.lock hm hp e1 e2 hF n.1 h1, RepL.lock hm hp e1 e2 hF n.2 h2⟩
end
mutual
theorem Rep.unlock {od : Obj} (hm : kL.mu = k.mu) (hp : k.F p = some (.frz od (.dK kvs0))) (hF : ∀ q o, k.F q = some o → q ≠ p → kL.F q = some o) : ∀ {w : W} {v : V}, Rep G k w v → Rep G kL w v
  | .non, v, h => by simpa only [Rep] using h
  | .bl _, v, h => by simpa only [Rep] using h
  | .int _, v, h => by simpa only [Rep] using h
  | .str _, v, h => by simpa only [Rep] using h
  | .tup ws, v, h => by
    simp only [Rep] at h ⊢
    obtain ⟨a, vs, e, q, r⟩ := h
    exact ⟨a, vs, e, plt_tr hp (fun _ _ z => nomatch z) hF q, RepL.unlock hm hp hF r⟩
  | .lst ws, v, h => by
    simp only [Rep] at h ⊢
    obtain ⟨a, vs, e, q, r⟩ := h
    exact ⟨a, vs, e, hF _ _ q (by rintro rfl; rw [hp] at q; cases q), RepL.unlock hm hp hF r⟩
  | .dct ks ws, v, h => by
    simp only [Rep] at h ⊢
    obtain ⟨a, kvs, e, q, e3, r⟩ := h
    exact ⟨a, kvs, e, hF _ _ q (by rintro rfl; rw [hp] at q; cases q), e3, RepL.unlock hm hp hF r⟩
  | .ins c fs ws, v, h => by
    simp only [Rep] at h ⊢
    obtain ⟨a, C, dx, fvs, e, q0, q, e3, r⟩ := h
    exact ⟨a, C, dx, fvs, e, q0, hF _ _ q (by rintro rfl; rw [hp] at q; cases q), e3, RepL.unlock hm hp hF r⟩
  | .ref a, v, h => by simp only [Rep] at h ⊢; rw [hm]; exact h
  | .scr ns, v, h => by
    simp only [Rep] at h ⊢
    obtain ⟨a, e, q⟩ := h
    exact ⟨a, e, sql_tr hp (fun _ z => nomatch z) (fun _ _ z => nomatch z) hF q⟩
  | .exn _ _ ws, v, h => by
    simp only [Rep] at h ⊢
    obtain ⟨a, C, d, e, q0, q⟩ := h
    refine ⟨a, C, d, e, q0, ?_⟩
    rcases q with q | ⟨dx, fvs, e4, q, e3, r⟩
    · exact .inl q
    · exact .inr ⟨dx, fvs, e4, hF _ _ q (by rintro rfl; rw [hp] at q; cases q), e3, RepL.unlock hm hp hF r⟩
theorem RepL.unlock {od : Obj} (hm : kL.mu = k.mu) (hp : k.F p = some (.frz od (.dK kvs0))) (hF : ∀ q o, k.F q = some o → q ≠ p → kL.F q = some o) : ∀ {ws : List W} {vs : List V}, RepL G k ws vs → RepL G kL ws vs
  | [], vs, h => by simpa only [RepL] using h
  | w :: ws, vs, h => by
    simp only [RepL] at h ⊢
    obtain ⟨v, r, e, h1, h2⟩ := h
    exact ⟨v, r, e, Rep.unlock hm hp hF h1, RepL.unlock hm hp hF h2⟩
end
theorem TdR.lock (hm : kL.mu = k.mu) (hp : k.F p = some (.dK kvs0)) (e1 : ks0 = kvs0.map fun x => keyW x.1) (e2 : ts0 = kvs0.map fun x => imV x.2) (hF : ∀ q o, k.F q = some o → q ≠ p → kL.F q = some o) : ∀ {ks ws : List W} {xs : List (NestedKey × Addr × V)}, nqWs ks0 ts0 ks = true → nqWs ks0 ts0 ws = true → TdR G k ks ws xs → TdR G kL ks ws xs
  | [], ws, xs, _, _, h => by simpa only [TdR] using h
  | y :: ks, ws, xs, n1, n2, h => by
    simp only [TdR] at h ⊢
    simp only [nqWs, Bool.and_eq_true] at n1
    obtain ⟨w, us, n, b, v, r, rfl, e4, e5, e6, r1, r2, t⟩ := h
    simp only [nqWs, Bool.and_eq_true] at n2
    exact ⟨w, us, n, b, v, r, rfl, e4, e5, e6, Rep.lock hm hp e1 e2 hF n1.1 r1, Rep.lock hm hp e1 e2 hF n2.1 r2, TdR.lock hm hp e1 e2 hF n1.2 n2.2 t⟩
theorem TdR.unlock {od : Obj} (hm : kL.mu = k.mu) (hp : k.F p = some (.frz od (.dK kvs0))) (hF : ∀ q o, k.F q = some o → q ≠ p → kL.F q = some o) : ∀ {ks ws : List W} {xs : List (NestedKey × Addr × V)}, TdR G k ks ws xs → TdR G kL ks ws xs
  | [], ws, xs, h => by simpa only [TdR] using h
  | y :: ks, ws, xs, h => by
    simp only [TdR] at h ⊢
    obtain ⟨w, us, n, b, v, r, e3, e4, e5, e6, r1, r2, t⟩ := h
    exact ⟨w, us, n, b, v, r, e3, e4, e5, e6, Rep.unlock hm hp hF r1, Rep.unlock hm hp hF r2, TdR.unlock hm hp hF t⟩
def Ob.nq (ks0 : List W) (ts0 : List Bool) : Ob → Bool
  | .lst ws => nqWs ks0 ts0 ws
  | .dct _ ws => nqWs ks0 ts0 ws
  | .ins _ _ ws => nqWs ks0 ts0 ws
  | .td ks ws => nqWs ks0 ts0 ks && nqWs ks0 ts0 ws
  | .exo _ _ ws => nqWs ks0 ts0 ws
  | .dead => true
theorem ORep.lock {H H' : Hp} {a : Addr} (hm : kL.mu = k.mu) (hp : k.F p = some (.dK kvs0)) (e1 : ks0 = kvs0.map fun x => keyW x.1) (e2 : ts0 = kvs0.map fun x => imV x.2) (hF : ∀ q o, k.F q = some o → q ≠ p → kL.F q = some o) (e : H' a = H a) : ∀ {o : Ob}, Ob.nq ks0 ts0 o = true → ORep G k H a o → ORep G kL H' a o
  | .lst ws, n, ⟨vs, q, r⟩ => ⟨vs, e.trans q, r.lock hm hp e1 e2 hF n⟩
  | .dct ks ws, n, ⟨kvs, q, nd, e3, r⟩ => ⟨kvs, e.trans q, nd, e3, r.lock hm hp e1 e2 hF n⟩
  | .ins c fs ws, n, ⟨C, dx, fvs, e0, q, e3, r⟩ => ⟨C, dx, fvs, e0, e.trans q, e3, r.lock hm hp e1 e2 hF n⟩
  | .td ks ws, n, ⟨xs, q, nd, r⟩ => by
    simp only [Ob.nq, Bool.and_eq_true] at n
    exact ⟨xs, e.trans q, nd, r.lock hm hp e1 e2 hF n.1 n.2⟩
  | .exo c fs ws, n, ⟨C, d, e0, q, z⟩ => ⟨C, d, e0, e.trans q, z.imp id fun ⟨dx, fvs, a, b, c, r⟩ => ⟨dx, fvs, a, hF _ _ b (fun y => by subst y; rw [hp] at b; unfold L2.exd at b; cases b), c, r.lock hm hp e1 e2 hF n⟩⟩
  | .dead, _, _ => trivial
theorem ORep.unlock {od : Obj} {H H' : Hp} {a : Addr} (hm : kL.mu = k.mu) (hp : k.F p = some (.frz od (.dK kvs0))) (hF : ∀ q o, k.F q = some o → q ≠ p → kL.F q = some o) (e : H' a = H a) : ∀ {o : Ob}, ORep G k H a o → ORep G kL H' a o
  | .lst ws, ⟨vs, q, r⟩ => ⟨vs, e.trans q, r.unlock hm hp hF⟩
  | .dct ks ws, ⟨kvs, q, nd, e3, r⟩ => ⟨kvs, e.trans q, nd, e3, r.unlock hm hp hF⟩
  | .ins c fs ws, ⟨C, dx, fvs, e0, q, e3, r⟩ => ⟨C, dx, fvs, e0, e.trans q, e3, r.unlock hm hp hF⟩
  | .td ks ws, ⟨xs, q, nd, r⟩ => ⟨xs, e.trans q, nd, r.unlock hm hp hF⟩
  | .exo c fs ws, ⟨C, d, e0, q, z⟩ => ⟨C, d, e0, e.trans q, z.imp id fun ⟨dx, fvs, a, b, c, r⟩ => ⟨dx, fvs, a, hF _ _ b (fun y => by subst y; rw [hp] at b; unfold L2.exd at b; cases b), c, r.unlock hm hp hF⟩⟩
  | .dead, _ => trivial
/-- the dict known, locked -/
def Ka.lk (k : Ka) (p : Addr) (o : HO) : Ka := ⟨upd k.F p o, k.mu⟩
theorem lk_F {o : HO} : ∀ q u, k.F q = some u → q ≠ p → (k.lk p o).F q = some u := fun q u e z => by
  show upd k.F p o q = some u
  rw [upd_ne z]; exact e
theorem HRep.lock {H : Hp} {h : WH} {od : Obj} (x : HRep G k H h) (hp : k.F p = some (.dK kvs0)) (e1 : ks0 = kvs0.map fun x => keyW x.1) (e2 : ts0 = kvs0.map fun x => imV x.2) (n : h.all (Ob.nq ks0 ts0) = true) : HRep G (k.lk p (.frz od (.dK kvs0))) (upd H p (.frz od (.dK kvs0))) h where
  sub := fun a u e => by
    by_cases z : a = p
    · subst z
      have e' : upd k.F a (.frz od (.dK kvs0)) a = some u := e
      rw [upd_same] at e' ⊢; exact e'
    · have e' : upd k.F p (.frz od (.dK kvs0)) a = some u := e
      rw [upd_ne z] at e' ⊢; exact x.sub a u e'
  len := x.len
  nd := x.nd
  trk := fun a ha => by
    by_cases z : a = p
    · subst z; rw [upd_same]; simp
    · rw [upd_ne z]; exact x.trk a ha
  ob := fun i o a g1 g2 => by
    obtain ⟨r, q⟩ := x.ob i o a g1 g2
    by_cases c : o = .dead
    · subst c; exact ⟨trivial, fun z => absurd rfl z⟩
    · obtain ⟨q1, q2⟩ := q c
      have z : a ≠ p := by rintro rfl; rw [hp] at q1; cases q1
      refine ⟨r.lock (k := k) (kL := k.lk p _) rfl hp e1 e2 lk_F (upd_ne z) (List.all_eq_true.mp n o (List.mem_of_getElem? g1)), fun _ => ⟨?_, by rw [upd_ne z]; exact q2⟩⟩
      show upd k.F p _ a = none
      rw [upd_ne z]; exact q1
theorem HRep.unlock {H : Hp} {h : WH} {od : Obj} (x : HRep G k H h) (hp : k.F p = some (.frz od (.dK kvs0))) : HRep G (k.lk p (.dK kvs0)) (upd H p (.dK kvs0)) h where
  sub := fun a u e => by
    by_cases z : a = p
    · subst z
      have e' : upd k.F a (.dK kvs0) a = some u := e
      rw [upd_same] at e' ⊢; exact e'
    · have e' : upd k.F p (.dK kvs0) a = some u := e
      rw [upd_ne z] at e' ⊢; exact x.sub a u e'
  len := x.len
  nd := x.nd
  trk := fun a ha => by
    by_cases z : a = p
    · subst z; rw [upd_same]; simp
    · rw [upd_ne z]; exact x.trk a ha
  ob := fun i o a g1 g2 => by
    obtain ⟨r, q⟩ := x.ob i o a g1 g2
    by_cases c : o = .dead
    · subst c; exact ⟨trivial, fun z => absurd rfl z⟩
    · obtain ⟨q1, q2⟩ := q c
      have z : a ≠ p := by rintro rfl; rw [hp] at q1; cases q1
      refine ⟨r.unlock (k := k) (kL := k.lk p _) rfl hp lk_F (upd_ne z), fun _ => ⟨?_, by rw [upd_ne z]; exact q2⟩⟩
      show upd k.F p _ a = none
      rw [upd_ne z]; exact q1
theorem Nxt.unlock {k2 : Ka} {H H2 : Hp} {od : Obj} (sub : H p = some (.dK kvs0)) (hp : k.F p = some (.dK kvs0)) (n : Nxt (k.lk p (.frz od (.dK kvs0))) (upd H p (.frz od (.dK kvs0))) k2 H2) : Nxt k H (k2.lk p (.dK kvs0)) (upd H2 p (.dK kvs0)) where
  le := ⟨fun a o e => by
    show upd k2.F p (.dK kvs0) a = some o
    by_cases z : a = p
    · subst z; rw [upd_same, ← hp]; exact e
    · rw [upd_ne z]; exact n.le.F a o (lk_F a o e z), n.le.mu⟩
  oth := fun a ha na => by
    by_cases z : a = p
    · subst z; rw [upd_same, sub]
    · rw [upd_ne z]
      have := n.oth a (by rw [upd_ne z]; exact ha) na
      rw [upd_ne z] at this; exact this
  fro := fun a o e => by
    have e' : upd k2.F p (.dK kvs0) a = some o := e
    by_cases z : a = p
    · subst z; rw [upd_same] at e'; exact .inl (hp.trans e')
    · rw [upd_ne z] at e'
      rcases n.fro a o e' with q | q | q
      · have q' : upd k.F p (.frz od (.dK kvs0)) a = some o := q
        rw [upd_ne z] at q'; exact .inl q'
      · rw [upd_ne z] at q; exact .inr (.inl q)
      · exact .inr (.inr q)
  new := fun a ha => by
    rcases n.new a ha with q | q
    · exact .inl q
    · by_cases z : a = p
      · subst z; rw [upd_same] at q; cases q
      · rw [upd_ne z] at q; exact .inr q
  trk := fun a ha => by
    by_cases z : a = p
    · subst z; rw [upd_same]; simp
    · rw [upd_ne z]; exact n.trk a (by rw [upd_ne z]; exact ha)
end
theorem SRep.unlock {G : Gx} {k kL : Ka} {sw : WS} {σ : St} (h : SRep G k sw σ) (hR : ∀ w v, Rep G k w v → Rep G kL w v) : SRep G kL sw σ :=
  ⟨h.1, fun i w e => let ⟨v, e1, r⟩ := h.2 i w e; ⟨v, e1, hR w v r⟩⟩
section
variable {A : Ax} {X : Cx} {N : List Str} {sc : Scope} {pos apos cpos fpos vpos tpos : Pos} {bd : List Stmt} {elts : List Expr} {kk : Nat} {body : EW} {t : Tg}
end
end KW

set_option Elab.async false
set_option linter.all false
set_option maxRecDepth 100000
set_option maxHeartbeats 4000000
/-! o.m(k = v, ..) -/
namespace KW
open PySem PySem.Spec PyProof.Rows L2
def dMtK (mt : Nat → Nat → Option Nat) (kw : Nat → Nat → List Str → Option (List Nat)) (Φ : Fns) (m : Nat) (ks : List Str) (o : EV) (k : EA) : EV := fun sw h => (o sw h).bind fun x h1 => match insOf h1 x with
  | some (c, _, _) => (match mt c m with
    | some f => (match kw f 1 ks with
      | some pm => (k sw h1).bind fun us h2 => if us.length = ks.length then Φ f (pick pm (x :: us)) h2 else .no
      | none => .no)
    | none => .no)
  | none => .no
section
variable {A : Ax} {X : Cx} {N : List Str} {sc : Scope} {Φ : Fns} {n : Nat} {a : Expr} {ea : EV} {ka : EA} {pos apos : Pos} {kws : List Keyword}
@[simp] theorem x_mtK {mt : Nat → Nat → Option Nat} {kw : Nat → Nat → List Str → Option (List Nat)} {m : Nat} {ks : List Str} {o : EV} {k : EA} {sw : WS} {h : WH} : dMtK mt kw Φ m ks o k sw h = (o sw h).bind fun x h1 => match insOf h1 x with
  | some (c, _, _) => (match mt c m with
    | some f => (match kw f 1 ks with
      | some pm => (k sw h1).bind fun us h2 => if us.length = ks.length then Φ f (pick pm (x :: us)) h2 else .no
      | none => .no)
    | none => .no)
  | none => .no := rfl
end
end KW

set_option Elab.async false
set_option linter.all false
set_option maxRecDepth 100000
set_option maxHeartbeats 4000000
/-! plain data in a tuple of plain data -/
namespace KW
open PySem L2
section
variable {X : Cx}
end
end KW

set_option Elab.async false
set_option linter.all false
set_option maxRecDepth 100000
set_option maxHeartbeats 4000000
/-! sorted(xs), xs a list of plain data that are alike, by HandS -/
namespace KW.F
open PySem PySem.Spec PyProof.Rows L2 PySem.W
section
variable {X : Cx}
end
end KW.F

set_option Elab.async false
set_option linter.all false
set_option maxRecDepth 100000
set_option maxHeartbeats 4000000
/-! sorted(a list of tuples of plain data that are alike) -/
namespace KW
open PySem PySem.Spec PyProof.Rows L2 KW.F
section
variable {A : Ax} {X : Cx} {N : List Str} {sc : Scope} {e : Expr} {es : List Expr} {aa : EA} {p pos : Pos}
end
end KW

set_option Elab.async false
set_option linter.all false
set_option maxRecDepth 100000
set_option maxHeartbeats 4000000
/-! list(d.items()) -/
namespace KW.Z
open PySem PySem.Calls PySem.Spec PyProof.Rows L2
section
variable {X : Cx} {pins : List (Addr × Obj)} {σ : L2.St} {H : Hp} {s : Shared} {d : Addr} {Q : VK}
variable {e : Expr} {te : TE} {p pos apos cpos : Pos}
end
end KW.Z

set_option Elab.async false
set_option linter.all false
set_option maxRecDepth 100000
set_option maxHeartbeats 4000000
/-! list(d.items()); a[i], b[j] = x, y -/
namespace KW
open PySem L2 KW.Z
def dLI (m : Bool) (e : EV) : EV := fun sw h => (e sw h).bind fun w h1 => match dkOf h1 w with
  | some (ks, ws) => newL m (zipW ks ws) h1
  | none => .no
@[simp] theorem x_LI {m : Bool} {e : EV} {sw : WS} {h : WH} : dLI m e sw h = (e sw h).bind fun w h1 => match dkOf h1 w with
  | some (ks, ws) => newL m (zipW ks ws) h1
  | none => .no := rfl
section
variable {A : Ax} {X : Cx} {N : List Str} {sc : Scope} {e : Expr} {ee : EV} {p pos apos cpos : Pos}
end
def sParSS (ao ai bo bi : EV) (e : EA) : EW := fun sw h => (dTup e sw h).st sw fun t h1 => match t with
  | .tup [w, u] => (ao sw h1).st sw fun y h2 => (ai sw h2).st sw fun z h3 => match fSetI y z w h3 with
    | some h4 => (bo sw h4).st sw fun y2 h5 => (bi sw h5).st sw fun z2 h6 => match fSetI y2 z2 u h6 with | some h7 => .ok (.next sw) h7 | none => .no
    | none => .no
  | _ => .no
@[simp] theorem x_parSS {ao ai bo bi : EV} {e : EA} {sw : WS} {h : WH} : sParSS ao ai bo bi e sw h = (dTup e sw h).st sw fun t h1 => match t with
  | .tup [w, u] => (ao sw h1).st sw fun y h2 => (ai sw h2).st sw fun z h3 => match fSetI y z w h3 with
    | some h4 => (bo sw h4).st sw fun y2 h5 => (bi sw h5).st sw fun z2 h6 => match fSetI y2 z2 u h6 with | some h7 => .ok (.next sw) h7 | none => .no
    | none => .no
  | _ => .no := rfl
section
variable {A : Ax} {X : Cx} {N : List Str} {sc : Scope} {a b c d x y : Expr} {eo ei fo fi : EV} {aa : EA} {pos : Pos}
end
end KW

set_option Elab.async false
set_option linter.all false
set_option maxRecDepth 100000
set_option maxHeartbeats 4000000
/-! sorted(d.items()): names and numbers -/
namespace KW.Z
open PySem PySem.Calls PySem.Spec PyProof.Rows L2 PySem.W
section
variable {X : Cx} {pins : List (Addr × Obj)} {σ : L2.St} {H : Hp} {s : Shared} {d : Addr} {Q : VK}
variable {e : Expr} {te : TE} {p pos apos cpos : Pos}
end
end KW.Z

set_option Elab.async false
set_option linter.all false
set_option maxRecDepth 100000
set_option maxHeartbeats 4000000
/-! sorted(d.items()): names and numbers -/
namespace KW
open PySem L2 KW.Z PySem.W
/-- keys that are texts, with numbers -/
def siP : List W → List W → Option (List (Str × Int))
  | [], [] => some []
  | .str s :: ks, .int i :: ws => (siP ks ws).map ((s, i) :: ·)
  | _, _ => none
abbrev prW (q : Str × Int) : W := .tup [.str q.1, .int q.2]
abbrev prD (q : Str × Int) : PyData := .tuple [.str q.1, .int q.2]
/-- the pairs, sorted -/
def srtP (ps : List (Str × Int)) : List (Str × Int) := ps.mergeSort (dataLe false prD)
def dSI (m : Bool) (e : EV) : EV := fun sw h => (e sw h).bind fun w h1 => match dkOf h1 w with
  | some (ks, ws) => (match siP ks ws with | some ps => newL m ((srtP ps).map prW) h1 | none => .no)
  | none => .no
@[simp] theorem x_SI {m : Bool} {e : EV} {sw : WS} {h : WH} : dSI m e sw h = (e sw h).bind fun w h1 => match dkOf h1 w with
  | some (ks, ws) => (match siP ks ws with | some ps => newL m ((srtP ps).map prW) h1 | none => .no)
  | none => .no := rfl
section
variable {A : Ax} {X : Cx} {N : List Str} {sc : Scope} {e : Expr} {ee : EV} {p pos apos cpos : Pos}
end
end KW

set_option Elab.async false
set_option linter.all false
set_option maxRecDepth 100000
set_option maxHeartbeats 4000000
/-! sorted(set(t)), sorted(t), t a tuple of texts: the set, with its table -/
namespace KW
open PySem L2 PySem.Spec PyProof.Rows
def keyT (e : Int × Value) : Str := match e.2 with | .str k _ => k | _ => Str.empty
def GoodT (w : World) (e : Int × Value) : Prop := ∃ k tk, e.2 = Value.str k tk ∧ e.1 = hashStr w k
/-- a set of texts whose table rises and can be walked -/
def SetX (w : World) (h : Heap) (a : Addr) (S : Str → Bool) (n : Nat) : Prop :=
  ∃ o es ep t, h.get? a = some o ∧ o.ExactSet ∧ o.data = .set es ep t ∧ (∀ e ∈ es.toList, GoodT w e) ∧ (es.toList.map keyT).Nodup ∧ (∀ k, S k = true ↔ k ∈ es.toList.map keyT) ∧
    es.size < scanBound ∧ t.fits es.size = true ∧ es.size = n ∧ Ris t.place.toList ∧ (w.params.followText "set-order" = true ∨ t.led = true)
section
variable {P : Program} {w : World} {A : Around} {E : Value → Shared → Prop} {s : Shared} {h h' : Heap} {a : Addr} {S : Str → Bool} {n : Nat}
theorem SetX.at (R : SetX w h a S n) (k : ∀ o, h.get? a = some o → h'.get? a = some o) : SetX w h' a S n := by
  obtain ⟨o, es, ep, t, ho, r⟩ := R
  exact ⟨o, es, ep, t, k o ho, r⟩
theorem SetX.congr {S' : Str → Bool} {m : Nat} (R : SetX w h a S n) (e : ∀ k, S' k = S k) (en : m = n) : SetX w h a S' m := by
  have q : S' = S := funext e
  rw [q, en]; exact R
/-- the set, all but where it lies -/
def XOkT (w : World) (es : Array (Int × Value)) (t : SetTable) (S : Str → Bool) : Prop := (∀ e ∈ es.toList, GoodT w e) ∧ (es.toList.map keyT).Nodup ∧ (∀ k, S k = true ↔ k ∈ es.toList.map keyT) ∧ es.size < scanBound ∧ t.fits es.size = true ∧ Ris t.place.toList ∧ (w.params.followText "set-order" = true ∨ t.led = true)
theorem XOkT.set {h : Heap} {a : Addr} {o : Obj} {es : Array (Int × Value)} {ep : Nat} {t : SetTable} {S : Str → Bool} (ho : h.get? a = some o) (hex : o.ExactSet) (hd : o.data = .set es ep t) (x : XOkT w es t S) : SetX w h a S es.size :=
  ⟨o, es, ep, t, ho, hex, hd, x.1, x.2.1, x.2.2.1, x.2.2.2.1, x.2.2.2.2.1, rfl, x.2.2.2.2.2.1, x.2.2.2.2.2.2⟩
theorem XOkT.lay {es : Array (Int × Value)} {t : SetTable} {S : Str → Bool} (x : XOkT w es t S) {k : Str} {tk : Tok} (hk : S k = false) (room : es.size + 1 < scanBound) :
    XOkT w (layNew t es (hashStr w k) (.str k tk)).1 (layNew t es (hashStr w k) (.str k tk)).2.1 (fun j => S j || decide (j = k)) ∧ (layNew t es (hashStr w k) (.str k tk)).1.size = es.size + 1 := by
  obtain ⟨g, nd, mm, hb, hf, hr, hl⟩ := x
  have pm := layNew_perm t es (hashStr w k) (.str k tk)
  rw [Array.toList_push] at pm
  have pc : (layNew t es (hashStr w k) (.str k tk)).1.toList.Perm ((hashStr w k, Value.str k tk) :: es.toList) := pm.trans (List.perm_append_singleton _ _)
  have pk : ((layNew t es (hashStr w k) (.str k tk)).1.toList.map keyT).Perm (k :: es.toList.map keyT) := pc.map keyT
  have hz : (layNew t es (hashStr w k) (.str k tk)).1.size = es.size + 1 := by rw [← Array.length_toList, pc.length_eq, List.length_cons, Array.length_toList]
  have hnk : k ∉ es.toList.map keyT := fun z => by rw [(mm k).mpr z] at hk; cases hk
  have hfit := layNew_fits t es (hashStr w k) (.str k tk)
  refine ⟨⟨fun e he => ?_, pk.nodup_iff.mpr (List.nodup_cons.mpr ⟨hnk, nd⟩), fun j => ?_, by rw [hz]; exact room, hfit, layNew_ris t es _ _ hr, hl.imp id fun z => ?_⟩, hz⟩
  · rcases List.mem_cons.mp (pc.mem_iff.mp he) with z | z
    · rw [z]; exact ⟨k, tk, rfl, rfl⟩
    · exact g e z
  · rw [Bool.or_eq_true, decide_eq_true_eq, mm j, pk.mem_iff, List.mem_cons]
    exact Or.comm
  · rw [layNew_led]; exact z
theorem XOkT.plain {es : Array (Int × Value)} {t : SetTable} {S : Str → Bool} (x : XOkT w es t S) : XOkT w es { t with plain := false } S := by
  obtain ⟨g, nd, mm, hb, hf, hr, hl⟩ := x
  exact ⟨g, nd, mm, hb, SetTable.fits_plain_off hf, hr, hl⟩
end
end KW

set_option Elab.async false
set_option linter.all false
set_option maxRecDepth 100000
set_option maxHeartbeats 4000000
/-! sorted(set(t)), sorted(t), t a tuple of texts -/
namespace KW
open PySem L2 PySem.Spec PyProof.Rows PySem.W
/-! the order -/
section
variable {P : Program} {w : World} {A : Around} {E : Value → Shared → Prop} {s : Shared} {R : Result → Shared → Prop} {I : Addr} {fp wr : List Addr} {G : Array GenState → Array GenState → Prop} {n : Nat} {Pv : Nat → Value → Prop} {St : Nat → Shared → Prop}
/-! sorting -/
end
end KW

set_option Elab.async false
set_option linter.all false
set_option maxRecDepth 100000
set_option maxHeartbeats 4000000
/-! sorted(set(t)), sorted(t), in the walk -/
namespace KW
open PySem L2 PySem.Spec PyProof.Rows PySem.W
section
variable {X : Cx} {a : Expr} {ta : TE} {p p2 q pos : Pos}
end
def dSortT (u m : Bool) (a : EV) : EV := fun sw h => (a sw h).bind fun w h1 => match w with
  | .tup ws => (match strsOf ws with | some ss => if ss.length < 4000 then newL m ((sortS (if u = true then unlike ss else ss)).map .str) h1 else .no | none => .no)
  | _ => .no
@[simp] theorem x_sortT {u m : Bool} {a : EV} {sw : WS} {h : WH} : dSortT u m a sw h = (a sw h).bind fun w h1 => match w with
  | .tup ws => (match strsOf ws with | some ss => if ss.length < 4000 then newL m ((sortS (if u = true then unlike ss else ss)).map .str) h1 else .no | none => .no)
  | _ => .no := rfl
section
variable {A : Ax} {X : Cx} {N : List Str} {sc : Scope} {a : Expr} {ea : EV} {p p2 q pos : Pos}
end
end KW

set_option Elab.async false
set_option linter.all false
set_option maxRecDepth 100000
set_option maxHeartbeats 4000000
/-! tuple(a text) -/
namespace KW
open PySem L2 PySem.Spec PyProof.Rows PySem.W
def sgnS (x : Str) : List Str := x.cps.toList.map fun c => (⟨#[c]⟩ : Str)
def bTupS (ws : List W) (h : WH) : R W := match ws with
  | [.str x] => if x.length < 4000 then .ok (.tup ((sgnS x).map .str)) h else .no
  | _ => .no
@[simp] theorem x_tupS {x : Str} {h : WH} : bTupS [.str x] h = if x.length < 4000 then .ok (.tup ((sgnS x).map .str)) h else .no := rfl
section
variable {A : Ax} {X : Cx} {N : List Str} {sc : Scope} {e : Expr} {es : List Expr} {aa : EA} {p pos : Pos}
end
end KW

set_option Elab.async false
set_option linter.all false
set_option maxRecDepth 100000
set_option maxHeartbeats 4000000
/-! d.get(k); s.upper(); x == (), x == [] whatever lies in x -/
namespace KW
open PySem L2 PySem.Spec PyProof.Rows PySem.W
def dGet1 (a b : EV) : EV := fun sw h => (a sw h).bind fun w h1 => if (dkOf h1 w).isSome = true then (b sw h1).bind fun y h2 => fGet w y .non h2 else .no
@[simp] theorem x_get1 {a b : EV} {sw : WS} {h : WH} : dGet1 a b sw h = (a sw h).bind fun w h1 => if (dkOf h1 w).isSome = true then (b sw h1).bind fun y h2 => fGet w y .non h2 else .no := rfl
def fUpper : FM := fun w ws h => match w, ws with
  | .str s, [] => if s.length ≤ 1000000 then .ok (.str (Txt.upper s)) h else .no
  | _, _ => .no
@[simp] theorem f_upper {s : Str} {h : WH} : fUpper (.str s) [] h = if s.length ≤ 1000000 then .ok (.str (Txt.upper s)) h else .no := rfl
section
variable {A : Ax} {X : Cx} {N : List Str} {sc : Scope} {e f o : Expr} {ea eb ec : EV} {pos apos : Pos}
end
/-! bare ones -/
def fEqZ (x y : W) (h : WH) : R W := match x, y with
  | .tup ws, .tup [] => .ok (.bl ws.isEmpty) h
  | x, .lst [] => match lstOf h x with | some ws => .ok (.bl ws.isEmpty) h | none => fEq false x (.lst []) h
  | x, y => fEq false x y h
@[simp] theorem f_eqZT {ws : List W} {h : WH} : fEqZ (.tup ws) (.tup []) h = .ok (.bl ws.isEmpty) h := rfl
@[simp] theorem f_eqZL {ws : List W} {h : WH} : fEqZ (.lst ws) (.lst []) h = .ok (.bl ws.isEmpty) h := rfl
end KW

set_option Elab.async false
set_option linter.all false
set_option maxRecDepth 100000
set_option maxHeartbeats 4000000
/-! sorted(set(l)), sorted(l), l a list of texts -/
namespace KW
open PySem L2 PySem.Spec PyProof.Rows PySem.W
section
variable {P : Program} {w : World} {A : Around} {E : Value → Shared → Prop} {s : Shared} {R : Result → Shared → Prop} {I : Addr} {fp wr : List Addr} {G : Array GenState → Array GenState → Prop} {n : Nat} {Pv : Nat → Value → Prop} {St : Nat → Shared → Prop}
end
section
variable {X : Cx} {a : Expr} {ta : TE} {p p2 q pos : Pos}
end
def dSortL (u m : Bool) (a : EV) : EV := fun sw h => (a sw h).bind fun w h1 => match (lstOf h1 w).bind strsOf with
  | some ss => if ss.length < 4000 then newL m ((sortS (if u = true then unlike ss else ss)).map .str) h1 else .no
  | none => .no
@[simp] theorem x_sortL {u m : Bool} {a : EV} {sw : WS} {h : WH} : dSortL u m a sw h = (a sw h).bind fun w h1 => match (lstOf h1 w).bind strsOf with
  | some ss => if ss.length < 4000 then newL m ((sortS (if u = true then unlike ss else ss)).map .str) h1 else .no
  | none => .no := rfl
section
variable {A : Ax} {X : Cx} {N : List Str} {sc : Scope} {a : Expr} {ea : EV} {p p2 q pos : Pos}
end
end KW

set_option Elab.async false
set_option linter.all false
set_option maxRecDepth 100000
set_option maxHeartbeats 4000000
/-! except C as e: s, on behind it -/
namespace KW
open PySem L2 PySem.Spec PyProof.Rows PySem.W
def noxO (o : Option W) : Bool := match o with | some w => w.nox | none => true
def sTryN (cat : Nat → Option Bool) (i : Nat) (b s : EW) : EW := fun sw h => match b sw h with
  | .exc sw' c fs vs h' => (match cat c with
    | some true => (match s (sw'.set i (some (.exn c fs vs))) h' with
      | .ok (.next sw2) h2 => if (sw2.set i none).all noxO = true ∧ h2.all Ob.nox = true then .ok (.next (sw2.set i none)) h2 else .no
      | _ => .no)
    | some false => .no
    | none => .no)
  | r => r
@[simp] theorem x_tryN {cat : Nat → Option Bool} {i : Nat} {b s : EW} {sw : WS} {h : WH} : sTryN cat i b s sw h = match b sw h with
  | .exc sw' c fs vs h' => (match cat c with
    | some true => (match s (sw'.set i (some (.exn c fs vs))) h' with
      | .ok (.next sw2) h2 => if (sw2.set i none).all noxO = true ∧ h2.all Ob.nox = true then .ok (.next (sw2.set i none)) h2 else .no
      | _ => .no)
    | some false => .no
    | none => .no)
  | r => r := rfl
section
variable {A : Ax} {X : Cx} {N : List Str} {sc : Scope} {Φ : Fns} {n : Nat} {q : Addr × Addr × Option Addr}
theorem SRep.free {G : Gx} {k : Ka} {sw : WS} {σ : L2.St} (z : sw.all noxO = true) (x : SRep (G.hold q) k sw σ) : SRep G k sw σ :=
  ⟨x.1, fun i w e => by
    obtain ⟨v, e1, r⟩ := x.2 i w e
    have := List.all_eq_true.mp z (some w) (List.mem_of_getElem? e)
    exact ⟨v, e1, Rep.free this r⟩⟩
end
end KW

set_option Elab.async false
set_option linter.all false
set_option maxRecDepth 100000
set_option maxHeartbeats 4000000
/-! for a, b in zip(text, x), x a list or a tuple -/
namespace KW.Z
open PySem PySem.Calls PySem.Spec PyProof.Rows L2
def ItX (x : Str) (t : Tok) (h : Heap) (it : Addr) (i : Nat) : Prop := h.IsStrIter it (strIterType x) x t i
theorem ItX.at {x : Str} {t : Tok} {h h' : Heap} {it : Addr} {i : Nat} (y : ItX x t h it i) (k : ∀ o, h.get? it = some o → h'.get? it = some o) : ItX x t h' it i := by
  obtain ⟨o, e, r⟩ := (show h.IsStrIter it (strIterType x) x t i from y)
  exact ⟨o, k o e, r⟩
theorem ItX.obj {x : Str} {t : Tok} {h : Heap} {it : Addr} {i : Nat} (y : ItX x t h it i) : ∃ o, h.get? it = some o ∧ ∀ v, o.data ≠ .cell v := by
  obtain ⟨o, e, _, d⟩ := (show h.IsStrIter it (strIterType x) x t i from y)
  exact ⟨o, e, fun v q => by rw [d] at q; cases q⟩
/-- both as they stand at each turn -/
def ItS (K : PySem.W.Frag) (u : Bool) (x : Str) (b : Addr) : It :=
  ⟨fun i H => ∃ (ys : List V) (c : Nat) (y : V), SqK u K H b ys ∧ x.cps[i]? = some c ∧ ys[i]? = some y,
    fun i H v H' => ∃ (T : Addr) (c : Nat) (y : V) (o : Obj), v = .ref T ∧ H T = none ∧ o.dict = none ∧ H' = upd H T (.frz o (.tup [.str ⟨#[c]⟩, y])) ∧ x.cps[i]? = some c ∧ ∀ ys, SqK u K H b ys → ys[i]? = some y,
    fun i H => ∃ ys : List V, SqK u K H b ys ∧ i ≤ x.cps.size ∧ i ≤ ys.length ∧ (i = x.cps.size ∨ i = ys.length)⟩
def iZipS (K : PySem.W.Frag) (ta : TA) : TI := fun σ H R => ta σ H fun vs H1 => ∃ (x : Str) (b : Addr) (u : Bool) (ys : List V), vs = [V.str x, .ref b] ∧ SqK u K H1 b ys ∧ R (ItS K u x b) H1
end KW.Z

set_option Elab.async false
set_option linter.all false
set_option maxRecDepth 100000
set_option maxHeartbeats 4000000
/-! zip(text, tuple) -/
namespace KW
open PySem L2 PySem.Spec PyProof.Rows KW.Z
def iZipS (a : EA) : EI := fun sw h => (a sw h).bind fun ws h1 => match ws with
  | [.str x, .tup bs] => .ok (zipW (signs x) bs, none) h1
  | [.str x, .lst bs] => .ok (zipW (signs x) bs, none) h1
  | _ => .no
@[simp] theorem x_zipS {a : EA} {sw : WS} {h : WH} : iZipS a sw h = (a sw h).bind fun ws h1 => match ws with
  | [.str x, .tup bs] => .ok (zipW (signs x) bs, none) h1
  | [.str x, .lst bs] => .ok (zipW (signs x) bs, none) h1
  | _ => .no := rfl
section
variable {A : Ax} {X : Cx} {N : List Str} {sc : Scope} {a b c : Expr} {aa : EA} {p pos tpos : Pos} {elts : List Expr} {kk : Nat}
end
end KW

set_option Elab.async false
set_option linter.all false
set_option maxRecDepth 100000
set_option maxHeartbeats 4000000
/-! truths in sums: b + 1, b - 1, str(b) -/
namespace KW
open PySem L2 PySem.Spec PyProof.Rows PySem.W
abbrev b01 (b : Bool) : Int := if b = true then 1 else 0
def fAddB (m : Bool) (x y : W) (h : WH) : R W := match x, y with
  | .bl b, .int j => .ok (.int (b01 b + j)) h
  | x, y => fAdd m x y h
def fSubB (x y : W) (h : WH) : R W := match x, y with
  | .bl b, .int j => .ok (.int (b01 b - j)) h
  | x, y => fSub x y h
@[simp] theorem f_addB {m : Bool} {b : Bool} {j : Int} {h : WH} : fAddB m (.bl b) (.int j) h = .ok (.int (b01 b + j)) h := rfl
@[simp] theorem f_subB {b : Bool} {j : Int} {h : WH} : fSubB (.bl b) (.int j) h = .ok (.int (b01 b - j)) h := rfl
def bStrB (ws : List W) (h : WH) : R W := match ws with
  | [.bl b] => .ok (.str (if b = true then "True" else "False")) h
  | ws => bStr ws h
@[simp] theorem b_strB' {b : Bool} {h : WH} : bStrB [.bl b] h = .ok (.str (if b = true then "True" else "False")) h := rfl
section
variable {A : Ax} {X : Cx} {N : List Str} {sc : Scope} {e : Expr} {es : List Expr} {aa : EA} {p pos : Pos}
end
end KW

set_option Elab.async false
set_option linter.all false
set_option maxRecDepth 100000
set_option maxHeartbeats 4000000
/-! tuple(zip(a, b)), of lists and tuples; x[k::2] of a list -/
namespace KW.Z
open PySem PySem.Calls PySem.Spec PyProof.Rows L2
section
variable {prog : Program} {w : World} {A : Around} {E : Value → Shared → Prop} {s : Shared} {z TI TO i1 i2 : Addr} {fp1 fp2 : List Addr} {n1 n2 : Nat} {P1 P2 : Nat → Value → Prop} {St1 St2 : Nat → Heap → Prop}
end
section
variable {X : Cx} {pins : List (Addr × Obj)} {σ : L2.St} {H : Hp} {s : Shared} {a b : Addr} {xs ys zs : List V} {Q : VK}
end
end KW.Z

set_option Elab.async false
set_option linter.all false
set_option maxRecDepth 100000
set_option maxHeartbeats 4000000
/-! tuple(zip(a, b)); x[k::2]; s.split(sep); a dict of the module, .get(text) -/
namespace KW
open PySem L2 PySem.Spec PyProof.Rows PySem.W KW.Z
section
variable {A : Ax} {X : Cx} {N : List Str} {sc : Scope} {a b e : Expr} {aa : EA} {ea eb : EV} {p p2 pos pos2 : Pos}
end
/-! ### every second one -/
def ev2 {α : Type} : List α → List α
  | [] => []
  | [x] => [x]
  | x :: _ :: r => x :: ev2 r
def dEv2 (m : Bool) (n : Nat) (a : EV) : EV := fun sw h => (a sw h).bind fun w h1 => match lstOf h1 w with | some ws => newL m (ev2 (ws.drop n)) h1 | none => .no
@[simp] theorem x_ev2 {m : Bool} {n : Nat} {a : EV} {sw : WS} {h : WH} : dEv2 m n a sw h = (a sw h).bind fun w h1 => match lstOf h1 w with | some ws => newL m (ev2 (ws.drop n)) h1 | none => .no := rfl
def fSplit (m : Bool) : FM := fun w ws h => match w, ws with
  | .str s, [.str p] => if (p.length == 0) = false ∧ s.length ≤ 1000000 then newL m ((Txt.split s p).map .str) h else .no
  | _, _ => .no
@[simp] theorem f_split {m : Bool} {s p : Str} {h : WH} : fSplit m (.str s) [.str p] h = if (p.length == 0) = false ∧ s.length ≤ 1000000 then newL m ((Txt.split s p).map .str) h else .no := rfl
section
variable {A : Ax} {X : Cx} {N : List Str} {sc : Scope} {a e o : Expr} {es : List Expr} {aa : EA} {ea eb : EV} {p p2 pos pos2 apos : Pos}
end
/-! ### a dict of the module: texts by texts -/
def getS (rows : List (Str × Str)) (x : Str) : Option Str := (rows.find? (fun r => r.1 == x)).map (·.2)
section
variable {X : Cx} {e o : Expr} {apos cpos npos : Pos} {te : TE} {nm : Str} {D : Addr}
end
def dGetS (tb : Nat → Option (List (Str × Str))) (c : Nat) (a : EV) : EV := fun sw h => (a sw h).bind fun w h1 => match tb c, w with
  | some rows, .str s => .ok (match getS rows s with | some y => .str y | none => .non) h1
  | _, _ => .no
@[simp] theorem x_getS {tb : Nat → Option (List (Str × Str))} {c : Nat} {a : EV} {sw : WS} {h : WH} : dGetS tb c a sw h = (a sw h).bind fun w h1 => match tb c, w with
  | some rows, .str s => .ok (match getS rows s with | some y => .str y | none => .non) h1
  | _, _ => .no := rfl
section
variable {A : Ax} {X : Cx} {N : List Str} {sc : Scope} {a e o : Expr} {eb : EV} {p pos apos npos : Pos}
end
/-! int(text) -/
section
variable {A : Ax} {X : Cx} {N : List Str} {sc : Scope} {e : Expr} {es : List Expr} {aa : EA} {p pos : Pos}
end
end KW

set_option Elab.async false
set_option linter.all false
set_option maxRecDepth 100000
set_option maxHeartbeats 4000000
/-! a text times a number -/
namespace KW
open PySem L2 PySem.Spec PyProof.Rows
def repS (n : Nat) (s : Str) : Str := ⟨(List.replicate n s.cps).foldl (· ++ ·) #[]⟩
theorem fold_app : ∀ (l : List (Array Nat)) (a : Array Nat), (l.foldl (· ++ ·) a).toList = a.toList ++ (l.map Array.toList).flatten
  | [], a => by simp
  | b :: l, a => by rw [List.foldl_cons, fold_app l]; simp
theorem repS_tl (n : Nat) (s : Str) : (repS n s).cps.toList = (List.replicate n s.cps.toList).flatten := by
  unfold repS
  rw [fold_app, List.map_replicate]
  simp
theorem repS_len (n : Nat) (s : Str) : (repS n s).length = n * s.length := by
  have e : (repS n s).length = (repS n s).cps.toList.length := by simp [PySem.Str.length]
  rw [e, repS_tl]
  simp [PySem.Str.length]
theorem repS_ext {n : Nat} {s z : Str} (h : (List.replicate n s.cps.toList).flatten = z.cps.toList) : repS n s = z := by
  have e := repS_tl n s
  rw [h] at e
  exact Str.ext' (Array.toList_inj.mp e)
def rMulS : R2 := fun x y H Q => ∃ s j, x = .str s ∧ y = .int j ∧ -1000000 ≤ j ∧ j ≤ 1000000 ∧ s.length * j.toNat ≤ 1000000 ∧ Q (.str (repS j.toNat s)) H
theorem op_mulS {X : Cx} : OpR X (binaryOp .Mult) rMulS := by
  intro pins s σ H x y v u Q I rx ry h
  obtain ⟨z, j, rfl, rfl, h0, h1, hl, q⟩ := h
  obtain ⟨t, rfl⟩ := rx
  obtain ⟨t', rfl⟩ := ry
  have e1 : decide (j < -(2 ^ 63 : Int)) = false := decide_eq_false (by omega)
  have e2 : decide (j ≥ (2 ^ 63 : Int)) = false := decide_eq_false (by omega)
  refine PySem.P.mul_str (by rw [e1, e2]; rfl) (fun a _ => ?_) (fun a _ => ?_) ?_
  · have hj : 0 < j := by omega
    have e3 : (z.length : Int) * j = ((z.length * j.toNat : Nat) : Int) := by rw [Int.natCast_mul, Int.toNat_of_nonneg (by omega : (0 : Int) ≤ j)]
    have : (z.length : Int) ≤ (2 ^ 63 - 1) / j := Int.le_ediv_of_mul_le hj (by rw [e3]; omega)
    omega
  · unfold PySem.Builtin.Str.tooLong
    exact decide_eq_false (by have : sizeLine = 16777216 := rfl; omega)
  · split
    · rename_i hj
      have e : j.toNat = 0 := by omega
      rw [e] at q
      refine ⟨by decide, ⟨.str Str.empty, H, I.tok _, ⟨_, rfl⟩, ?_⟩⟩
      rw [← repS_ext (n := 0) (s := z) (z := Str.empty) (by simp [Str.empty])]
      exact q
    · split
      · rename_i hb
        refine ⟨.str z, H, I, ⟨_, rfl⟩, ?_⟩
        rw [Bool.or_eq_true] at hb
        have e : repS j.toNat z = z := by
          rcases hb with hb | hb
          · have e : j = 1 := by simpa using hb
            subst e
            exact repS_ext (by simp)
          · have e : z.cps.toList = [] := by
              have : z.length = 0 := by simpa using hb
              have : z.cps.size = 0 := this
              simpa using this
            exact repS_ext (by rw [e]; simp)
        rw [← e]; exact q
      · refine ⟨?_, ⟨.str (repS j.toNat z), H, I.tok _, ⟨_, rfl⟩, q⟩⟩
        show (repS j.toNat z).length ≤ sizeLine
        rw [repS_len, Nat.mul_comm]
        have : sizeLine = 16777216 := rfl
        omega
def fMulS (x y : W) (h : WH) : R W := match x, y with
  | .str s, .int j => if -1000000 ≤ j ∧ j ≤ 1000000 ∧ s.length * j.toNat ≤ 1000000 then .ok (.str (repS j.toNat s)) h else .no
  | _, _ => .no
@[simp] theorem f_mulS {s : Str} {j : Int} {h : WH} : fMulS (.str s) (.int j) h = if -1000000 ≤ j ∧ j ≤ 1000000 ∧ s.length * j.toNat ≤ 1000000 then .ok (.str (repS j.toNat s)) h else .no := rfl
theorem opw_mulS {A : Ax} {X : Cx} : OpW A X rMulS fMulS := by
  intro wx k H σ h x y u v Q hh rx ry d
  unfold fMulS at d
  split at d
  · split at d
    · rename_i hl
      simp only [Rep] at rx ry
      subst rx; subst ry
      exact ⟨_, _, rfl, rfl, hl.1, hl.2.1, hl.2.2, den_val hh (by simp only [Rep]) d⟩
    · exact d.elim
  · exact d.elim
end KW

set_option Elab.async false
set_option linter.all false
set_option maxRecDepth 100000
set_option maxHeartbeats 4000000
/-! sorted(xs), xs a list of tuples that differ in kind behind the first unlike place only, a bare one among them -/
namespace KW.F
open PySem PySem.Spec PyProof.Rows L2 PySem.W PySem.SeqAt
/-! plain data, and which of them can be compared -/
mutual
def pln : PyData → Bool
  | .int _ => true
  | .str s => PyData.strOk s
  | .tuple xs => plns xs
  | _ => false
def plns : List PyData → Bool
  | [] => true
  | x :: r => pln x && plns r
end
mutual
def fitD : PyData → PyData → Bool
  | .int _, .int _ => true
  | .str _, .str _ => true
  | .tuple xs, .tuple ys => fitL xs ys
  | _, _ => false
def fitL : List PyData → List PyData → Bool
  | x :: r, y :: t => if PyData.eqv x y = true then fitL r t else fitD x y
  | _, _ => true
end
theorem pln_cons {x : PyData} {r : List PyData} (h : plns (x :: r) = true) : pln x = true ∧ plns r = true := by
  simpa [plns] using h
mutual
theorem pln_lay : ∀ d : PyData, pln d = true → d.canLay0 = true
  | .int _, _ => rfl
  | .str s, h => h
  | .tuple xs, h => plns_lay xs (by simpa [pln] using h)
  | .none, h => by simp [pln] at h
  | .bool _, h => by simp [pln] at h
  | .list _, h => by simp [pln] at h
  | .dict _, h => by simp [pln] at h
theorem plns_lay : ∀ ds : List PyData, plns ds = true → PyData.canLayAll0 ds = true
  | [], _ => rfl
  | d :: ds, h => by
    obtain ⟨h1, h2⟩ := pln_cons h
    simp [PyData.canLayAll0, pln_lay d h1, plns_lay ds h2]
end
mutual
theorem read_one {h : Heap} : ∀ (d e : PyData) (v : Value) (as bs : List Addr), pln d = true → pln e = true → Reads h v d as → Reads h v e bs → d = e
  | .int _, e, _, _, _, _, _, r, t => by cases r; cases t; rfl
  | .str _, e, _, _, _, _, _, r, t => by cases r; cases t; rfl
  | .tuple xs, e, _, _, _, p, q, r, t => by
    cases r with
    | tuple a1 a2 a3 a4 =>
      cases t with
      | tuple b1 b2 b3 b4 =>
        rw [a1] at b1; cases b1
        rw [a3] at b3; cases b3
        rw [reads_one xs _ _ _ _ (by simpa [pln] using p) (by simpa [pln] using q) a4 b4]
      | list _ _ _ _ => simp [pln] at q
      | dict _ _ _ _ _ => simp [pln] at q
  | .none, _, _, _, _, p, _, _, _ => by simp [pln] at p
  | .bool _, _, _, _, _, p, _, _, _ => by simp [pln] at p
  | .list _, _, _, _, _, p, _, _, _ => by simp [pln] at p
  | .dict _, _, _, _, _, p, _, _, _ => by simp [pln] at p
theorem reads_one {h : Heap} : ∀ (ds es : List PyData) (vs : List Value) (as bs : List Addr), plns ds = true → plns es = true → ReadsAll h vs ds as → ReadsAll h vs es bs → ds = es
  | [], _, _, _, _, _, _, r, t => by cases r; cases t; rfl
  | d :: ds, [], _, _, _, _, _, r, t => by cases t; cases r
  | d :: ds, e :: es, _, _, _, p, q, r, t => by
    cases r with
    | cons a1 a2 => cases t with
      | cons b1 b2 => rw [read_one d e _ _ _ (pln_cons p).1 (pln_cons q).1 a1 b1, reads_one ds es _ _ _ (pln_cons p).2 (pln_cons q).2 a2 b2]
end
/-! rows of signs -/
mutual
theorem eqv_tok : ∀ x y : PyData, pln x = true → pln y = true → PyData.eqv x y = true → keyToks x = keyToks y
  | .int i, y, _, q, e => by cases y <;> simp [pln] at q <;> simp [PyData.eqv] at e <;> simp [e]
  | .str s, y, _, q, e => by cases y <;> simp [pln] at q <;> simp [PyData.eqv] at e <;> simp [e]
  | .tuple xs, y, p, q, e => by
    cases y <;> simp [pln] at q <;> simp [PyData.eqv] at e
    rename_i ys
    simp only [keyToks]
    exact eqvs_tok xs ys (by simpa [pln] using p) q e
  | .none, _, p, _, _ => by simp [pln] at p
  | .bool _, _, p, _, _ => by simp [pln] at p
  | .list _, _, p, _, _ => by simp [pln] at p
  | .dict _, _, p, _, _ => by simp [pln] at p
theorem eqvs_tok : ∀ xs ys : List PyData, plns xs = true → plns ys = true → PyData.eqvAll xs ys = true → keyToksAll xs = keyToksAll ys
  | [], [], _, _, _ => rfl
  | [], _ :: _, _, _, e => by simp [PyData.eqvAll] at e
  | _ :: _, [], _, _, e => by simp [PyData.eqvAll] at e
  | x :: xs, y :: ys, p, q, e => by
    rw [PyData.eqvAll, Bool.and_eq_true] at e
    rw [keyToksAll, keyToksAll, eqv_tok x y (pln_cons p).1 (pln_cons q).1 e.1, eqvs_tok xs ys (pln_cons p).2 (pln_cons q).2 e.2]
end
mutual
theorem fit_tok : ∀ x y : PyData, pln x = true → pln y = true → fitD x y = true → PyData.eqv x y = false → ∀ l m, PyProof.Rows.lexLt itemOrd (keyToks x ++ l) (keyToks y ++ m) = PyProof.Rows.lexLt itemOrd (keyToks x) (keyToks y)
  | .int i, y, _, q, f, e, l, m => by
    cases y <;> simp [fitD] at f
    rename_i j
    simp [PyData.eqv] at e
    exact lex_atom (by simpa using e) l m
  | .str s, y, _, q, f, e, l, m => by
    cases y <;> simp [fitD] at f
    rename_i t
    simp [PyData.eqv] at e
    exact lex_atom (fun z => e (str_of_cps (by simpa using z))) l m
  | .tuple xs, y, p, q, f, e, l, m => by
    cases y <;> simp [fitD] at f
    rename_i ys
    simp [PyData.eqv] at e
    simp only [keyToks]
    exact fits_tok xs ys (by simpa [pln] using p) (by simpa [pln] using q) f e l m
  | .none, _, p, _, _, _, _, _ => by simp [pln] at p
  | .bool _, _, p, _, _, _, _, _ => by simp [pln] at p
  | .list _, _, p, _, _, _, _, _ => by simp [pln] at p
  | .dict _, _, p, _, _, _, _, _ => by simp [pln] at p
theorem fits_tok : ∀ xs ys : List PyData, plns xs = true → plns ys = true → fitL xs ys = true → PyData.eqvAll xs ys = false → ∀ l m, PyProof.Rows.lexLt itemOrd (keyToksAll xs ++ l) (keyToksAll ys ++ m) = PyProof.Rows.lexLt itemOrd (keyToksAll xs) (keyToksAll ys)
  | [], [], _, _, _, e, _, _ => by simp [PyData.eqvAll] at e
  | [], y :: ys, _, _, _, _, l, m => by
    rw [toks_all_cons, keyToksAll]
    exact (lex_atom (by decide) _ _).trans (lex_atom (by decide) _ _).symm
  | x :: xs, [], _, _, _, _, l, m => by
    rw [toks_all_cons, keyToksAll]
    exact (lex_atom (by decide) _ _).trans (lex_atom (by decide) _ _).symm
  | x :: xs, y :: ys, p, q, f, e, l, m => by
    have px := pln_cons p
    have py := pln_cons q
    rw [toks_all_cons, toks_all_cons, List.cons_append, List.cons_append, List.append_assoc, List.append_assoc]
    have one : ∀ a b : List (Int ⊕ List Nat), PyProof.Rows.lexLt itemOrd (Sum.inl 1 :: a) (Sum.inl 1 :: b) = PyProof.Rows.lexLt itemOrd a b := fun a b => lex_pre [Sum.inl 1] a b
    rw [one, one]
    rw [eqv_all_cons] at e
    unfold fitL at f
    cases z : PyData.eqv x y with
    | true =>
      rw [z] at e f
      rw [eqv_tok x y px.1 py.1 z, lex_pre, lex_pre]
      exact fits_tok xs ys px.2 py.2 (by simpa using f) (by simpa using e) l m
    | false =>
      rw [z] at f
      rw [fit_tok x y px.1 py.1 (by simpa using f) z, fit_tok x y px.1 py.1 (by simpa using f) z]
end
/-- the first unlike place decides -/
theorem first_tok : ∀ xs ys : List PyData, plns xs = true → plns ys = true → fitL xs ys = true →
    firstLt (pairEq xs ys) (fun j => dataLt (xs.getD j .none) (ys.getD j .none)) (decide (xs.length < ys.length)) (List.range (min xs.length ys.length)) = PyProof.Rows.lexLt itemOrd (keyToksAll xs) (keyToksAll ys)
  | [], [], _, _, _ => by decide +kernel
  | [], y :: ys, _, _, _ => by
    rw [toks_all_cons, keyToksAll]
    have e := lex_atom (p := Sum.inl 0) (q := Sum.inl 1) (by decide) [] (keyToks y ++ keyToksAll ys)
    rw [e]
    simp [firstLt]
    decide +kernel
  | x :: xs, [], _, _, _ => by
    rw [toks_all_cons, keyToksAll]
    have e := lex_atom (p := Sum.inl 1) (q := Sum.inl 0) (by decide) (keyToks x ++ keyToksAll xs) []
    rw [e]
    simp [firstLt]
    decide +kernel
  | x :: xs, y :: ys, p, q, f => by
    have px := pln_cons p
    have py := pln_cons q
    have hr : List.range (min (x :: xs).length (y :: ys).length) = 0 :: (List.range (min xs.length ys.length)).map (· + 1) := by
      rw [List.length_cons, List.length_cons, Nat.add_min_add_right, List.range_succ_eq_map]
    have one : ∀ a b : List (Int ⊕ List Nat), PyProof.Rows.lexLt itemOrd (Sum.inl 1 :: a) (Sum.inl 1 :: b) = PyProof.Rows.lexLt itemOrd a b := fun a b => lex_pre [Sum.inl 1] a b
    rw [hr, toks_all_cons, toks_all_cons, one]
    unfold fitL at f
    cases z : PyData.eqv x y with
    | true =>
      rw [z] at f
      have i := first_tok xs ys px.2 py.2 (by simpa using f)
      rw [firstLt_yes (show pairEq (x :: xs) (y :: ys) 0 = true from z), eqv_tok x y px.1 py.1 z, lex_pre, ← i, firstLt_map]
      have el : decide ((x :: xs).length < (y :: ys).length) = decide (xs.length < ys.length) := by simp
      rw [el]
      rfl
    | false =>
      rw [z] at f
      rw [firstLt_no (show pairEq (x :: xs) (y :: ys) 0 = false from z), fit_tok x y px.1 py.1 (by simpa using f) z]
      rfl
/-! t < u, of tuples -/
section
variable {A : Around} {s : Shared}
theorem tup_lt1 (p q : Addr) (xs ys : Array Value) (n m : Nat) (d1 d2 : Option Addr) (s1 s2 : Array (Option Value)) (e r : Nat → Bool) :
    Meets (Builtin.«tuple.__lt__» ⟨[.ref p, .ref q], []⟩) (fun A R s =>
      s.heap.get? p = some ⟨.type "tuple", d1, .seq xs n, s1⟩ ∧ s.heap.get? q = some ⟨.type "tuple", d2, .seq ys m, s2⟩ ∧
      (∀ j (u : j < xs.size) (v : j < ys.size), EqAt A.in1 s xs[j] ys[j] (e j)) ∧ (∀ j (u : j < xs.size) (v : j < ys.size), (∀ i, i < j → e i = true) → e j = false → RcLt A.in1 s xs[j] ys[j] (r j)) ∧
      R (.ok (.ret (.bool (firstLt e r (decide (xs.size < ys.size)) (List.range (min xs.size ys.size)))))) s) :=
  .of_wp fun prog w A R s h => by
    obtain ⟨hp, g, d, tk, os⟩ := s
    obtain ⟨hl, hb, he, hr, h⟩ := h
    have sub := AutoSeq1.sub_tuple_tuple
    have zl : (xs.toList.zip ys.toList).length = min xs.size ys.size := by simp
    wp_walk using wpAny_loadPart' hl, wpAny_loadPart' hb, wpAny_forIn_list _ (fun rest b s' => b.1 = none ∧ s' = ⟨hp, g, d, tk, os⟩ ∧ ∃ i, rest = (xs.toList.zip ys.toList).drop i ∧ (∀ j, j < i → e j = true) ∧
      R (.ok (.ret (.bool (firstLt e r (decide (xs.size < ys.size)) ((List.range (min xs.size ys.size)).drop i))))) ⟨hp, g, d, tk, os⟩) _
    case turn =>
      rintro ⟨y, x⟩ rest b s' ⟨b0, rfl, i, iz, ie, iR⟩
      have il : i < (xs.toList.zip ys.toList).length := by
        rcases Nat.lt_or_ge i (xs.toList.zip ys.toList).length with z | z
        · exact z
        · rw [List.drop_of_length_le z] at iz; cases iz
      have im : i < min xs.size ys.size := zl ▸ il
      have i1 : i < xs.size := by omega
      have i2 : i < ys.size := by omega
      rw [List.drop_eq_getElem_cons il] at iz
      injection iz with pe re
      have ey : y = xs[i] := by have z := congrArg Prod.fst pe; simpa using z
      have ex : x = ys[i] := by have z := congrArg Prod.snd pe; simpa using z
      subst ey ex
      have rd : (List.range (min xs.size ys.size)).drop i = i :: (List.range (min xs.size ys.size)).drop (i + 1) := by simp [List.drop_eq_getElem_cons, im]
      rw [rd] at iR
      refine wpAny_bind (he i i1 i2 prog w _ _ ?_)
      cases c : e i with
      | true =>
        rw [firstLt_yes c] at iR
        wp_walk
        exact ⟨rfl, rfl, i + 1, re, fun j hj => (Nat.lt_succ_iff_lt_or_eq.mp hj).elim (ie j) fun z => z ▸ c, iR⟩
      | false =>
        rw [firstLt_no c] at iR
        simp only [Bool.not_false, if_true]
        refine wpAny_bind (wpAny_rule (wpAny_bind (hr i i1 i2 ie c prog w _ _ ?_)))
        wp_walk
        exact ⟨_, rfl, iR⟩
    case fin =>
      rintro ⟨b1, b2⟩ s' ⟨b0, rfl, i, iz, ie, iR⟩
      simp only at b0
      subst b0
      have ge : min xs.size ys.size ≤ i := by
        rcases Nat.lt_or_ge i (xs.toList.zip ys.toList).length with z | z
        · rw [List.drop_eq_getElem_cons z] at iz; cases iz
        · exact zl ▸ z
      rw [List.drop_of_length_le (by simpa using ge)] at iR
      wp_walk
      exact ⟨_, rfl, by simpa [Builtin.Tuple.tupleCompareSizes, firstLt] using iR⟩
    case h => exact ⟨rfl, rfl, 0, rfl, fun j hj => absurd hj (Nat.not_lt_zero _), by simpa using h⟩
theorem roomF {A : Around} {x : PyData} {y : PyData} {r t : List PyData} (h : A.units + min (PyData.depthAll (x :: r)) (PyData.depthAll (y :: t)) < cLine) : A.units + min x.depth y.depth < cLine ∧ A.units + min (PyData.depthAll r) (PyData.depthAll t) < cLine := by
  simp only [PyData.depthAll] at h
  omega
mutual
theorem rc_fit : ∀ (d e : PyData) (A : Around) (s : Shared) (x y : Value) (as bs : List Addr), Reads s.heap x d as → Reads s.heap y e bs → pln d = true → pln e = true → fitD d e = true → A.units + min d.depth e.depth < cLine → RcLt A s x y (dataLt d e)
  | .int i, e, A, s, x, y, as, bs, r, t, _, _, f, _ => by
    cases e <;> simp [fitD] at f
    cases r; cases t
    intro prog w E Q q
    rw [dataLt_int] at q
    exact P.lt_int q
  | .str i, e, A, s, x, y, as, bs, r, t, _, _, f, _ => by
    cases e <;> simp [fitD] at f
    cases r; cases t
    intro prog w E Q q
    rw [dataLt_str] at q
    exact P.lt_str q
  | .tuple xs, e, A, s, x, y, as, bs, r, t, p, q, f, u => by
    cases e <;> simp [fitD] at f
    rename_i ys
    have p' : plns xs = true := by simpa [pln] using p
    have q' : plns ys = true := by simpa [pln] using q
    cases r with
    | @tuple l1 o1 v1 n1 _ c1 a1 a2 a3 a4 =>
      cases t with
      | @tuple l2 o2 v2 n2 _ c2 b1 b2 b3 b4 =>
        have z1 : v1.size = xs.length := by simpa using SeqAt.ReadsAll.length _ _ _ a4
        have z2 : v2.size = ys.length := by simpa using SeqAt.ReadsAll.length _ _ _ b4
        rw [dataLt_tuple, ← first_tok xs ys p' q' f, ← z1, ← z2]
        obtain ⟨k1, d1, dt1, w1⟩ := o1
        obtain ⟨k2, d2, dt2, w2⟩ := o2
        simp only at a2 a3 b2 b3
        subst a2 a3 b2 b3
        intro prog w E Q hq
        refine richCompare_meets_room (op := .Lt) ⟨_, a1, rfl⟩ ⟨_, b1, rfl⟩ F.slot_tuple_lt F.entry_tuple_lt (F.args_tuple_lt_2 _ _) (tup_lt1 _ _ v1 v2 n1 n2 d1 d2 w1 w2 (pairEq xs ys) (fun j => dataLt (xs.getD j .none) (ys.getD j .none)))
          ⟨a1, b1, fun j j1 j2 => ?_, fun j j1 j2 je jn => ?_, (fun z => nomatch z), hq⟩ (room_here u)
        · have z := eqAt_readsAll xs ys A.in1 s v1.toList v2.toList _ _ a4 b4 (plns_lay xs p') (plns_lay ys q') (room_in u) j (by simpa using j1) (by simpa using j2)
          simpa using z
        · have z := rcs_fit xs ys A.in1 s v1.toList v2.toList _ _ a4 b4 p' q' f (room_in u) j (by simpa using j1) (by simpa using j2) je jn
          simpa using z
  | .none, _, _, _, _, _, _, _, _, _, p, _, _, _ => by simp [pln] at p
  | .bool _, _, _, _, _, _, _, _, _, _, p, _, _, _ => by simp [pln] at p
  | .list _, _, _, _, _, _, _, _, _, _, p, _, _, _ => by simp [pln] at p
  | .dict _, _, _, _, _, _, _, _, _, _, p, _, _, _ => by simp [pln] at p
theorem rcs_fit : ∀ (xs ys : List PyData) (A : Around) (s : Shared) (vs ws : List Value) (as bs : List Addr), ReadsAll s.heap vs xs as → ReadsAll s.heap ws ys bs → plns xs = true → plns ys = true → fitL xs ys = true →
    A.units + min (PyData.depthAll xs) (PyData.depthAll ys) < cLine → ∀ j (u : j < vs.length) (v : j < ws.length), (∀ i, i < j → pairEq xs ys i = true) → pairEq xs ys j = false → RcLt A s vs[j] ws[j] (dataLt (xs.getD j .none) (ys.getD j .none))
  | [], _, _, _, _, _, _, _, r, _, _, _, _, _, j, u, _, _, _ => by cases r; exact absurd u (Nat.not_lt_zero _)
  | _ :: _, [], _, _, _, _, _, _, _, t, _, _, _, _, j, _, v, _, _ => by cases t; exact absurd v (Nat.not_lt_zero _)
  | x :: xs, y :: ys, A, s, _, _, _, _, r, t, p, q, f, h, j, u, v, je, jn => by
    cases r with
    | cons r1 r2 =>
      cases t with
      | cons t1 t2 =>
        unfold fitL at f
        cases j with
        | zero =>
          rw [show PyData.eqv x y = false from jn] at f
          exact rc_fit x y A s _ _ _ _ r1 t1 (pln_cons p).1 (pln_cons q).1 (by simpa using f) (roomF h).1
        | succ j =>
          rw [show PyData.eqv x y = true from je 0 (Nat.succ_pos _)] at f
          exact rcs_fit xs ys A s _ _ _ _ r2 t2 (pln_cons p).2 (pln_cons q).2 (by simpa using f) (roomF h).2 j (Nat.lt_of_succ_lt_succ u) (Nat.lt_of_succ_lt_succ v) (fun i hi => je (i + 1) (Nat.succ_lt_succ hi)) jn
end
end
end KW.F

set_option Elab.async false
set_option linter.all false
set_option maxRecDepth 100000
set_option maxHeartbeats 4000000
/-! sorted(xs) of tuples, a bare one among them: the kind of the keys, the list -/
namespace KW.F
open PySem PySem.Spec PyProof.Rows L2 PySem.W PySem.SeqAt
/-- all of them plain, each two of them fit -/
structure FitA (ds : List PyData) : Prop where
  p : ∀ d ∈ ds, pln d = true
  f : ∀ d ∈ ds, ∀ e ∈ ds, fitD d e = true
  t : ∀ d ∈ ds, ∃ xs, d = .tuple xs
  z : PyData.tuple [] ∈ ds
section
variable {M : Model} {A : Around} {E : Value → Shared → Prop} {s : Shared}
end
section
variable {prog : Program} {w : World} {A : Around} {E : Value → Shared → Prop} {s : Shared}
end
end KW.F

set_option Elab.async false
set_option linter.all false
set_option maxRecDepth 100000
set_option maxHeartbeats 4000000
/-! sorted(xs) of such tuples, by HandS -/
namespace KW.F
open PySem PySem.Spec PyProof.Rows L2 PySem.W
section
variable {X : Cx}
end
end KW.F

set_option Elab.async false
set_option linter.all false
set_option maxRecDepth 100000
set_option maxHeartbeats 4000000
/-! calls that leave out what may be left out (None then) -/
namespace KW
open PySem PySem.Spec PyProof.Rows L2
def dCallD (φ : List W → WH → R W) (m : Nat) (pm : List Nat) (a : EA) : EV := fun sw h => (a sw h).bind fun ws h1 => if ws.length = m then φ (pick pm ws) h1 else .no
@[simp] theorem x_callD {φ : List W → WH → R W} {m : Nat} {pm : List Nat} {a : EA} {sw : WS} {h : WH} : dCallD φ m pm a sw h = (a sw h).bind fun ws h1 => if ws.length = m then φ (pick pm ws) h1 else .no := rfl
section
variable {A : Ax} {X : Cx} {N : List Str} {sc : Scope} {Φ : Fns} {n : Nat} {e : Expr} {es : List Expr} {aa : EA} {p pos : Pos}
end
end KW

set_option Elab.async false
set_option linter.all false
set_option maxRecDepth 100000
set_option maxHeartbeats 4000000
/-! sorted(a list of tuples of plain data, a bare one among them) -/
namespace KW
open PySem PySem.Spec PyProof.Rows L2 KW.F
section
variable {A : Ax} {X : Cx} {N : List Str} {sc : Scope} {e : Expr} {es : List Expr} {aa : EA} {p pos : Pos}
end
end KW

set_option Elab.async false
set_option linter.all false
set_option maxRecDepth 100000
set_option maxHeartbeats 4000000
/-! [(x + c, y[x]) for x in y], y a logical dict of texts: locked meanwhile -/
namespace KW
open PySem L2 KW.Z
section
variable {G : Gx} {k k2 : Ka} {H H2 : Hp} {h h2 : WH} {p : Addr} {r : Nat} {kvs : List (Key × V)} {ks vs : List W} {od : Obj}
end
section
variable {A : Ax}
end
section
variable {A : Ax} {X : Cx} {N : List Str} {sc : Scope} {e1 : Expr} {pos py pg p2 p3 ps pt : Pos} {scope : Scope} {x1}
end
end KW

set_option Elab.async false
set_option linter.all false
set_option maxRecDepth 100000
set_option maxHeartbeats 4000000
/-! try: .., except (A, B) as e: raise NoText(..) from e -/
namespace KW
open PySem PySem.Spec PyProof.Rows L2
def sTryF (cat : Nat → Option Bool) (i c f : Nat) (b : EW) (ea : EV) : EW := fun sw h => match b sw h with
  | .exc sw' c' _ _ h' => (match cat c' with
    | some true => (match ea (sw'.set i none) h' with | .ok w h2 => .exc (sw'.set i none) c [f] [w] h2 | _ => .no)
    | _ => .no)
  | r => r
@[simp] theorem x_tryF {cat : Nat → Option Bool} {i c f : Nat} {b : EW} {ea : EV} {sw : WS} {h : WH} : sTryF cat i c f b ea sw h = match b sw h with
  | .exc sw' c' _ _ h' => (match cat c' with
    | some true => (match ea (sw'.set i none) h' with | .ok w h2 => .exc (sw'.set i none) c [f] [w] h2 | _ => .no)
    | _ => .no)
  | r => r := rfl
section
variable {A : Ax} {X : Cx} {N : List Str} {sc : Scope} {Φ : Fns} {n : Nat} {e : Expr} {es : List Expr} {aa : EA} {p : Pos}
theorem SRep.over {G : Gx} {k : Ka} {sw : WS} {σ : L2.St} (x : SRep G k sw σ) (i : Nat) (v : V) : SRep G k (sw.set i none) (σ.set i (some v)) := by
  refine ⟨by rw [List.length_set, List.length_set]; exact x.1, fun j w e => ?_⟩
  by_cases z : i = j
  · subst z
    by_cases l : i < sw.length
    · rw [List.getElem?_set_self l] at e; cases e
    · rw [List.getElem?_eq_none (by rw [List.length_set]; omega)] at e; cases e
  · rw [List.getElem?_set_ne z] at e ⊢
    exact x.2 j w e
end
end KW

set_option Elab.async false
set_option linter.all false
set_option maxRecDepth 100000
set_option maxHeartbeats 4000000
/-! x.replace(y, z) of two written texts, in a list display behind an item that ends with a written text: a token is out by then -/
namespace KW
open PySem PySem.Spec PyProof.Rows L2
section
variable {X : Cx} {e a b : Expr} {es : List Expr} {t te ta tb t' : TE} {ts ts' : TA} {pos : Pos}
end
section
variable {A : Ax} {X : Cx} {e a b o : Expr} {es : List Expr} {ea eb : EV} {aa r : EA} {pos apos : Pos}
def dRepC (a : EV) (y z : Str) : EV := fun sw h => (a sw h).bind fun w h1 => match w with
  | .str x => if x.length ≤ 100000 then .ok (.str (Txt.replace x y z)) h1 else .no
  | _ => .no
@[simp] theorem x_repC {a : EV} {y z : Str} {sw : WS} {h : WH} : dRepC a y z sw h = (a sw h).bind fun w h1 => match w with
  | .str x => if x.length ≤ 100000 then .ok (.str (Txt.replace x y z)) h1 else .no
  | _ => .no := rfl
end
section
variable {A : Ax} {X : Cx} {N : List Str} {sc : Scope}
end
/-- a list, frozen as it stands: who holds it as one that changes holds it no more -/
def dFrz (a : EV) : EV := fun sw h => (a sw h).bind fun w h1 => match w with
  | .ref r => (match h1[r]? with | some (.lst ws) => .ok (.lst ws) (h1.set r .dead) | _ => .no)
  | _ => .no
@[simp] theorem x_frz {a : EV} {sw : WS} {h : WH} : dFrz a sw h = (a sw h).bind fun w h1 => match w with
  | .ref r => (match h1[r]? with | some (.lst ws) => .ok (.lst ws) (h1.set r .dead) | _ => .no)
  | _ => .no := rfl
end KW

set_option Elab.async false
set_option linter.all false
set_option maxRecDepth 100000
set_option maxHeartbeats 4000000
/-! x.strip(y) of texts -/
namespace KW
open PySem PySem.Spec PyProof.Rows L2
def fStrip : FM := fun w ws h => match w, ws with
  | .str s, [.str p] => if s.length ≤ 1000000 then .ok (.str (Txt.stripChars s p)) h else .no
  | _, _ => .no
@[simp] theorem f_strip {s p : Str} {h : WH} : fStrip (.str s) [.str p] h = if s.length ≤ 1000000 then .ok (.str (Txt.stripChars s p)) h else .no := rfl
section
variable {A : Ax} {X : Cx} {N : List Str} {sc : Scope} {e o : Expr} {aa : EA} {ea : EV} {pos apos : Pos}
end
end KW

set_option Elab.async false
set_option linter.all false
set_option maxRecDepth 100000
set_option maxHeartbeats 4000000
/-! a, .., x.f, .. = e: a tuple taken apart, one of its parts into a field -/
namespace KW
open PySem L2 PyProof.Rows
/-- where a part goes: into a name, into a field of what a name tells -/
inductive Tf | nm (i : Nat) | fl (i f : Nat)
def tfW (lay : Nat → Nat → Bool) : List Tf → List W → WS → WH → Option (WS × WH)
  | [], [], sw, h => some (sw, h)
  | .nm i :: ts, w :: ws, sw, h => tfW lay ts ws (sw.set i (some w)) h
  | .fl i f :: ts, w :: ws, sw, h => (match sw[i]? with
    | some (some y) => (match fStF lay y f w h with | some h2 => tfW lay ts ws sw h2 | none => none)
    | _ => none)
  | _, _, _, _ => none
def sTgF (lay : Nat → Nat → Bool) (ts : List Tf) (a : EV) : EW := fun sw h => (a sw h).st sw fun w h1 => match w with
  | .tup ws => (match tfW lay ts ws sw h1 with | some (sw', h2) => .ok (.next sw') h2 | none => .no)
  | _ => .no
@[simp] theorem x_tgF {lay : Nat → Nat → Bool} {ts : List Tf} {a : EV} {sw : WS} {h : WH} : sTgF lay ts a sw h = (a sw h).st sw fun w h1 => match w with
  | .tup ws => (match tfW lay ts ws sw h1 with | some (sw', h2) => .ok (.next sw') h2 | none => .no)
  | _ => .no := rfl
section
variable {A : Ax} {X : Cx} {N : List Str} {sc : Scope} {a : Expr} {ea : EV} {es : List Expr} {ts : List Tf} {pos p : Pos}
end
end KW

set_option Elab.async false
set_option linter.all false
set_option maxRecDepth 100000
set_option maxHeartbeats 4000000
/-! f(x, .., k = v, ..); f(x, ..) whose last parameter is left out, a number then -/
namespace KW
open PySem PySem.Spec PyProof.Rows L2
section
variable {A : Ax} {X : Cx} {N : List Str} {sc : Scope} {Φ : Fns} {n : Nat} {e : Expr} {es : List Expr} {aa ka : EA} {kws : List Keyword} {p pos : Pos}
def dCallC (φ : List W → WH → R W) (m : Nat) (j : Int) (a : EA) : EV := fun sw h => (a sw h).bind fun ws h1 => if ws.length = m then φ (ws ++ [.int j]) h1 else .no
@[simp] theorem x_callC {φ : List W → WH → R W} {m : Nat} {j : Int} {a : EA} {sw : WS} {h : WH} : dCallC φ m j a sw h = (a sw h).bind fun ws h1 => if ws.length = m then φ (ws ++ [.int j]) h1 else .no := rfl
end
end KW

set_option Elab.async false
set_option linter.all false
set_option maxRecDepth 100000
set_option maxHeartbeats 4000000
/-! isinstance of a tuple of own classes -/
namespace KW
open PySem L2
def isas (isa : Ty → Nat → Option Bool) (t : Ty) : List Nat → Option Bool
  | [] => some false
  | d :: ds => match isa t d with | some true => some true | some false => isas isa t ds | none => none
def dIsCs (isa : Ty → Nat → Option Bool) (ds : List Nat) (a : EV) : EV := fun sw h => (a sw h).bind fun w h1 => match (tyX h1 w).bind fun t => isas isa t ds with | some b => .ok (.bl b) h1 | none => .no
@[simp] theorem x_isCs {isa : Ty → Nat → Option Bool} {ds : List Nat} {a : EV} {sw : WS} {h : WH} : dIsCs isa ds a sw h = (a sw h).bind fun w h1 => match (tyX h1 w).bind fun t => isas isa t ds with | some b => .ok (.bl b) h1 | none => .no := rfl
section
variable {A : Ax} {X : Cx} {N : List Str} {sc : Scope} {pos p p2 : Pos} {a : Expr} {ea : EV} {isa : Ty → Nat → Option Bool}
end
end KW

set_option Elab.async false
set_option linter.all false
set_option maxRecDepth 100000
set_option maxHeartbeats 4000000
/-! repr of data that holds logical lists and dicts, one level deep -/
namespace KW
open PySem L2
mutual
def W.datR (h : WH) : W → Option PyData
  | .non => some .none
  | .bl b => some (.bool b)
  | .int i => some (.int i)
  | .str s => some (.str s)
  | .tup ws => (W.datRs h ws).map .tuple
  | .lst ws => (W.datRs h ws).map .list
  | .dct ks ws => (W.datRs h ws).map fun ds => .dict ((ks.map keyP).zip ds)
  | .ref r => (match h[r]? with
    | some (.lst ws) => (W.datDs ws).map .list
    | some (.dct ks ws) => (W.datDs ws).map fun ds => .dict ((ks.map keyP).zip ds)
    | _ => none)
  | _ => none
def W.datRs (h : WH) : List W → Option (List PyData)
  | [] => some []
  | w :: ws => match W.datR h w, W.datRs h ws with | some d, some ds => some (d :: ds) | _, _ => none
end
mutual
theorem dpR_of {G : Gx} {k : Ka} {H : Hp} {h : WH} (x : HRep G k H h) : ∀ {w : W} {v : V} {d : PyData}, Rep G k w v → w.datR h = some d → DpD G.K H v d
  | .non, v, d, r, e => by simp only [Rep] at r; simp only [W.datR] at e; cases e; subst r; exact .non
  | .bl _, v, d, r, e => by simp only [Rep] at r; simp only [W.datR] at e; cases e; subst r; exact .bl _
  | .int _, v, d, r, e => by simp only [Rep] at r; simp only [W.datR] at e; cases e; subst r; exact .int _
  | .str _, v, d, r, e => by simp only [Rep] at r; simp only [W.datR] at e; cases e; subst r; exact .str _
  | .tup ws, v, d, r, e => by
    simp only [Rep] at r
    obtain ⟨p, vs, rfl, q, r⟩ := r
    simp only [W.datR] at e
    obtain ⟨ds, e1, rfl⟩ := Option.map_eq_some_iff.mp e
    exact .tup (Ka.Le.seqT x.sub q.sq) (dpRs_of x r e1)
  | .lst ws, v, d, r, e => by
    simp only [Rep] at r
    obtain ⟨p, vs, rfl, q, r⟩ := r
    simp only [W.datR] at e
    obtain ⟨ds, e1, rfl⟩ := Option.map_eq_some_iff.mp e
    exact .lst (SqL.of (x.sub _ _ q)) (dpRs_of x r e1)
  | .dct ks ws, v, d, r, e => by
    simp only [Rep] at r
    obtain ⟨p, kvs, rfl, q, rfl, r⟩ := r
    simp only [W.datR] at e
    obtain ⟨ds, e1, rfl⟩ := Option.map_eq_some_iff.mp e
    rw [List.map_map, show (kvs.map (keyP ∘ fun x => keyW x.1)) = kvs.map fun x => keyD x.1 from List.map_congr_left fun x _ => keyP_W x.1]
    exact .dct (x.sub _ _ q) (dpRs_of x r e1)
  | .ref a, v, d, r, e => by
    simp only [W.datR] at e
    split at e
    · rename_i ws ho
      obtain ⟨p, rfl, em, vs, eH, rr⟩ := ref_at x r ho
      obtain ⟨ds, e1, rfl⟩ := Option.map_eq_some_iff.mp e
      exact .lst (SqL.of eH) (dpDs_of x.sub rr e1)
    · rename_i ks ws ho
      obtain ⟨p, rfl, em, kvs, eH, nd, rfl, rr⟩ := ref_at x r ho
      obtain ⟨ds, e1, rfl⟩ := Option.map_eq_some_iff.mp e
      rw [List.map_map, show (kvs.map (keyP ∘ fun x => keyW x.1)) = kvs.map fun x => keyD x.1 from List.map_congr_left fun x _ => keyP_W x.1]
      exact .dct eH (dpDs_of x.sub rr e1)
    · cases e
  | .ins _ _ _, v, d, r, e => by simp [W.datR] at e
  | .scr _, v, d, r, e => by simp [W.datR] at e
  | .exn _ _ _, v, d, r, e => by simp [W.datR] at e
theorem dpRs_of {G : Gx} {k : Ka} {H : Hp} {h : WH} (x : HRep G k H h) : ∀ {ws : List W} {vs : List V} {ds : List PyData}, RepL G k ws vs → W.datRs h ws = some ds → DpDs G.K H vs ds
  | [], vs, ds, r, e => by simp only [RepL] at r; simp only [W.datRs] at e; cases e; subst r; exact .nil
  | w :: ws, vs, ds, r, e => by
    simp only [RepL] at r
    obtain ⟨v, vs', rfl, r1, r2⟩ := r
    simp only [W.datRs] at e
    split at e
    · rename_i e1 e2
      cases e
      exact .cons (dpR_of x r1 e1) (dpRs_of x r2 e2)
    · cases e
end
section
variable {A : Ax} {X : Cx} {N : List Str} {sc : Scope} {e : Expr} {es : List Expr} {aa : EA} {p pos : Pos}
end
end KW

set_option Elab.async false
set_option linter.all false
set_option maxRecDepth 100000
set_option maxHeartbeats 4000000
/-! [e for x in y], y a logical dict of texts: locked meanwhile; e changes nothing -/
namespace KW
open PySem L2 KW.Z
section
variable {A : Ax}
end
section
variable {A : Ax} {X : Cx} {N : List Str} {sc : Scope} {e1 ye : Expr} {ea elt : EV} {pos pg : Pos} {scope : Scope}
end
end KW

set_option Elab.async false
set_option linter.all false
set_option maxRecDepth 100000
set_option maxHeartbeats 4000000
/-! try: .., except A: .., except B as e: a suite; what is raised is a B and no A -/
namespace KW
open PySem PySem.Spec PyProof.Rows L2
section
variable {X : Cx} {x1 x2 nn : Str} {v1 v2 : Value} {i : Nat} {bd su su1 : List Stmt} {s0 : Stmt} {q1 q2 q3 q4 q5 : Pos} {tb : WX → TS} {ts : Addr → Value → Option Addr → TS}
end
end KW

set_option Elab.async false
set_option linter.all false
set_option maxRecDepth 100000
set_option maxHeartbeats 4000000
/-! != with an own instance on the right, on the left a thing of a built-in type, or an own instance of any class -/
namespace KW
open PySem PySem.Spec PyProof.Rows L2 PySem.SeqAt
section
variable {prog : Program} {w : World} {A : Around} {E : Value → Shared → Prop} {s : Shared} {K : PySem.W.Frag} {x y C f dx : Addr} {ox : Obj} {od : Option Obj}
end
end KW

set_option Elab.async false
set_option linter.all false
set_option maxRecDepth 100000
set_option maxHeartbeats 4000000
/-! try: .., except A: .., except C as e: s; what is raised is a C and no A -/
namespace KW
open PySem L2
def sTryB (cat1 cat : Nat → Option Bool) (i : Nat) (b s : EW) : EW := fun sw h => match b sw h with
  | .exc sw' c fs vs h' => (match cat1 c, cat c with
    | some false, some true => (match s (sw'.set i (some (.exn c fs vs))) h' with
      | .ok (.ret w) h2 => if w.nox = true ∧ h2.all Ob.nox = true then .ok (.ret w) h2 else .no
      | _ => .no)
    | _, _ => .no)
  | r => r
@[simp] theorem x_tryB {cat1 cat : Nat → Option Bool} {i : Nat} {b s : EW} {sw : WS} {h : WH} : sTryB cat1 cat i b s sw h = match b sw h with
  | .exc sw' c fs vs h' => (match cat1 c, cat c with
    | some false, some true => (match s (sw'.set i (some (.exn c fs vs))) h' with
      | .ok (.ret w) h2 => if w.nox = true ∧ h2.all Ob.nox = true then .ok (.ret w) h2 else .no
      | _ => .no)
    | _, _ => .no)
  | r => r := rfl
section
variable {A : Ax} {X : Cx} {N : List Str} {sc : Scope} {Φ : Fns} {n : Nat} {q : Addr × Addr × Option Addr}
end
section
variable {A : Ax} {X : Cx} {N : List Str} {sc : Scope} {e : Expr} {es : List Expr} {aa : EA} {p : Pos}
end
end KW

set_option Elab.async false
set_option linter.all false
set_option maxRecDepth 100000
set_option maxHeartbeats 4000000
/-! x != an own instance, whatever x is -/
namespace KW
open PySem PySem.Spec PyProof.Rows L2
section
variable {A : Ax} {X : Cx} {N : List Str} {sc : Scope} {Φ : Fns} {n : Nat}
/-- what both ways ask of the class at C -/
structure NeC (K : PySem.W.Frag) (C f : Addr) : Prop where
  eq : PySem.W.findIn K (.ref C) "__eq__" = some (some (.ref f))
  fn : PySem.W.isFn K (.ref f) = true
  ne : PySem.W.findIn K (.ref C) "__ne__" = some (some (.builtin "object.__ne__"))
  ob : PySem.W.mroIn K C (.type "object") = some true
end
end KW

set_option Elab.async false
set_option linter.all false
set_option maxRecDepth 100000
set_option maxHeartbeats 4000000
/-! an own exception as a value: made, asked for its class, for its field -/
namespace KW
open PySem PySem.Spec PyProof.Rows L2
section
variable {X : Cx} {e : Expr} {es : List Expr} {ta : TA} {pos p : Pos}
/-- made by place -/
def tMkV (C : Addr) (sp : Sp) (ta : TA) : TE := fun σ H Q => ta σ H fun vs H1 => vs.length ≤ 1000 ∧ ∀ a, H1 a = none → sp (.ref a :: vs) (upd H1 a (exo a C none)) (fun v H2 => v = .non ∧ Q (.ref a) H2) (fun _ _ _ => False)
theorem pe_mkV {CX : CXT} {x : Str} {C fI : Addr} {k : Nat} {fd : FuncData} {ps : List Str} {sp : Sp} (T : OexC X.K C) (iC : PySem.W.findIn X.K (.ref C) "__init__" = some (some (.ref fI))) (tI : PySem.W.typeIn X.K (.ref fI) = some (.type "function"))
    (F1 : FnOk X.prog X.w X.K X.mg X.base CX k fI fd ps sp) (hr : Room (k + 1) X.A) (hb : Binds X.K fd ps []) (hx : Passes CX X (fun _ _ _ => False)) (hg : Gl X x) (hm : X.mg x = some (.ref C)) (ha : PA X (e :: es) ta)
    (hdb : (x == ("__debug__" : Str)) = false) (he : starEach (e :: es) X.env = (false, eval e X.env) :: starEach es X.env := by rfl) (hpl : (backTo pos (starEach es X.env)).any (·.1) = false := by rfl) :
    PE X (.Call (.Name x p) (e :: es) [] pos) (tMkV C sp ta) := by
  refine ⟨fun pins s σ H Q I h => ?_⟩
  obtain ⟨nm, q, N, bs, bm, sn, sub, ab, col, dd, k0, k1, k2, k3, k5, hC, hbm⟩ := T.cls
  refine wpAny_Call_Name_kw (ld_glob I hg hm ?_ hdb)
  refine PySem.W.callWith_K (h₀ := X.base) I.ok.mod.kin T.kC (thn (ha.run pos pins s σ H _ I h) fun us s1 ⟨vs, H1, I1, r1, hz, q1⟩ => ⟨I1.kIn, ?_⟩) he hpl
  show wpAny _ _ (call (.ref C) us) _ _ _
  obtain ⟨hp, g, dr, tk, os⟩ := s1
  have hsz : hp.objs.size ≤ hp.objs.size + 1 := Nat.le_succ _
  have hn : H1 (hp.objs.size + 1) = none := I1.hok.fresh hsz
  have hq := q1 (hp.objs.size + 1) hn
  have kk : ∀ b o, hp.get? b = some o → ((hp.push (PySem.W.kdv_tup us)).push (PySem.HandSPX.excO C hp.objs.size)).get? b = some o := fun b o e => Heap.get?_push_of_some _ (Heap.get?_push_of_some _ e)
  have hget : ((hp.push (PySem.W.kdv_tup us)).push (PySem.HandSPX.excO C hp.objs.size)).get? (hp.objs.size + 1) = some (PySem.HandSPX.excO C hp.objs.size) := by heap_get
  have I2 : Inv X pins σ (upd H1 (hp.objs.size + 1) (exo (hp.objs.size + 1) C none)) ⟨(hp.push (PySem.W.kdv_tup us)).push (PySem.HandSPX.excO C hp.objs.size), g, dr, tk, os⟩ :=
    I1.laid (t' := tk) (a := hp.objs.size + 1) (o := exo (hp.objs.size + 1) C none) (h' := (hp.push (PySem.W.kdv_tup us)).push (PySem.HandSPX.excO C hp.objs.size)) kk hsz (exo_ok hget)
  have r2 : Vals (V.ref (hp.objs.size + 1) :: vs) (Value.ref (hp.objs.size + 1) :: us) := .cons rfl r1
  have hl : (Value.ref (hp.objs.size + 1) :: us ++ []).length = ps.length := by
    have e := r2.length
    rw [F1.len _ _ _ _ hq] at e
    rw [List.append_nil]
    exact e.symm
  have hus : us.length ≤ sizeLine := by
    rw [← Paired.length r1, sizeLine_eq]
    omega
  have hb2 := hb _ (Value.ref (hp.objs.size + 1) :: us) I2.kIn hl
  rw [List.append_nil] at hb2
  refine wpAny_call (PySem.HandSPX.call_own F.excBase_ValueError (fun Y => PySem.HandSPX.refsVE_contains Y bm hbm) (I1.kIn _ _ hC) (PySem.W.looks_findIn I1.kIn iC) (fun self => PySem.W.bind_fn I1.kIn self tI) hus
    (codeAny_mono (F1.run _ X.stack _ _ ⟨Value.ref (hp.objs.size + 1) :: us, []⟩ (Value.ref (hp.objs.size + 1) :: us) _ _ (fun _ _ _ => False) (hr.make C us []) (I2.env0.make C us []) hb2 r2 hq) fun r s' hq' => ?_))
  cases r with
  | error er => exact hx pins σ _ _ er s' I2 hq'
  | ok fl =>
    cases fl with
    | ret u =>
      obtain ⟨v, H', J3, rv, ev, q3⟩ := I2.after hq'
      subst ev
      exact ⟨rv, ⟨V.ref (hp.objs.size + 1), H', J3, rfl, q3⟩⟩
    | next => exact False.elim hq'
    | brk => exact False.elim hq'
    | cont => exact False.elim hq'
/-- made of nothing -/
theorem pe_mkV0 {CX : CXT} {x : Str} {C fI : Addr} {k : Nat} {fd : FuncData} {ps : List Str} (T : OexC X.K C) (iC : PySem.W.findIn X.K (.ref C) "__init__" = some (some (.ref fI))) (tI : PySem.W.typeIn X.K (.ref fI) = some (.type "function"))
    (F1 : FnOk X.prog X.w X.K X.mg X.base CX k fI fd ps (spX0 X.K)) (hr : Room (k + 1) X.A) (hb : Binds X.K fd ps []) (hx : Passes CX X (fun _ _ _ => False)) (hg : Gl X x) (hm : X.mg x = some (.ref C)) (hdb : (x == ("__debug__" : Str)) = false) :
    PE X (.Call (.Name x p) [] [] pos) (fun _ H Q => ∀ a, H a = none → Q (.ref a) (upd H a (exo a C none))) := ⟨fun pins s σ H Q I q => by
  obtain ⟨nm, qn, N, bs, bm, sn, sub, ab, col, dd, k0, k1, k2, k3, k5, hC, hbm⟩ := T.cls
  refine wpAny_Call_Name_kw (ld_glob I hg hm (PySem.W.callWith_K0 I.kIn T.kC ?_) hdb)
  show wpAny _ _ (call (.ref C) []) _ _ _
  obtain ⟨hp, g, dr, tk, os⟩ := s
  have le : hp.objs.size ≤ hp.objs.size + 1 := Nat.le_succ _
  have kk : ∀ b o, hp.get? b = some o → ((hp.push (PySem.W.kdv_tup [])).push (PySem.HandSPX.excO C hp.objs.size)).get? b = some o := fun b o e => Heap.get?_push_of_some _ (Heap.get?_push_of_some _ e)
  have at_ : ((hp.push (PySem.W.kdv_tup [])).push (PySem.HandSPX.excO C hp.objs.size)).get? (hp.objs.size + 1) = some (PySem.HandSPX.excO C hp.objs.size) := by heap_get
  have I2 := I.laid (t' := tk) (a := hp.objs.size + 1) (o := exo (hp.objs.size + 1) C none) (h' := (hp.push (PySem.W.kdv_tup [])).push (PySem.HandSPX.excO C hp.objs.size)) kk le (exo_ok at_)
  have hn : H (hp.objs.size + 1) = none := I.hok.fresh le
  have go : spX0 X.K [.ref (hp.objs.size + 1)] (upd H (hp.objs.size + 1) (exo (hp.objs.size + 1) C none)) (fun v H2 => v = .non ∧ H2 = upd H (hp.objs.size + 1) (exo (hp.objs.size + 1) C none)) (fun _ _ _ => False) := ⟨_, C, rfl, T, upd_same, rfl, rfl⟩
  have rv : Vals [V.ref (hp.objs.size + 1)] [Value.ref (hp.objs.size + 1)] := .cons rfl .nil
  have ln : ([Value.ref (hp.objs.size + 1)] ++ ([] : List Value)).length = ps.length := (F1.len _ _ _ _ go)
  refine wpAny_call (PySem.HandSPX.call_own F.excBase_ValueError (fun Y => PySem.HandSPX.refsVE_contains Y bm hbm) (I.kIn _ _ hC) (PySem.W.looks_findIn I.kIn iC) (fun self => PySem.W.bind_fn I.kIn self tI) (by decide)
    (codeAny_mono (F1.run _ X.stack _ _ ⟨[Value.ref (hp.objs.size + 1)], []⟩ _ _ _ (fun _ _ _ => False) (hr.make C [] []) (I2.env0.make C [] []) (hb _ [Value.ref (hp.objs.size + 1)] I2.kIn ln) rv go) fun r s' z => ?_))
  match r, z with
  | .error er, z => exact hx pins σ _ _ er s' I2 z
  | .ok .next, z => exact z.elim
  | .ok .brk, z => exact z.elim
  | .ok .cont, z => exact z.elim
  | .ok (.ret u), z =>
    obtain ⟨v, H', J3, rv, ev, e3⟩ := I2.after z
    subst ev
    subst e3
    exact ⟨rv, ⟨V.ref (hp.objs.size + 1), _, J3, rfl, q _ hn⟩⟩⟩
end
/-! its class, its field -/
section
variable {X : Cx} {pins : List (Addr × Obj)} {σ : L2.St} {H : Hp} {s : Shared}
theorem exo_inst {a C : Addr} {d : Option Addr} (I : Inv X pins σ H s) (e : H a = some (exo a C d)) (hd : ∀ dd, d = some dd → ∃ fs, H dd = some (exd dd fs)) : ∃ oe od, PySem.W.InstAt s.heap a oe C od := by
  obtain ⟨t1, he⟩ := exo_at I.hok e
  cases d with
  | none => exact ⟨_, none, he, rfl, rfl, trivial⟩
  | some dd =>
    obtain ⟨fs, ed⟩ := hd dd rfl
    obtain ⟨mA, hns, _⟩ := exd_at I.hok ed
    obtain ⟨od, ho, _⟩ := lookIn_ns hns
    exact ⟨_, some od, he, rfl, rfl, ho⟩
def rIsE (K : PySem.W.Frag) : List V → Hp → VK → Prop := fun xs H Q => ∃ (a C : Addr) (d : Option Addr) (c : V) (u : Value) (b : Bool), xs = [.ref a, c] ∧ H a = some (exo a C d) ∧ (∀ dd, d = some dd → ∃ fs, H dd = some (exd dd fs)) ∧ ExcC K C ∧ ClsV c u ∧ PySem.W.kitOne K (.ref C) u = some b ∧ Q (.bl b) H
theorem call_isE : CallR X (.builtin "isinstance") (rIsE X.K) := by
  intro pins s σ H xs us Q I r h
  obtain ⟨a, C, d, c, u, b, rfl, ha, hd, T, hc, e, q⟩ := h
  obtain ⟨u1, u2, rfl, r1, r2⟩ := vals2 r
  cases (show u1 = Value.ref a from r1)
  have e2 := hc.eq r2
  subst e2
  obtain ⟨oe, od, J⟩ := exo_inst I ha hd
  obtain ⟨cd, hcd, _⟩ := PySem.W.any_some T.hd
  exact PySem.W.kia_one (PySem.W.kitx_exc (by rw [hcd]; rfl) T.hg T.hk T.hs T.ha T.hn T.ht T.hm) I.kIn J e (fun z => nomatch z) fun tk => ⟨.bl b, H, I.tok tk, rfl, q⟩
def tXfE (X : Cx) (f : Str) (te : TE) : TE := fun σ H Q => te σ H fun x H1 => ∃ (a C dd : Addr) (fs : List (Str × V)) (v : V), x = .ref a ∧ XfC X.K C ∧ PySem.W.findIn X.K (.ref C) f = some none ∧ H1 a = some (exo a C (some dd)) ∧ H1 dd = some (exd dd fs) ∧ fs.lookup f = some v ∧ Q v H1
theorem pe_xfE {e : Expr} {te : TE} {pos : Pos} {n : Str} (he : PE X e te) (hb : attributeBase e n X.env (eval e X.env) = eval e X.env := by rfl) : PE X (.Attribute e n pos) (tXfE X n te) := by
  refine ⟨fun pins s σ H Q I h => ?_⟩
  refine attr_of hb (thn (he.run pins s σ H _ I h) fun u s1 hh => ?_)
  obtain ⟨x, H1, I1, rx, a, C, dd, fs, v, ex, T, hno, ea, ed, l, q⟩ := hh
  subst ex
  obtain rfl : u = Value.ref a := rx
  obtain ⟨t1, ho⟩ := exo_at I1.hok ea
  obtain ⟨mA, hns, hr⟩ := exd_at I1.hok ed
  obtain ⟨od, hod, hl⟩ := lookIn_ns hns
  obtain ⟨u, hu, ru⟩ := RelO.some_of (v := v) (o := mA n) (by rw [← l]; exact hr n)
  have J : PySem.W.InstAt s1.heap a _ C (some od) := ⟨ho, rfl, rfl, hod⟩
  exact HandSPX.exc_get I1.kIn J T.ga T.gg T.exC (PySem.W.findObj_own T.hdC hno rfl (by rw [hl, hu])) (handed_of ru) ⟨v, H1, I1.tok _, ru, q⟩
end
end KW

set_option Elab.async false
set_option linter.all false
set_option maxRecDepth 100000
set_option maxHeartbeats 2000000
/-! an own exception made by the name of its value -/
namespace PySem
namespace HandSPX
section
variable {M : Model} {A : Around} {E : Value → Shared → Prop} {h : Heap} {g : Array GenState} {d : Drawn} {t : Nat} {os : OsState}
variable {nm q : Str} {C N : Addr} {bs bm bmB : List Value} {hdct : Bool} {sn : List Str} {sub : List Value} {ab : Bool} {col : Option Bool} {dd : Option Addr} {k0 k1 k2 k3 k5 : Option Value} {B newId initId : String}
theorem check_new_kw (F : ExcBaseFacts B newId initId bmB) (hT : ∀ X : String, bm.contains (.type X) = bmB.contains (.type X)) {kw : List (Str × Value)} {Q : Unit → Shared → Prop}
    (hC : h.get? C = some (excClassObj nm q C N bs bm hdct sn sub ab col dd k0 k1 k2 k3 k5 newId)) (hq : Q () ⟨h, g, d, t, os⟩) : wpAny M A (checkBuiltinCall newId ⟨[.ref C], kw⟩) Q E ⟨h, g, d, t, os⟩ := by
  have hcont : (Value.ref C :: bm).contains (.type B) = true := by rw [List.contains_cons, hT, F.hasB, Bool.or_true]
  have hstar := F.noStar
  simp only [checkBuiltinCall, F.newKind, F.newSplit, F.newRow]
  repeat (first | refine wpAny_loadPart_at hC ?_ | (refine wpAny_isSubtype_exc hC ?_; rw [hcont]) | refine wpAny_staticBase_exc hC ?_ | refine wpAny_madeBy_exc hC ?_ | simp only [bne_self_eq_false, Bool.false_eq_true, if_false] | wp_step)
  exact hq
end
section
variable {prog : Program} {w : World} {A : Around} {E : Value → Shared → Prop} {R : Result → Shared → Prop} {h : Heap} {g : Array GenState} {d : Drawn} {t : Nat} {os : OsState}
variable {nm q : Str} {C N : Addr} {bs bm bmB : List Value} {hdct : Bool} {sn : List Str} {sub : List Value} {ab : Bool} {col : Option Bool} {dd : Option Addr} {k0 k1 k2 k3 k5 : Option Value} {B newId initId : String}
theorem new_kw (F : ExcBaseFacts B newId initId bmB) (hT : ∀ X : String, bm.contains (.type X) = bmB.contains (.type X)) {kw : List (Str × Value)}
    (hC : h.get? C = some (excClassObj nm q C N bs bm hdct sn sub ab col dd k0 k1 k2 k3 k5 newId))
    (hq : R (.ok (.ret (.ref (h.objs.size + 1)))) ⟨(h.push { cls := .type "tuple", data := .seq #[] }).push
      { cls := .ref C, data := .fields #[.ref h.objs.size, .none, .none, .none, .bool false, .none] }, g, d, t, os⟩) :
    codeAny (model prog w) A (.builtin newId ⟨[.ref C], kw⟩) R ⟨h, g, d, t, os⟩ := by
  have hends := F.ends
  have hcB : (Value.ref C :: bm).contains (.type B) = true := by rw [List.contains_cons, hT, F.hasB, Bool.or_true]
  have hcA : (Value.ref C :: bm).contains (.type "AttributeError") = false := by rw [List.contains_cons, hT, F.noAttr]; rfl
  have hcN : (Value.ref C :: bm).contains (.type "NameError") = false := by rw [List.contains_cons, hT, F.noName]; rfl
  refine codeAny_builtinAt F.entry ?_
  unfold Builtin.«BaseException.__new__»
  refine wpAt_bind ?_
  show wpAt _ _ _ (stack >>= _) _ _ _
  refine wpAt_bind (wpAt_stack fun p below => wpAt_of_wpAny ?_)
  wp_walk
  refine wpAt_of_wpAny ?_
  rw [F.owner]
  repeat (first | with_reducible refine wpAny_madeHere_exc F.canon hC ?_ | with_reducible refine wpAny_loadPart_at hC ?_ | (with_reducible refine wpAny_isSubtype_exc hC ?_; first | rw [hcB] | rw [hcA] | rw [hcN]) | wp_step)
  show R _ _
  rw [Heap.size_push]
  exact hq
theorem type_call_kw (F : ExcBaseFacts B newId initId bmB) (hT : ∀ X : String, bm.contains (.type X) = bmB.contains (.type X)) {kw : List (Str × Value)} {fI : Addr} {Q : Fin → Shared → Prop}
    (hC : h.get? C = some (excClassObj nm q C N bs bm hdct sn sub ab col dd k0 k1 k2 k3 k5 newId))
    (hi : W.Looks (model prog w) h (typeLookup (.ref C) "__init__") (some (.ref fI))) (hb : ∀ self, W.Looks (model prog w) h (bindSpecial (.ref fI) self) (.ref fI, [self]))
    (hq : codeAny (model prog w) A (.call (.ref fI) ⟨[.ref (h.objs.size + 1)], kw⟩)
      (fun r s' => match r with | .ok (.ret v) => v = .none ∧ Q (.done (.ret (.ref (h.objs.size + 1)))) s' | .ok _ => False | .error e => E e s')
      ⟨(h.push (W.kdv_tup [])).push (excO C h.objs.size), g, d, t, os⟩) :
    wpAny (model prog w) A (Builtin.«type.__call__» ⟨[.ref C], kw⟩) Q E ⟨h, g, d, t, os⟩ := by
  repeat (first | with_reducible refine wpAny_loadPart_at hC ?_ | with_reducible refine wpAny_madeBy_exc hC ?_ | wp_step)
  refine codeAny_call_builtin_code (Code.quiet_builtin _ F.quiet) (check_new_kw F hT hC ?_)
  refine new_kw F hT hC ?_
  show wpAny _ _ _ _ _ _
  have k : ∀ b o, h.get? b = some o → ((h.push (W.kdv_tup [])).push (excO C h.objs.size)).get? b = some o := fun b o e => Heap.get?_push_of_some _ (Heap.get?_push_of_some _ e)
  have hC₁ := k _ _ hC
  have hget : ((h.push (W.kdv_tup [])).push (excO C h.objs.size)).get? (h.objs.size + 1) = some (excO C h.objs.size) := by heap_get
  have hcC : (Value.ref C :: bm).contains (.ref C) = true := by simp
  have i1 := hi.keeps k
  have b1 := (hb (.ref (h.objs.size + 1))).keeps k
  unfold isInstance
  repeat (first | with_reducible refine wpAny_loadPart_at hget ?_ | (with_reducible refine wpAny_isSubtype_exc hC₁ ?_; rw [hcC]) | wp_step)
  show wpAny _ _ (typeLookup (.ref C) _) _ _ _
  refine i1.at ?_
  refine wpAny_holding (wpAny_bind (b1.at ?_))
  refine wpAny_bind (wpAny_call (codeAny_mono hq fun r s' z => ?_))
  rcases r with e | (v | _ | _ | _) <;> first | exact z | exact z.elim | skip
  obtain ⟨rfl, z⟩ := z
  first
    | exact wpAny_pure (wpAny_pure z)
    | (wp_walk; exact z)
theorem call_kw (F : ExcBaseFacts B newId initId bmB) (hT : ∀ X : String, bm.contains (.type X) = bmB.contains (.type X)) {kw : List (Str × Value)} {fI : Addr}
    (hC : h.get? C = some (excClassObj nm q C N bs bm hdct sn sub ab col dd k0 k1 k2 k3 k5 newId))
    (hi : W.Looks (model prog w) h (typeLookup (.ref C) "__init__") (some (.ref fI))) (hb : ∀ self, W.Looks (model prog w) h (bindSpecial (.ref fI) self) (.ref fI, [self]))
    (hq : codeAny (model prog w) (A.under (.builtin "type.__call__" ⟨[.ref C], kw⟩)) (.call (.ref fI) ⟨[.ref (h.objs.size + 1)], kw⟩) (W.InitBack (h.objs.size + 1) R)
      ⟨(h.push (W.kdv_tup [])).push (excO C h.objs.size), g, d, t, os⟩) :
    codeAny (model prog w) A (.call (.ref C) ⟨[], kw⟩) R ⟨h, g, d, t, os⟩ := by
  have f1 := tc_lookup
  have f2 := tc_bind (.ref C)
  have hTy : (⟨h, g, d, t, os⟩ : Shared).TypeIs (.ref C) "type" := ⟨_, hC, rfl⟩
  refine codeAny_of_tree ?_
  show wpAny _ _ (callAny (.ref C) _) _ _ _
  repeat (any_goals (first | assumption | with_reducible refine wpAny_loadPart_at hC ?_ | wp_step))
  refine ⟨rfl, ?_⟩
  refine codeAny_call_builtin_at (Code.quiet_builtin _ (by decide +kernel)) entry_typeCall (wpAny_check_type_call_sub hC (type_call_kw F hT hC hi hb ?_))
  refine codeAny_mono hq fun r s' z => ?_
  rcases r with e | (v | _ | _ | _) <;> exact z
end
end HandSPX
end PySem

set_option Elab.async false
set_option linter.all false
set_option maxRecDepth 100000
set_option maxHeartbeats 4000000
/-! own exceptions as values: made by place, by name, of nothing; their class, their field -/
namespace KW
open PySem PySem.Spec PyProof.Rows L2
section
variable {X : Cx} {e : Expr} {es : List Expr} {te : TE} {pos p kp : Pos}
/-- made by the name of its value -/
def tMkEK (C : Addr) (sp : Sp) (ta : TA) : TE := fun σ H Q => ta σ H fun vs H1 => ∃ v, vs = [v] ∧ ∀ a, H1 a = none → sp [.ref a, v] (upd H1 a (exo a C none)) (fun u H2 => u = .non ∧ Q (.ref a) H2) (fun _ _ _ => False)
theorem pe_mkEK {CX : CXT} {x kn : Str} {C fI : Addr} {k : Nat} {fd : FuncData} {ps : List Str} {sp : Sp} {ta : TA} {kws : List Keyword} (T : OexC X.K C) (iC : PySem.W.findIn X.K (.ref C) "__init__" = some (some (.ref fI))) (tI : PySem.W.typeIn X.K (.ref fI) = some (.type "function"))
    (F1 : FnOk X.prog X.w X.K X.mg X.base CX k fI fd ps sp) (hr : Room (k + 1) X.A) (hb : KwB X.K fd ps 1 [kn] [0, 1]) (hx : Passes CX X (fun _ _ _ => False)) (hg : Gl X x) (hm : X.mg x = some (.ref C)) (ha : PK X kws ta)
    (hdb : (x == ("__debug__" : Str)) = false) (hall : (backToKw pos (keywordEach kws X.env)).all (·.1.isSome) = true) (hks : (backToKw pos (keywordEach kws X.env)).filterMap (·.1) = [kn])
    (hpl : ((backTo pos (starEach [] X.env)).any (·.1) || (backToKw pos (keywordEach kws X.env)).any (·.1.isNone)) = false) :
    PE X (.Call (.Name x p) [] kws pos) (tMkEK C sp ta) := by
  refine ⟨fun pins s σ H Q I h => ?_⟩
  obtain ⟨nm, q, N, bs, bm, sn, sub, ab, col, dd, k0, k1, k2, k3, k5, hC, hbm⟩ := T.cls
  refine wpAny_Call_Name_kw (ld_glob I hg hm ?_ hdb)
  refine PySem.W.callWith_KW0 (h₀ := X.base) I.ok.mod.kin T.kC hall ?_ hpl
  refine thn (ha.run pos pins s σ H _ I h) fun us s1 hu => ?_
  obtain ⟨vs, H1, I1, rs, v, ev, q1⟩ := hu
  subst ev
  refine ⟨I1.kIn, ?_⟩
  rw [hks]
  cases rs with
  | @cons _ u _ ur r1 rr =>
  cases rr
  show wpAny _ _ (call (.ref C) [] [(kn, u)]) _ _ _
  obtain ⟨hp, g, dr, tk, os⟩ := s1
  have hsz : hp.objs.size ≤ hp.objs.size + 1 := Nat.le_succ _
  have hq := q1 (hp.objs.size + 1) (I1.hok.fresh hsz)
  have kk : ∀ b o, hp.get? b = some o → ((hp.push (PySem.W.kdv_tup [])).push (PySem.HandSPX.excO C hp.objs.size)).get? b = some o := fun b o e => Heap.get?_push_of_some _ (Heap.get?_push_of_some _ e)
  have hget : ((hp.push (PySem.W.kdv_tup [])).push (PySem.HandSPX.excO C hp.objs.size)).get? (hp.objs.size + 1) = some (PySem.HandSPX.excO C hp.objs.size) := by heap_get
  have I2 : Inv X pins σ (upd H1 (hp.objs.size + 1) (exo (hp.objs.size + 1) C none)) ⟨(hp.push (PySem.W.kdv_tup [])).push (PySem.HandSPX.excO C hp.objs.size), g, dr, tk, os⟩ :=
    I1.laid (t' := tk) (a := hp.objs.size + 1) (o := exo (hp.objs.size + 1) C none) (h' := (hp.push (PySem.W.kdv_tup [])).push (PySem.HandSPX.excO C hp.objs.size)) kk hsz (exo_ok hget)
  have r2 : Vals [V.ref (hp.objs.size + 1), v] [Value.ref (hp.objs.size + 1), u] := .cons rfl (.cons r1 .nil)
  have hb2 := hb ⟨(hp.push (PySem.W.kdv_tup [])).push (PySem.HandSPX.excO C hp.objs.size), g, dr, tk, os⟩ [Value.ref (hp.objs.size + 1)] [u] I2.kIn rfl rfl
  refine wpAny_call (PySem.HandSPX.call_kw F.excBase_ValueError (fun Y => PySem.HandSPX.refsVE_contains Y bm hbm) (I1.kIn _ _ hC) (PySem.W.looks_findIn I1.kIn iC) (fun self => PySem.W.bind_fn I1.kIn self tI)
    (codeAny_mono (F1.run _ X.stack _ _ ⟨[Value.ref (hp.objs.size + 1)], [(kn, u)]⟩ [Value.ref (hp.objs.size + 1), u] _ _ (fun _ _ _ => False) (hr.make C [] [(kn, u)]) (I2.env0.make C [] [(kn, u)]) hb2 r2 hq) fun r s' hq' => ?_))
  cases r with
  | error er => exact hx pins σ _ _ er s' I2 hq'
  | ok fl =>
    cases fl with
    | ret u =>
      obtain ⟨v, H', J3, rv, ev, q3⟩ := I2.after hq'
      subst ev
      exact ⟨rv, ⟨V.ref (hp.objs.size + 1), H', J3, rfl, q3⟩⟩
    | next => exact False.elim hq'
    | brk => exact False.elim hq'
    | cont => exact False.elim hq'
end
/-! ### meanings -/
def newE (c f : Nat) (w : W) (h : WH) : R W := .ok (.ref h.length) (h ++ [.exo c [f] [w]])
def dMkE (c f : Nat) (a : EV) : EV := fun sw h => (a sw h).bind (newE c f)
def dMkEK (c f : Nat) (ka : EA) : EV := fun sw h => (ka sw h).bind fun us h1 => match us with | [w] => newE c f w h1 | _ => .no
@[simp] theorem x_mkEK {c f : Nat} {ka : EA} {sw : WS} {h : WH} : dMkEK c f ka sw h = (ka sw h).bind fun us h1 => match us with | [w] => newE c f w h1 | _ => .no := rfl
def dMkE0 (c : Nat) : EV := fun sw h => .ok (.ref h.length) (h ++ [.exo c [] []])
@[simp] theorem x_mkE {c f : Nat} {a : EV} {sw : WS} {h : WH} : dMkE c f a sw h = (a sw h).bind fun w h1 => .ok (.ref h1.length) (h1 ++ [.exo c [f] [w]]) := rfl
@[simp] theorem x_mkE0 {c : Nat} {sw : WS} {h : WH} : dMkE0 c sw h = .ok (.ref h.length) (h ++ [.exo c [] []]) := rfl
def exAt (h : WH) : W → Option (Nat × List Nat × List W)
  | .ref r => match h[r]? with
    | some (.exo c fs ws) => some (c, fs, ws)
    | _ => none
  | _ => none
def fIsE (cat : Nat → Option Bool) (isq : Nat → Tq → Option Bool) (t : Tq) (w : W) (h1 : WH) : R W := match exAt h1 w with
  | some (c, _, _) => (match cat c with
    | some _ => (match isq c t with | some b => .ok (.bl b) h1 | none => .no)
    | none => .no)
  | none => .no
def dIsE (cat : Nat → Option Bool) (isq : Nat → Tq → Option Bool) (t : Tq) (a : EV) : EV := fun sw h => (a sw h).bind (fIsE cat isq t)
@[simp] theorem x_isE {cat : Nat → Option Bool} {isq : Nat → Tq → Option Bool} {t : Tq} {a : EV} {sw : WS} {h : WH} : dIsE cat isq t a sw h = (a sw h).bind (fIsE cat isq t) := rfl
def fXfE (cat : Nat → Option Bool) (f : Nat) (w : W) (h1 : WH) : R W := match exAt h1 w with
  | some (c, [g], [u]) => (match cat c with
    | some _ => if f = g then .ok u h1 else .no
    | none => .no)
  | _ => .no
def dXfE (cat : Nat → Option Bool) (f : Nat) (a : EV) : EV := fun sw h => (a sw h).bind (fXfE cat f)
@[simp] theorem x_xfE {cat : Nat → Option Bool} {f : Nat} {a : EV} {sw : WS} {h : WH} : dXfE cat f a sw h = (a sw h).bind (fXfE cat f) := rfl
/-! ### rules -/
section
variable {A : Ax} {X : Cx} {N : List Str} {sc : Scope} {Φ : Fns} {n : Nat} {e o : Expr} {ea : EV} {p pos p2 kp : Pos} {nf : Nat} {isq : Nat → Tq → Option Bool}
theorem laidE {G : Gx} {k : Ka} {H : Hp} {h : WH} {c f : Nat} {C : Addr} {w : W} {v : V} (ec : G.cl c = some C) (hh : HRep G k H h) (r : Rep G k w v) {a dx : Addr} (ha : H a = none) (hd : (upd H a (exo a C none)) dx = none) (ne : dx ≠ a) :
    ∃ k', Nxt k H k' (upd (upd (upd H a (exo a C none)) dx (exd dx [(G.fn f, v)])) a (exo a C (some dx))) ∧ HRep G k' (upd (upd (upd H a (exo a C none)) dx (exd dx [(G.fn f, v)])) a (exo a C (some dx))) (h ++ [.exo c [f] [w]]) ∧ k'.mu[h.length]? = some a := by
  have hd1 : H dx = none := by rw [upd_ne ne] at hd; exact hd
  have eH : upd (upd (upd H a (exo a C none)) dx (exd dx [(G.fn f, v)])) a (exo a C (some dx)) = upd (upd H dx (exd dx [(G.fn f, v)])) a (exo a C (some dx)) := by
    funext b
    by_cases z : b = a
    · subst z; rw [upd_same, upd_same]
    · rw [upd_ne z, upd_ne z]
      by_cases y : b = dx
      · subst y; rw [upd_same, upd_same]
      · rw [upd_ne y, upd_ne y, upd_ne z]
  rw [eH]
  have x1 : HRep G (k.froz dx (exd dx [(G.fn f, v)])) (upd H dx (exd dx [(G.fn f, v)])) h := hh.froz hd1
  have n1 : Nxt k H (k.froz dx (exd dx [(G.fn f, v)])) (upd H dx (exd dx [(G.fn f, v)])) := Nxt.froz hh hd1
  have ha1 : upd H dx (exd dx [(G.fn f, v)]) a = none := by rw [upd_ne ne.symm]; exact ha
  refine ⟨(k.froz dx (exd dx [(G.fn f, v)])).more a, n1.trans (Nxt.more x1 ha1), x1.more ha1 ⟨C, some dx, ec, upd_same, .inr ⟨dx, [(G.fn f, v)], rfl, upd_same, rfl, RepL.one ((r.mono n1.le).mono le_more)⟩⟩ trivial, ?_⟩
  show (k.mu ++ [a])[h.length]? = some a
  rw [← hh.len]; simp
theorem mkE_core {c f : Nat} {C : Addr} {w : W} {v : V} {k : Ka} {H : Hp} {h : WH} {wx : WX} {σ : L2.St} {Q : VK} (T : OexC A.K C) (hno : PySem.W.findIn A.K (.ref C) (A.fn f) = some none) (ec : A.cl c = some C) (hh : HRep A.toGx k H h) (r : Rep A.toGx k w v)
    (d : Den A.toGx (Rep A.toGx) wx k H σ (newE c f w h) Q) : ∀ a, H a = none → spX A.K (A.fn f) [.ref a, v] (upd H a (exo a C none)) (fun u H2 => u = .non ∧ Q (.ref a) H2) (fun _ _ _ => False) := fun a ha => by
  refine ⟨a, C, v, rfl, T, hno, upd_same, fun dx hd ne => ⟨rfl, ?_⟩⟩
  obtain ⟨k', n', x', m⟩ := laidE (f := f) ec hh r ha hd ne
  exact d (.ref a) k' _ n' x' (by simp only [Rep]; exact ⟨a, rfl, m⟩)
theorem we_mkE (x : XOk A N sc X) (C : COk A Φ n X) {c f : Nat} {nm : Str} (hx : A.exf c = some f) (hg : A.gt.lookup nm = some (.cls c)) (h : gloB sc nm = true) (ha : WE A X e ea) (hns : nonStar e = true) :
    WE A X (.Call (.Name nm p) [e] [] pos) (dMkE c f ea) := fun wx tk => by
  obtain ⟨C1, fI, fd, p1, e1, T, iC, tI, hno, F1, hb, _⟩ := C.ex c f hx
  obtain ⟨C2, e2, hm⟩ := x.glob.cls nm c hg
  rw [e1] at e2
  cases e2
  have hK := x.hK
  refine PE_imp (pe_mkV (X := X) (CX := L2.CX X.prog X.w) (sp := spX X.K (A.fn f)) (by rw [hK]; exact T) (by rw [hK]; exact iC) (by rw [hK]; exact tI) (by have := F1.1; rw [← hK] at this; exact this) (C.room.mono (by have := C.lv; omega)) (by rw [hK]; exact hb)
    (passes_no fun _ _ _ _ _ c => cx_no c) (gl_of x (gloB_ok h).1) hm (pa_cons (ha wx tk) pa_nil (star_ok hns)) (gloB_ok h).2.1 (star_ok hns) (stars_any (es := []) rfl)) fun σ H Q t => ?_
  obtain ⟨k, sw, h0, hs, hh, d0⟩ := TEx.bind t
  refine ⟨k, sw, h0, hs, hh, d0.imp fun v H1 ⟨k1, sw1, w, h1, hs1, hh1, r, d1⟩ => ?_⟩
  refine ⟨by show 1 ≤ 1000; decide, fun a na => ?_⟩
  rw [hK]
  exact mkE_core (wx := wx) (σ := σ) T hno e1 hh1 r d1 a na
theorem we_mkEK (x : XOk A N sc X) (C : COk A Φ n X) {c f : Nat} {nm kn : Str} {kws : List Keyword} {ka : EA} (hx : A.exf c = some f) (hk : A.kw (1000 + c) 1 [kn] = some [0, 1]) (hg : A.gt.lookup nm = some (.cls c)) (h : gloB sc nm = true) (ha : WK A X kws ka)
    (hall : (backToKw pos (keywordEach kws X.env)).all (·.1.isSome) = true) (hks : (backToKw pos (keywordEach kws X.env)).filterMap (·.1) = [kn])
    (hpl : ((backTo pos (starEach [] X.env)).any (·.1) || (backToKw pos (keywordEach kws X.env)).any (·.1.isNone)) = false) :
    WE A X (.Call (.Name nm p) [] kws pos) (dMkEK c f ka) := fun wx tk => by
  obtain ⟨C1, fI, fd, p1, e1, T, iC, tI, hno, F1, _, hb⟩ := C.ex c f hx
  obtain ⟨C2, e2, hm⟩ := x.glob.cls nm c hg
  rw [e1] at e2
  cases e2
  have hK := x.hK
  refine PE_imp (pe_mkEK (X := X) (CX := L2.CX X.prog X.w) (sp := spX X.K (A.fn f)) (by rw [hK]; exact T) (by rw [hK]; exact iC) (by rw [hK]; exact tI) (by have := F1.1; rw [← hK] at this; exact this) (C.room.mono (by have := C.lv; omega)) (by rw [hK]; exact hb 1 [kn] _ hk)
    (passes_no fun _ _ _ _ _ c => cx_no c) (gl_of x (gloB_ok h).1) hm (ha wx tk) (gloB_ok h).2.1 hall hks hpl) fun σ H Q t => ?_
  obtain ⟨k, sw, h0, hs, hh, d0⟩ := TAx.bind t
  refine ⟨k, sw, h0, hs, hh, d0.imp fun vs H1 ⟨k1, sw1, ws, h1, hs1, hh1, r, d1⟩ => ?_⟩
  match ws, r, d1 with
  | [w], r, d1 =>
    simp only [RepL] at r
    obtain ⟨v, l, ev, r1, el⟩ := r
    subst el
    subst ev
    refine ⟨v, rfl, fun a na => ?_⟩
    rw [hK]
    exact mkE_core (wx := wx) (σ := σ) T hno e1 hh1 r1 d1 a na
  | [], r, d1 => exact d1.elim
  | _ :: _ :: _, r, d1 => exact d1.elim
theorem we_mkE0 (x : XOk A N sc X) (C : COk A Φ n X) {c : Nat} {nm : Str} (hx : A.ex0 c = true) (hg : A.gt.lookup nm = some (.cls c)) (h : gloB sc nm = true) : WE A X (.Call (.Name nm p) [] [] pos) (dMkE0 c) := fun wx tk => by
  obtain ⟨C1, fI, fd, e1, T, iC, tI, F1, hb⟩ := C.ex0 c hx
  obtain ⟨C2, e2, hm⟩ := x.glob.cls nm c hg
  rw [e1] at e2
  cases e2
  have hK := x.hK
  refine PE_imp (pe_mkV0 (X := X) (CX := L2.CX X.prog X.w) (by rw [hK]; exact T) (by rw [hK]; exact iC) (by rw [hK]; exact tI) (by rw [hK]; exact F1) (C.room.mono (by have := C.lv; omega)) (by rw [hK]; exact hb)
    (passes_no fun _ _ _ _ _ c => cx_no c) (gl_of x (gloB_ok h).1) hm (gloB_ok h).2.1) fun σ H Q ⟨k, sw, h0, hs, hh, d⟩ => fun a na => ?_
  refine d (.ref a) (k.more a) _ (Nxt.more hh na) (hh.more na ⟨C1, none, e1, upd_same, .inl ⟨rfl, rfl, rfl⟩⟩ trivial) ?_
  simp only [Rep]
  refine ⟨a, rfl, ?_⟩
  show (k.mu ++ [a])[h0.length]? = some a
  rw [← hh.len]; simp
/-- what is known of such a thing -/
theorem exAt_of {G : Gx} {k : Ka} {H : Hp} {h : WH} {w : W} {v : V} {c : Nat} {fs : List Nat} {ws : List W} (hh : HRep G k H h) (r : Rep G k w v) (e : exAt h w = some (c, fs, ws)) :
    ∃ a C d, v = .ref a ∧ G.cl c = some C ∧ H a = some (exo a C d) ∧ (∀ dd, d = some dd → ∃ gs, H dd = some (exd dd gs)) ∧ ∀ f u, fs = [f] → ws = [u] → ∃ dd y, d = some dd ∧ H dd = some (exd dd [(G.fn f, y)]) ∧ Rep G k u y := by
  unfold exAt at e
  split at e
  · rename_i i
    split at e
    · rename_i c' fs' ws' ho
      cases e
      simp only [Rep] at r
      obtain ⟨a, rfl, hm⟩ := r
      obtain ⟨C, d, ec, ha, z⟩ := hh.at hm ho
      refine ⟨a, C, d, rfl, ec, ha, fun dd e => ?_, fun f u e3 e4 => ?_⟩
      · rcases z with ⟨z, _, _⟩ | ⟨dx, fvs, z, q, _, _⟩
        · rw [z] at e; cases e
        · rw [z] at e; cases e
          exact ⟨fvs, hh.sub _ _ q⟩
      · subst e3 e4
        rcases z with ⟨_, z, _⟩ | ⟨dx, fvs, z, q, e5, r⟩
        · cases z
        · match fvs, e5, r with
          | [(n1, u1)], e5, r =>
            simp only [List.map_cons, List.map_nil, List.cons.injEq, and_true] at e5
            simp only [List.map_cons, List.map_nil, RepL] at r
            obtain ⟨u', r', e6, r1, e7⟩ := r
            cases e6
            have e5 : n1 = G.fn f := e5
            subst e5
            exact ⟨dx, u1, z, hh.sub _ _ q, r1⟩
          | [], e5, _ => simp at e5
          | _ :: _ :: _, e5, _ => simp at e5
    · cases e
  · cases e
theorem we_isE (x : XOk A N sc X) (EO : ExqOk A nf) (I : IsqOk A isq) (d0 d2 : Nat) {nm : Str} (ha : WE A X o ea)
    (hg : A.gt.lookup ("isinstance" : Str) = some .blt) (h : gloB sc ("isinstance" : Str) = true) (hg2 : A.gt.lookup nm = some (.cls d2)) (h2 : gloB sc nm = true) (h3 : nonStar o = true) :
    WE A X (.Call (.Name "isinstance" p) [o, .Name nm p2] [] pos) (dIsE (fun c => A.sub c d0) isq (.inl d2) ea) := fun wx tk => by
  obtain ⟨D, e1, hm⟩ := x.glob.cls nm d2 hg2
  have hK : X.K = A.K := x.hK
  refine PE_imp (pe_callB (call_isE (X := X)) (gl_of x (gloB_ok h).1) (x.glob.blt _ hg) (by rfl) (pa_cons (ha wx tk) (pa_cons (pe_glob (v := .ref D) (gl_of x (gloB_ok h2).1) hm rfl (gloB_ok h2).2.1) pa_nil rfl) (star_ok h3)) (by decide +kernel) (by decide +kernel) (star_ok h3) rfl) fun σ H Q t => ?_
  obtain ⟨k, sw, h0, hs, hh, d0'⟩ := TEx.bind t
  refine ⟨k, sw, h0, hs, hh, d0'.imp fun v H1 ⟨k1, sw1, w, h1, hs1, hh1, r, d1⟩ => ?_⟩
  unfold fIsE at d1
  split at d1
  · rename_i c fs vs ee
    split at d1
    · rename_i b0 eb
      split at d1
      · rename_i b e
        obtain ⟨a, C, d, rfl, ec, eH, hd, _⟩ := exAt_of hh1 r ee
        have xq := EO _ _ _ _ eb ec
        obtain ⟨C', e2, D', e3, z⟩ := I _ _ _ e
        rw [show A.cl c = some C from ec] at e2; cases e2
        rw [show A.cl d2 = some D from e1] at e3; cases e3
        exact ⟨a, C, d, .ref D, .ref D, b, rfl, eH, hd, by rw [hK]; exact xq.ex, .own D, by rw [hK]; exact z, d1 _ k1 H1 (.refl _ _) hh1 (by simp only [Rep])⟩
      · exact d1.elim
    · exact d1.elim
  · exact d1.elim
theorem we_isEb (x : XOk A N sc X) (EO : ExqOk A nf) (I : IsqOk A isq) (d0 : Nat) {nm : Str} {id : String} (hv : bootBuiltins nm = some (.type id)) (ha : WE A X o ea)
    (hg : A.gt.lookup ("isinstance" : Str) = some .blt) (h : gloB sc ("isinstance" : Str) = true) (hg2 : A.gt.lookup nm = some .blt) (h2 : gloB sc nm = true) (h3 : nonStar o = true) :
    WE A X (.Call (.Name "isinstance" p) [o, .Name nm p2] [] pos) (dIsE (fun c => A.sub c d0) isq (.inr id) ea) := fun wx tk => by
  have hK : X.K = A.K := x.hK
  refine PE_imp (pe_callB (call_isE (X := X)) (gl_of x (gloB_ok h).1) (x.glob.blt _ hg) (by rfl) (pa_cons (ha wx tk) (pa_cons (pe_bltn (v := .ty id) (gl_of x (gloB_ok h2).1) (x.glob.blt _ hg2) hv rfl (gloB_ok h2).2.2 (gloB_ok h2).2.1) pa_nil rfl) (star_ok h3)) (by decide +kernel) (by decide +kernel) (star_ok h3) rfl) fun σ H Q t => ?_
  obtain ⟨k, sw, h0, hs, hh, d0'⟩ := TEx.bind t
  refine ⟨k, sw, h0, hs, hh, d0'.imp fun v H1 ⟨k1, sw1, w, h1, hs1, hh1, r, d1⟩ => ?_⟩
  unfold fIsE at d1
  split at d1
  · rename_i c fs vs ee
    split at d1
    · rename_i b0 eb
      split at d1
      · rename_i b e
        obtain ⟨a, C, d, rfl, ec, eH, hd, _⟩ := exAt_of hh1 r ee
        have xq := EO _ _ _ _ eb ec
        obtain ⟨C', e2, z⟩ := I _ _ _ e
        rw [show A.cl c = some C from ec] at e2; cases e2
        exact ⟨a, C, d, .ty id, .type id, b, rfl, eH, hd, by rw [hK]; exact xq.ex, .ty id, by rw [hK]; exact z, d1 _ k1 H1 (.refl _ _) hh1 (by simp only [Rep])⟩
      · exact d1.elim
    · exact d1.elim
  · exact d1.elim
theorem we_xfE (x : XOk A N sc X) (EO : ExqOk A nf) (d0 f : Nat) {nm : Str} (hn : A.fn f = nm) (hl : f < nf) (ha : WE A X o ea)
    (hb : attributeBase o nm X.env (eval o X.env) = eval o X.env) : WE A X (.Attribute o nm pos) (dXfE (fun c => A.sub c d0) f ea) := fun wx tk => by
  have hK : X.K = A.K := x.hK
  refine PE_imp (pe_xfE (X := X) (ha wx tk) hb) fun σ H Q t => ?_
  obtain ⟨k, sw, h0, hs, hh, d0'⟩ := TEx.bind t
  refine ⟨k, sw, h0, hs, hh, d0'.imp fun v H1 ⟨k1, sw1, w, h1, hs1, hh1, r, d1⟩ => ?_⟩
  unfold fXfE at d1
  split at d1
  · rename_i c g u ee
    split at d1
    · rename_i b0 eb
      split at d1
      · rename_i e
        subst e
        obtain ⟨a, C, d, rfl, ec, eH, hd, z⟩ := exAt_of hh1 r ee
        obtain ⟨dd, y, e1, e2, r2⟩ := z f u rfl rfl
        subst e1
        have xq := EO _ _ _ _ eb ec
        exact ⟨a, C, dd, _, y, rfl, by rw [hK]; exact xq.xf, by rw [hK, ← hn]; exact xq.no f hl, eH, e2, by rw [hn]; simp [List.lookup], d1 _ k1 H1 (.refl _ _) hh1 r2⟩
      · exact d1.elim
    · exact d1.elim
  · exact d1.elim
/-- a row of the table of classes -/
theorem isq_row {K : PySem.W.Frag} {C : Addr} {Ds : List Addr} {row : List Bool} (kq : Ds.map (fun D => PySem.W.kitOne K (.ref C) (.ref D)) = row.map some) {d : Nat} {b : Bool} (h : row[d]? = some b) :
    ∃ D, (Ds.map some).getD d none = some D ∧ PySem.W.kitOne K (.ref C) (.ref D) = some b := by
  have e : (Ds.map (fun D => PySem.W.kitOne K (.ref C) (.ref D)))[d]? = some (some b) := by rw [kq, List.getElem?_map, h]; rfl
  rw [List.getElem?_map] at e
  cases ed : Ds[d]? with
  | none => rw [ed] at e; cases e
  | some D =>
    rw [ed] at e
    exact ⟨D, by rw [List.getD_eq_getElem?_getD, List.getElem?_map, ed]; rfl, by simpa using e⟩
end
end KW

set_option Elab.async false
set_option linter.all false
set_option maxRecDepth 100000
set_option maxHeartbeats 4000000
/-! x == y of two nested things that are alike, dicts of one text within -/
namespace KW
open PySem PySem.Spec PyProof.Rows L2
def oneK : List W → List W → Bool
  | [], ws => ws.isEmpty
  | k :: ks, ws => ks.isEmpty && decide (ws.length = 1) && (match k with | .str _ => true | _ => false)
theorem oneK_of {ks ws : List W} (h : oneK ks ws = true) : (ks = [] ∧ ws = []) ∨ ∃ q w, ks = [.str q] ∧ ws = [w] := by
  cases ks with
  | nil => exact .inl ⟨rfl, List.isEmpty_iff.mp h⟩
  | cons k ks =>
    simp only [oneK, Bool.and_eq_true, decide_eq_true_eq, List.isEmpty_iff] at h
    obtain ⟨⟨rfl, hl⟩, hk⟩ := h
    obtain ⟨w, rfl⟩ := List.length_eq_one_iff.mp hl
    cases k with
    | str q => exact .inr ⟨q, w, rfl, rfl⟩
    | _ => cases hk
mutual
def nstW : W → Bool
  | .non | .bl _ | .int _ => true
  | .str x => (PyData.str x).canLay0
  | .tup ws | .lst ws => nstWs ws
  | .dct ks ws => oneK ks ws && nstWs ws
  | _ => false
def nstWs : List W → Bool
  | [] => true
  | w :: ws => nstW w && nstWs ws
end
mutual
def dpW : W → Nat
  | .tup ws | .lst ws => dpWs ws + 1
  | .dct _ ws => dpWs ws + 1
  | _ => 1
def dpWs : List W → Nat
  | [] => 1
  | w :: ws => max (dpW w) (dpWs ws)
end
section
variable {X : Cx} {pins : List (Addr × Obj)} {σ : L2.St} {H : Hp} {s : Shared} {G : Gx} {k : Ka}
theorem leafT {P : Program} {w : World} {u1 u2 : Value} {d : PyData} {as bs : List Addr} {n : Nat} (r1 : Reads s.heap u1 d as) (r2 : Reads s.heap u2 d bs) (hl : d.canLay0 = true) (hd : d.depth ≤ 1) (hn : 1 ≤ n) : PySem.W.EqTree P w s n u1 u2 true :=
  .leaf fun A hu => by
    have e := SeqAt.eqAt_reads d d A s u1 u2 as bs r1 r2 hl hl (by omega)
    rwa [SeqAt.eqv_refl d hl] at e
theorem all_t (n : Nat) : ((List.range n).all fun _ => true) = true := by simp
theorem dk_nil {p : Addr} (I : Inv X pins σ H s) (h : H p = some (.dK [])) : (p == sysModules) = false ∧ s.heap.DictOf (mixKind X.prog X.w) p [] := by
  obtain ⟨_, y, vs, r, d⟩ := I.hok p _ h
  cases r
  exact ⟨y, d⟩
theorem dk_one {p : Addr} {q : Str} {v : V} (I : Inv X pins σ H s) (h : H p = some (.dK [(.inr q, v)])) : (p == sysModules) = false ∧ ∃ u, RelV v u ∧ s.heap.DictOf (mixKind X.prog X.w) p [(.inr q, u)] := by
  obtain ⟨_, y, vs, r, d⟩ := I.hok p _ h
  cases r with
  | cons a b =>
    cases b
    rename_i z
    obtain ⟨z1, z2⟩ := z
    obtain ⟨e, ru⟩ := a
    cases (show (Sum.inr q : Key) = z1 from e)
    exact ⟨y, z2, ru, d⟩
theorem key1 {q : Str} {kvs : List (Key × V)} {w : W} (e : [W.str q] = kvs.map (fun x => keyW x.1)) (r : RepL G k [w] (kvs.map (·.2))) : ∃ v, kvs = [(.inr q, v)] ∧ Rep G k w v := by
  match kvs, e, r with
  | [(.inr q', v)], e, r =>
    simp only [List.map_cons, List.map_nil, keyW, List.cons.injEq, W.str.injEq, and_true] at e
    subst e
    simp only [List.map_cons, List.map_nil, RepL] at r
    obtain ⟨u, r', e6, r1, e7⟩ := r
    cases e6
    exact ⟨v, rfl, r1⟩
  | [(.inl i, v)], e, r => simp [keyW] at e
  | [], e, r => simp at e
  | _ :: _ :: _, e, r => simp at e
mutual
theorem eqT_of (I : Inv X pins σ H s) (hK : X.K = G.K) (sub : ∀ a o, k.F a = some o → H a = some o) : ∀ {w : W} {v1 v2 : V} {u1 u2 : Value} {n : Nat}, nstW w = true → dpW w ≤ n → Rep G k w v1 → Rep G k w v2 → RelV v1 u1 → RelV v2 u2 → PySem.W.EqTree X.prog X.w s n u1 u2 true
  | .non, _, _, _, _, n, _, hn, r1, r2, h1, h2 => by
    simp only [Rep] at r1 r2; subst r1 r2; cases h1; cases h2; exact .same
  | .bl b, _, _, _, _, n, _, hn, r1, r2, h1, h2 => by
    simp only [Rep] at r1 r2; subst r1 r2; cases h1; cases h2; exact .same
  | .int i, _, _, _, _, n, _, hn, r1, r2, h1, h2 => by
    simp only [Rep] at r1 r2; subst r1 r2
    obtain ⟨t1, rfl⟩ := h1
    obtain ⟨t2, rfl⟩ := h2
    exact leafT (.int i t1) (.int i t2) rfl (by simp [PyData.depth]) (by simpa [dpW] using hn)
  | .str x, _, _, _, _, n, hw, hn, r1, r2, h1, h2 => by
    simp only [Rep] at r1 r2; subst r1 r2
    obtain ⟨t1, rfl⟩ := h1
    obtain ⟨t2, rfl⟩ := h2
    exact leafT (.str x t1) (.str x t2) hw (by simp [PyData.depth]) (by simpa [dpW] using hn)
  | .tup ws, _, _, _, _, n, hw, hn, r1, r2, h1, h2 => by
    simp only [Rep] at r1 r2
    obtain ⟨p1, vs1, rfl, q1, r1⟩ := r1
    obtain ⟨p2, vs2, rfl, q2, r2⟩ := r2
    cases h1; cases h2
    by_cases e : p1 = p2
    · subst e; exact .same
    · obtain ⟨its1, rv1, i1, _⟩ := I.tuple (hK ▸ Ka.Le.seqT sub q1.sq)
      obtain ⟨its2, rv2, i2, _⟩ := I.tuple (hK ▸ Ka.Le.seqT sub q2.sq)
      match n, hn with
      | n + 1, hn =>
        have hn' : dpWs ws ≤ n := by simp only [dpW] at hn; omega
        have t := eqTs_of I hK sub (show nstWs ws = true from hw) hn' r1 r2 rv1 rv2
        have hl : its1.length = its2.length := by rw [← rv1.length, ← rv2.length, r1.length, r2.length]
        have z := PySem.W.EqTree.tuples (prog := X.prog) (w := X.w) (n := n) (e := fun _ => true) e i1 i2 fun j a b => t j (by simpa using a) (by simpa using b)
        have e2 : ((List.range (min its1.toArray.size its2.toArray.size)).all (fun _ => true) && its1.toArray.size == its2.toArray.size) = true := by simp [hl]
        rw [e2] at z
        exact z
      | 0, hn => simp [dpW] at hn
  | .lst ws, _, _, _, _, n, hw, hn, r1, r2, h1, h2 => by
    simp only [Rep] at r1 r2
    obtain ⟨p1, vs1, rfl, q1, r1⟩ := r1
    obtain ⟨p2, vs2, rfl, q2, r2⟩ := r2
    cases h1; cases h2
    by_cases e : p1 = p2
    · subst e; exact .same
    · obtain ⟨its1, rv1, i1, _⟩ := I.list (SqL.of (sub _ _ q1))
      obtain ⟨its2, rv2, i2, _⟩ := I.list (SqL.of (sub _ _ q2))
      match n, hn with
      | n + 1, hn =>
        have hn' : dpWs ws ≤ n := by simp only [dpW] at hn; omega
        have t := eqTs_of I hK sub (show nstWs ws = true from hw) hn' r1 r2 rv1 rv2
        have hl : its1.length = its2.length := by rw [← rv1.length, ← rv2.length, r1.length, r2.length]
        have z := PySem.W.EqTree.lists (prog := X.prog) (w := X.w) (n := n) (e := fun _ => true) e i1.isList i2.isList (by simpa using hl) fun j a b => t j (by simpa using a) (by simpa using b)
        rw [all_t] at z
        exact z
      | 0, hn => simp [dpW] at hn
  | .dct ks ws, _, _, _, _, n, hw, hn, r1, r2, h1, h2 => by
    simp only [Rep] at r1 r2
    obtain ⟨p1, kvs1, rfl, q1, e1, r1⟩ := r1
    obtain ⟨p2, kvs2, rfl, q2, e2, r2⟩ := r2
    cases h1; cases h2
    simp only [nstW, Bool.and_eq_true] at hw
    obtain ⟨hk, hw⟩ := hw
    match n, hn with
    | 0, hn => simp [dpW] at hn
    | n + 1, hn =>
    have hn' : dpWs ws ≤ n := by simp only [dpW] at hn; omega
    have t := fun {vs1 vs2 : List V} {us1 us2 : List Value} (a : RepL G k ws vs1) (b : RepL G k ws vs2) (c : Vals vs1 us1) (d : Vals vs2 us2) => eqTs_of I hK sub hw hn' a b c d
    by_cases e : p1 = p2
    · subst e; exact .same
    · rcases oneK_of hk with ⟨rfl, rfl⟩ | ⟨q, w, rfl, rfl⟩
      · obtain rfl : kvs1 = [] := List.map_eq_nil_iff.mp e1.symm
        obtain rfl : kvs2 = [] := List.map_eq_nil_iff.mp e2.symm
        obtain ⟨y1, d1⟩ := dk_nil I (sub _ _ q1)
        obtain ⟨y2, d2⟩ := dk_nil I (sub _ _ q2)
        exact PySem.W.EqTree.dicts (n := n) (e := fun _ => true) e y1 y2 d1 d2 fun k v y hm => nomatch hm
      · obtain ⟨v1, ek1, a1⟩ := key1 e1 r1
        obtain ⟨v2, ek2, a2⟩ := key1 e2 r2
        subst ek1 ek2
        obtain ⟨y1, u1, s1, d1⟩ := dk_one I (sub _ _ q1)
        obtain ⟨y2, u2, s2, d2⟩ := dk_one I (sub _ _ q2)
        have t := t (.one a1) (.one a2) (Paired.cons s1 .nil) (Paired.cons s2 .nil) 0 (by simp) (by simp)
        have z := PySem.W.EqTree.dicts (n := n) (e := fun _ => true) e y1 y2 d1 d2 fun k v y hm hv => by
          simp only [List.mem_singleton, Prod.mk.injEq] at hm
          obtain ⟨rfl, rfl⟩ := hm
          simp [PySem.valueAt] at hv
          subst hv
          exact t
        have e3 : ((([((.inr q : Key), u1)] : List (Key × Value)).length == ([((.inr q : Key), u2)] : List (Key × Value)).length) && ([((.inr q : Key), u1)] : List (Key × Value)).all fun p => (PySem.valueAt [((.inr q : Key), u2)] p.1).isSome && true) = true := by
          simp [PySem.valueAt]
        rw [e3] at z
        exact z
  | .ins _ _ _, _, _, _, _, n, hw, _, _, _, _, _ => by simp [nstW] at hw
  | .ref _, _, _, _, _, n, hw, _, _, _, _, _ => by simp [nstW] at hw
  | .scr _, _, _, _, _, n, hw, _, _, _, _, _ => by simp [nstW] at hw
  | .exn _ _ _, _, _, _, _, n, hw, _, _, _, _, _ => by simp [nstW] at hw
theorem eqTs_of (I : Inv X pins σ H s) (hK : X.K = G.K) (sub : ∀ a o, k.F a = some o → H a = some o) : ∀ {ws : List W} {vs1 vs2 : List V} {us1 us2 : List Value} {n : Nat}, nstWs ws = true → dpWs ws ≤ n → RepL G k ws vs1 → RepL G k ws vs2 → Vals vs1 us1 → Vals vs2 us2 →
    ∀ j (h1 : j < us1.length) (h2 : j < us2.length), PySem.W.EqTree X.prog X.w s n us1[j] us2[j] true
  | [], _, _, _, _, n, hw, hn, r1, r2, h1, h2 => by
    simp only [RepL] at r1
    subst r1
    cases h1
    exact fun j a => absurd a (by simp)
  | w :: ws, _, _, _, _, n, hw, hn, r1, r2, h1, h2 => by
    simp only [RepL] at r1 r2
    obtain ⟨v1, l1, rfl, a1, b1⟩ := r1
    obtain ⟨v2, l2, rfl, a2, b2⟩ := r2
    cases h1 with
    | cons c1 d1 =>
      cases h2 with
      | cons c2 d2 =>
        simp only [nstWs, Bool.and_eq_true] at hw
        simp only [dpWs] at hn
        intro j x y
        match j, x, y with
        | 0, x, y => exact eqT_of I hK sub hw.1 (by omega) a1 a2 c1 c2
        | j + 1, x, y => exact eqTs_of I hK sub hw.2 (by omega) b1 b2 d1 d2 j (by simpa using x) (by simpa using y)
end
end
/-! ### the rule -/
def boxW : W → Bool
  | .tup _ | .lst _ | .dct _ _ => true
  | _ => false
/-- x == y: alike nested things; else as ever -/
def fEqN (x y : W) (h : WH) : R W := if W.eqb x y && nstW x && boxW x && decide (dpW x ≤ 60) then .ok (.bl true) h else fEq false x y h
def rEqN (K : PySem.W.Frag) : R2 := fun x y H Q => ∃ (G : Gx) (k : Ka) (w : W), K = G.K ∧ (∀ a o, k.F a = some o → H a = some o) ∧ Rep G k w x ∧ Rep G k w y ∧ nstW w = true ∧ boxW w = true ∧ dpW w ≤ 60 ∧ Q (.bl true) H
section
variable {X : Cx}
theorem op_eqN (hu : X.A.units + 64 < cLine) : OpR X (compareOp .Eq) (rEqN X.K) := by
  intro pins s σ H x y v u Q I rx ry h
  obtain ⟨G, k, w, hK, sub, r1, r2, hn, hb, hd, q⟩ := h
  have fin : ∀ b, b = true → EP X pins σ Q (.bool b) s := fun b e => ⟨.bl true, H, I, by rw [e]; rfl, q⟩
  cases w with
  | tup ws =>
    simp only [Rep] at r1 r2
    obtain ⟨p1, vs1, rfl, q1, r1⟩ := r1
    obtain ⟨p2, vs2, rfl, q2, r2⟩ := r2
    cases rx; cases ry
    obtain ⟨its1, rv1, i1, _⟩ := I.tuple (hK ▸ Ka.Le.seqT sub q1.sq)
    obtain ⟨its2, rv2, i2, _⟩ := I.tuple (hK ▸ Ka.Le.seqT sub q2.sq)
    have t := eqTs_of I hK sub (n := 60) (show nstWs ws = true from hn) (by simp only [dpW] at hd; omega) r1 r2 rv1 rv2
    have hl : its1.length = its2.length := by rw [← rv1.length, ← rv2.length, r1.length, r2.length]
    exact PySem.W.eq_tuplesT (prog := X.prog) (w := X.w) (n := 60) (e := fun _ => true) i1 i2 (fun j a b => t j (by simpa using a) (by simpa using b)) (by omega) (fin _ (by simp [hl]))
  | lst ws =>
    simp only [Rep] at r1 r2
    obtain ⟨p1, vs1, rfl, q1, r1⟩ := r1
    obtain ⟨p2, vs2, rfl, q2, r2⟩ := r2
    cases rx; cases ry
    obtain ⟨its1, rv1, i1, _⟩ := I.list (SqL.of (sub _ _ q1))
    obtain ⟨its2, rv2, i2, _⟩ := I.list (SqL.of (sub _ _ q2))
    have t := eqTs_of I hK sub (n := 60) (show nstWs ws = true from hn) (by simp only [dpW] at hd; omega) r1 r2 rv1 rv2
    have hl : its1.length = its2.length := by rw [← rv1.length, ← rv2.length, r1.length, r2.length]
    exact PySem.W.eq_listsT (prog := X.prog) (w := X.w) (n := 60) (e := fun _ => true) i1.isList i2.isList (by simpa using hl) (fun j a b => t j (by simpa using a) (by simpa using b)) (by omega) (fin _ (all_t _))
  | dct ks ws =>
    simp only [Rep] at r1 r2
    obtain ⟨p1, kvs1, rfl, q1, e1, r1⟩ := r1
    obtain ⟨p2, kvs2, rfl, q2, e2, r2⟩ := r2
    cases rx; cases ry
    simp only [nstW, Bool.and_eq_true] at hn
    obtain ⟨hk, hw⟩ := hn
    have t := fun {vs1 vs2 : List V} {us1 us2 : List Value} (a : RepL G k ws vs1) (b : RepL G k ws vs2) (c : Vals vs1 us1) (d : Vals vs2 us2) => eqTs_of (n := 60) I hK sub hw (by simp only [dpW] at hd; omega) a b c d
    rcases oneK_of hk with ⟨rfl, rfl⟩ | ⟨q, w, rfl, rfl⟩
    · obtain rfl : kvs1 = [] := List.map_eq_nil_iff.mp e1.symm
      obtain rfl : kvs2 = [] := List.map_eq_nil_iff.mp e2.symm
      obtain ⟨y1, d1⟩ := dk_nil I (sub _ _ q1)
      obtain ⟨y2, d2⟩ := dk_nil I (sub _ _ q2)
      exact PySem.W.eq_dictsT (n := 60) (e := fun _ => true) y1 y2 d1 d2 (fun k v y hm => nomatch hm) (by omega) (fin _ rfl)
    · obtain ⟨v1, ek1, a1⟩ := key1 e1 r1
      obtain ⟨v2, ek2, a2⟩ := key1 e2 r2
      subst ek1 ek2
      obtain ⟨y1, u1, s1, d1⟩ := dk_one I (sub _ _ q1)
      obtain ⟨y2, u2, s2, d2⟩ := dk_one I (sub _ _ q2)
      have t := t (.one a1) (.one a2) (Paired.cons s1 .nil) (Paired.cons s2 .nil) 0 (by simp) (by simp)
      refine PySem.W.eq_dictsT (n := 60) (e := fun _ => true) y1 y2 d1 d2 (fun k v y hm hv => ?_) (by omega) (fin _ (by simp [PySem.valueAt]))
      simp only [List.mem_singleton, Prod.mk.injEq] at hm
      obtain ⟨rfl, rfl⟩ := hm
      simp [PySem.valueAt] at hv
      subst hv
      exact t
  | _ => cases hb
end
theorem opw_eqN {A : Ax} {X : Cx} (hK : X.K = A.K) : OpW A X (fun x y H Q => rEqN X.K x y H Q ∨ rEqW X.K x y H Q) fEqN := by
  intro wx k H σ h x y u v Q hh rx ry d
  unfold fEqN at d
  split at d
  · rename_i c
    simp only [Bool.and_eq_true, decide_eq_true_eq] at c
    have e := W.eqb_eq c.1.1.1
    subst e
    exact .inl ⟨A.toGx, k, x, hK, hh.sub, rx, ry, c.1.1.2, c.1.2, c.2, den_val hh (by simp only [Rep]) d⟩
  · exact .inr (opw_eq hK wx k H σ h _ _ u v Q hh rx ry d)
theorem op_eqNW {X : Cx} (hu : X.A.units + 64 < cLine) : OpR X (compareOp .Eq) (fun x y H Q => rEqN X.K x y H Q ∨ rEqW X.K x y H Q) := (op_eqN hu).or (op_eqW hu)
end KW

set_option Elab.async false
set_option linter.all false
set_option maxRecDepth 100000
set_option maxHeartbeats 4000000
/-! int(a text) of up to 4300 figures -/
namespace PySem.W
open PySem PySem.Calls PySem.NumText PyProof.Rows
namespace KIN
theorem digits_at {M : Model} {A : Around} {E : Value → Shared → Prop} {s : Shared} {K : Frag} {Q : Nat → Shared → Prop} (X : K.In s.heap) (e : nsIn K cStatics "sys.int_max_str_digits" = some none) (h : Q 4300 s) : wpAny M A Builtin.intMaxStrDigits Q E s := by
  unfold Builtin.intMaxStrDigits
  exact wpAny_bind ((looks_nsIn X e).at (wpAny_pure h))
theorem wp_textL {M : Model} {A : Around} {E : Value → Shared → Prop} {s : Shared} {Q : Value → Shared → Prop} {v : Value} {text : List Nat} {n : Int} (hL : ∀ Q' : Nat → Shared → Prop, Q' 4300 s → wpAny M A Builtin.intMaxStrDigits Q' E s)
    (hs : ¬ (text.takeWhile (· != 0)).length ≤ 640) (hr : (int_private% "readNumeral") 4300 10 (text.takeWhile (· != 0)) = (int_private% "Numeral.value") n)
    (ha : ((text.takeWhile (· != 0)).length == text.length) = true) (h : Q (.int n s.toks) { s with toks := s.toks + 1 }) :
    wpAny M A ((int_private% "intFromText") v text 10) Q E s := by
  obtain ⟨hp, g, d, tk, os⟩ := s
  repeat (any_goals (first
    | assumption
    | (with_reducible refine wpAny_ite_false (decide_eq_false hs) ?_)
    | (with_reducible refine wpAny_ite_true (decide_eq_true ha) ?_)
    | (with_reducible refine hL _ ?_)
    | wp_step))
  all_goals (try rw [hr])
  all_goals (try dsimp only)
  repeat (any_goals (first
    | assumption
    | (with_reducible refine wpAny_ite_true (decide_eq_true ha) ?_)
    | wp_step))
theorem new_textL {M : Model} {A : Around} {E : Value → Shared → Prop} {s : Shared} {Q : Value → Shared → Prop} {x : PySem.Str} {u : Tok} {n : Int} (hL : ∀ Q' : Nat → Shared → Prop, Q' 4300 s → wpAny M A Builtin.intMaxStrDigits Q' E s)
    (hx : x.length ≤ sizeLine) (hn : PySem.intText? x = some n) (h : Q (.int n s.toks) { s with toks := s.toks + 1 }) :
    wpAny M A (Builtin.«int.__new__» ⟨[.type "int", .str x u], []⟩) (fun fin s' => ∃ v, fin = .done (.ret v) ∧ Q v s') E s := by
  obtain ⟨hp, g, d, tk, os⟩ := s
  have f1 := F.conv_sub_int
  have f2 := F.madeHere_int
  have f3 := str_int
  have f4 := str_idx
  have f5 := str_trunc
  have f6 : typeOf (.str x u) = pure (.type "str") := rfl
  have go : ∀ {v : Value} {Q' : Value → Shared → Prop}, Q' (.int n tk) ⟨hp, g, d, tk + 1, os⟩ → wpAny M A ((int_private% "intFromText") v (numTextOf x) 10) Q' E ⟨hp, g, d, tk, os⟩ := fun {v Q'} q => by
    by_cases hs : (numSeenOf x).length ≤ 640
    · rcases read0 x hs with ⟨m, h1, h2, h3⟩ | ⟨h1, _⟩
      · rw [hn] at h1
        injection h1 with h1
        subst h1
        exact wp_text hs h3 h2 q
      · rw [hn] at h1
        cases h1
    · rcases read4300 x hx with ⟨m, h1, h2, h3⟩ | ⟨h1, _⟩
      · rw [hn] at h1
        injection h1 with h1
        subst h1
        exact wp_textL hL hs h3 h2 q
      · rw [hn] at h1
        cases h1
  have hk := Hid.mk hn
  clear hn hL hx
  repeat (any_goals (first
    | assumption
    | ((with_reducible show wpAny _ _ ((int_private% "intFromText") _ _ _) _ _ _); refine go ?_)
    | wp_step))
  all_goals first | exact ⟨_, rfl, h⟩ | skip
section
variable {prog : Program} {w : World} {A : Around} {E : Value → Shared → Prop} {s : Shared} {Q : Value → Shared → Prop} {x : PySem.Str} {t : Tok} {n : Int} {K : Frag}
theorem call_textL (X : K.In s.heap) (e : nsIn K cStatics "sys.int_max_str_digits" = some none) (hn : PySem.intText? x = some n) (hl : x.length ≤ sizeLine) (h : Q (.int n s.toks) { s with toks := s.toks + 1 }) : wpAny (model prog w) A (call (.type "int") [.str x t]) Q E s :=
  call_int_1 (S := fun A R s => K.In s.heap ∧ R (.ok (.ret (.int n s.toks))) { s with toks := s.toks + 1 })
    (fun prog w A R s h => wpAny_mono (new_textL (Q := fun v s' => R (.ok (.ret v)) s') (fun Q' q => digits_at h.1 e q) hl hn h.2) (fun fin s' z => by obtain ⟨v, rfl, hv⟩ := z; exact hv) fun _ _ z => z)
    ⟨X, rfl, h⟩
end
end KIN
end PySem.W
namespace KW
open PySem PySem.Spec PyProof.Rows L2
/-- what the written part says of the limit of figures -/
def IdOk (A : Ax) : Prop := PySem.W.nsIn A.K cStatics "sys.int_max_str_digits" = some none
theorem call_intL {X : Cx} (e : PySem.W.nsIn X.K cStatics "sys.int_max_str_digits" = some none) : CallR X (.type "int") (fun xs H Q => ∃ a n, xs = [.str a] ∧ PySem.intText? a = some n ∧ a.length ≤ sizeLine ∧ Q (.int n) H) := by
  intro pins s σ H xs us Q I rs h
  obtain ⟨a, n, rfl, hn, hl, h⟩ := h
  cases rs with
  | cons r1 rs =>
    cases rs
    obtain ⟨t, rfl⟩ := r1
    exact PySem.W.KIN.call_textL I.kIn e hn hl ⟨.int n, H, I.tok _, ⟨_, rfl⟩, h⟩
def bIntL (ws : List W) (h : WH) : R W := match ws with
  | [.str s] => (match PySem.intText? s with | some n => if s.length ≤ lim then .ok (.int n) h else .no | none => .no)
  | _ => .no
theorem cw_intL {A : Ax} {X : Cx} : CallW A X (fun xs H Q => ∃ a n, xs = [.str a] ∧ PySem.intText? a = some n ∧ a.length ≤ sizeLine ∧ Q (.int n) H) bIntL := by
  intro wx k H σ h ws vs Q hh r d
  unfold bIntL at d
  split at d
  · obtain ⟨v, rfl, r1⟩ := rep1 r
    simp only [Rep] at r1
    subst r1
    split at d
    · split at d
      · rename_i n e hl
        exact ⟨_, _, rfl, e, lim_le hl, den_val hh (by simp only [Rep]) d⟩
      · exact d.elim
    · exact d.elim
  · exact d.elim
section
variable {A : Ax} {X : Cx} {N : List Str} {sc : Scope} {e : Expr} {es : List Expr} {aa : EA} {p pos : Pos}
theorem b_intL (x : XOk A N sc X) (ID : IdOk A) (hg : A.gt.lookup ("int" : Str) = some .blt) (h : gloB sc ("int" : Str) = true) (ha : WA A X (e :: es) aa) (h3 : (e :: es).all nonStar = true) : WE A X (.Call (.Name "int" p) (e :: es) [] pos) (dBi bIntL aa) := bT x (call_intL (by rw [x.hK]; exact ID)) cw_intL (by rfl) hg h ha h3
end
end KW

set_option Elab.async false
set_option linter.all false
set_option maxRecDepth 100000
set_option maxHeartbeats 4000000
/-! plain things, no program in sight -/
namespace KW.P
open PySem L2 KW TL
noncomputable abbrev cl (x : Str) : List Nat := x.cps.toList
theorem cl_app (x y : Str) : cl (x ++ y) = cl x ++ cl y := by
  show (x.cps ++ y.cps).toList = _
  simp
theorem cl_len (x : Str) : x.length = (cl x).length := by simp [Str.length]
section
variable {h : WH} {r : Nat} {x y : Ob} {o o' : Ob} {e : WH}
end
theorem rng_get {i n : Nat} {w : W} (h : (rngW 0 n)[i]? = some w) : w = .int (i : Int) ∧ i < n := by
  have hi : i < n := by
    have := (List.getElem?_eq_some_iff.mp h).1
    simpa [rngW] using this
  simp only [rngW, List.getElem?_map, List.getElem?_range hi, Option.map_some, Option.some.injEq] at h
  exact ⟨by rw [← h]; simp, hi⟩
theorem bls_rep {n : Nat} : blsOf (List.replicate n (.bl true)) = some (List.replicate n true) := by
  induction n with
  | zero => rfl
  | succ n ih => simp [List.replicate_succ, blsOf, ih]
theorem ref_gc {h h' : WH} {r : Nat} (hr : h.length ≤ r) : gc h.length (.ref r) h h' = h' := by
  unfold gc
  rw [if_neg]
  simp [W.lt]; omega
end KW.P

set_option linter.all false
set_option maxRecDepth 100000
set_option maxHeartbeats 4000000
/-! data of any kind: written out, and how long they are then -/
namespace KW
open PySem L2 TL
noncomputable def Sh (x : W) : Prop := ∃ d, x.datD = some d ∧ showB d = true
structure Sm (L D : Nat) (w : W) (d : PyData) : Prop where
  e : w.datD = some d
  s : d.showable = true
  p : d.depth ≤ D
  n : d.shown.length ≤ L
  l : ∀ n, w.lt n = true
noncomputable def Sx (L D : Nat) (w : W) : Prop := ∃ d, Sm L D w d
theorem Sx.mono {L D L' D' : Nat} {w : W} (h : Sx L D w) (l : L ≤ L') (m : D ≤ D') : Sx L' D' w := let ⟨d, q⟩ := h; ⟨d, q.e, q.s, Nat.le_trans q.p m, Nat.le_trans q.n l, q.l⟩
theorem Sx.sh {L D : Nat} {w : W} (h : Sx L D w) (l : L ≤ lim) (m : D ≤ 60) : Sh w := by
  obtain ⟨d, q⟩ := h
  refine ⟨d, q.e, ?_⟩
  simp only [showB, q.s, Bool.true_and, Bool.and_eq_true, decide_eq_true_eq]
  exact ⟨Nat.le_trans q.p m, Nat.le_trans q.n l⟩
/-! data without dicts: they can be compared, too -/
mutual
theorem dat_datD : ∀ {w : W} {d : PyData}, w.dat = some d → w.datD = some d
  | .non, _, e => by simpa only [W.dat, W.datD] using e
  | .bl _, _, e => by simpa only [W.dat, W.datD] using e
  | .int _, _, e => by simpa only [W.dat, W.datD] using e
  | .str _, _, e => by simpa only [W.dat, W.datD] using e
  | .tup ws, _, e => by
    simp only [W.dat, Option.map_eq_some_iff] at e
    obtain ⟨ds, e, rfl⟩ := e
    simp only [W.datD, dats_datDs e, Option.map_some]
  | .lst ws, _, e => by
    simp only [W.dat, Option.map_eq_some_iff] at e
    obtain ⟨ds, e, rfl⟩ := e
    simp only [W.datD, dats_datDs e, Option.map_some]
  | .dct _ _, _, e => by simp [W.dat] at e
  | .ins _ _ _, _, e => by simp [W.dat] at e
  | .ref _, _, e => by simp [W.dat] at e
  | .scr _, _, e => by simp [W.dat] at e
  | .exn _ _ _, _, e => by simp [W.dat] at e
theorem dats_datDs : ∀ {ws : List W} {ds : List PyData}, W.dats ws = some ds → W.datDs ws = some ds
  | [], _, e => by simpa only [W.dats, W.datDs] using e
  | w :: ws, _, e => by
    simp only [W.dats] at e
    split at e
    · rename_i e1 e2
      cases e
      simp only [W.datDs, dat_datD e1, dats_datDs e2]
    · cases e
end
mutual
theorem dat_lt {n : Nat} : ∀ {w : W} {d : PyData}, w.dat = some d → w.lt n = true
  | .non, _, _ => rfl
  | .bl _, _, _ => rfl
  | .int _, _, _ => rfl
  | .str _, _, _ => rfl
  | .tup ws, _, e => by
    simp only [W.dat, Option.map_eq_some_iff] at e
    obtain ⟨ds, e, rfl⟩ := e
    simp only [W.lt]; exact dats_lt e
  | .lst ws, _, e => by
    simp only [W.dat, Option.map_eq_some_iff] at e
    obtain ⟨ds, e, rfl⟩ := e
    simp only [W.lt]; exact dats_lt e
  | .dct _ _, _, e => by simp [W.dat] at e
  | .ins _ _ _, _, e => by simp [W.dat] at e
  | .ref _, _, e => by simp [W.dat] at e
  | .scr _, _, e => by simp [W.dat] at e
  | .exn _ _ _, _, e => by simp [W.dat] at e
theorem dats_lt {n : Nat} : ∀ {ws : List W} {ds : List PyData}, W.dats ws = some ds → W.lts n ws = true
  | [], _, _ => rfl
  | w :: ws, _, e => by
    simp only [W.dats] at e
    split at e
    · rename_i e1 e2
      simp only [W.lts, dat_lt e1, dats_lt e2, Bool.and_self]
    · cases e
end
structure Nx (L D : Nat) (w : W) (d : PyData) : Prop where
  e : w.dat = some d
  c : d.canLay0 = true
  s : d.showable = true
  p : d.depth ≤ D
  n : d.shown.length ≤ L
noncomputable def Nk (L D : Nat) (w : W) : Prop := ∃ d, Nx L D w d
theorem Nk.mono {L D L' D' : Nat} {w : W} (h : Nk L D w) (l : L ≤ L') (m : D ≤ D') : Nk L' D' w := let ⟨d, q⟩ := h; ⟨d, q.e, q.c, q.s, Nat.le_trans q.p m, Nat.le_trans q.n l⟩
end KW

set_option linter.all false
set_option maxRecDepth 100000
set_option maxHeartbeats 4000000
/-! the text of plain data is a right text -/
namespace KW
open PySem L2 PyProof.Rows
theorem chr_ok (c : Char) : c.toNat < 0x110000 := by
  have := c.valid
  have e : c.val.toNat = c.toNat := rfl
  simp only [UInt32.isValidChar, Nat.isValidChar] at this
  omega
theorem ofs_ok (s : String) : ∀ c ∈ (Str.ofString s).cps.toList, c < 0x110000 := by
  intro c hc
  rw [signs_ofString] at hc
  obtain ⟨ch, _, rfl⟩ := List.mem_map.mp hc
  exact chr_ok ch
theorem hex_ok (c w : Nat) : ∀ x ∈ List.replicate (w - ((Nat.toDigits 16 c).map Char.toNat).length) 48 ++ (Nat.toDigits 16 c).map Char.toNat, x < 0x110000 := by
  intro x hx
  rcases List.mem_append.mp hx with h | h
  · rw [(List.mem_replicate.mp h).2]; decide
  · obtain ⟨ch, _, rfl⟩ := List.mem_map.mp h
    exact chr_ok ch
theorem rch_ok {q c : Nat} (hc : c < 0x110000) : ∀ x ∈ Builtin.Str.reprChar q c, x < 0x110000 := by
  intro x hx
  unfold Builtin.Str.reprChar at hx
  simp only [] at hx
  split at hx
  · simp only [List.mem_cons, List.not_mem_nil, or_false] at hx
    rcases hx with rfl | rfl
    · decide
    · exact hc
  split at hx
  · simp only [List.mem_cons, List.not_mem_nil, or_false] at hx
    rcases hx with rfl | rfl <;> decide
  split at hx
  · simp only [List.mem_cons, List.not_mem_nil, or_false] at hx
    rcases hx with rfl | rfl <;> decide
  split at hx
  · simp only [List.mem_cons, List.not_mem_nil, or_false] at hx
    rcases hx with rfl | rfl <;> decide
  split at hx
  · rw [List.mem_singleton.mp hx]; exact hc
  all_goals repeat' split at hx
  all_goals
    simp only [List.mem_append, List.mem_cons, List.not_mem_nil, or_false] at hx
    rcases hx with (rfl | rfl) | h
    · decide
    · decide
    · exact hex_ok c _ x (List.mem_append.mpr h)
theorem fold_ok {q : Nat} : ∀ (l : List Nat) (acc : Array Nat), (∀ c ∈ l, c < 0x110000) → (∀ c ∈ acc.toList, c < 0x110000) → ∀ c ∈ (l.foldl (fun out c => out ++ (Builtin.Str.reprChar q c).toArray) acc).toList, c < 0x110000
  | [], _, _, h => h
  | c :: l, acc, hl, h => by
    rw [List.foldl_cons]
    refine fold_ok l _ (fun d hd => hl d (List.mem_cons_of_mem _ hd)) fun d hd => ?_
    rw [Array.toList_append, List.mem_append] at hd
    rcases hd with hd | hd
    · exact h d hd
    · exact rch_ok (hl c (List.mem_cons_self ..)) d (by simpa using hd)
theorem rq_ok (x : Str) : reprQuote x < 0x110000 := by unfold reprQuote; split <;> decide
theorem rtx_ok {x : Str} (h : ∀ c ∈ x.cps.toList, c < 0x110000) : ∀ c ∈ (reprText x).cps.toList, c < 0x110000 := by
  intro c hc
  unfold reprText at hc
  simp only [Array.toList_push, List.mem_append, List.mem_singleton, ← Array.foldl_toList] at hc
  rcases hc with hc | rfl
  · exact fold_ok _ _ h (fun d hd => by simp at hd; rw [hd]; exact rq_ok x) c hc
  · exact rq_ok x
theorem join_ok {ts : List Str} (h : ∀ t ∈ ts, ∀ c ∈ t.cps.toList, c < 0x110000) : ∀ c ∈ (Str.join (", " : String) ts).cps.toList, c < 0x110000 := by
  intro c hc
  rcases (mem_join _ c ts).mp hc with ⟨t, ht, h2⟩ | ⟨_, h2⟩
  · exact h t ht c h2
  · exact ofs_ok _ c h2
mutual
theorem sho_ok : ∀ d : PyData, d.canLay0 = true → ∀ c ∈ d.shown.cps.toList, c < 0x110000
  | .none, _ => by rw [PyData.shown_none]; exact ofs_ok _
  | .bool b, _ => by rw [PyData.shown_bool]; cases b <;> exact ofs_ok _
  | .int i, _ => by rw [PyData.shown_int]; exact ofs_ok _
  | .str x, h => by
    rw [PyData.shown_str]
    refine rtx_ok fun c hc => ?_
    have h2 : PyData.strOk x = true := by simpa only [PyData.canLay0] using h
    have h3 := Array.all_eq_true_iff_forall_mem.mp h2 c (Array.mem_toList_iff.mp hc)
    simpa using h3
  | .list xs, h => by
    rw [PyData.shown_list]
    intro c hc
    rw [mem_cps_append, mem_cps_append] at hc
    rcases hc with (hc | hc) | hc
    · exact ofs_ok _ c hc
    · exact join_ok (shos_ok xs (by simpa only [PyData.canLay0] using h)) c hc
    · exact ofs_ok _ c hc
  | .tuple xs, h => by
    rw [PyData.shown_tuple]
    intro c hc
    rw [mem_cps_append, mem_cps_append] at hc
    rcases hc with (hc | hc) | hc
    · exact ofs_ok _ c hc
    · exact join_ok (shos_ok xs (by simpa only [PyData.canLay0] using h)) c hc
    · exact ofs_ok _ c hc
  | .dict _, h => by simp [PyData.canLay0] at h
theorem shos_ok : ∀ ds : List PyData, PyData.canLayAll0 ds = true → ∀ t ∈ PyData.shownAll ds, ∀ c ∈ t.cps.toList, c < 0x110000
  | [], _ => by rw [PyData.shownAll_nil]; simp
  | d :: ds, h => by
    simp only [PyData.canLayAll0, Bool.and_eq_true] at h
    rw [PyData.shownAll_cons]
    intro t ht
    rcases List.mem_cons.mp ht with rfl | ht
    · exact sho_ok d h.1
    · exact shos_ok ds h.2 t ht
end
end KW
namespace KW.P
open PySem L2 KW TL
end KW.P

set_option Elab.async false
set_option linter.all false
set_option maxRecDepth 100000
set_option maxHeartbeats 4000000
set_option pp.maxSteps 300
namespace KW.P
open PySem L2 KW
noncomputable def top (i : Nat) : Stmt := PySem.Challenge.pw_knockamid_k50_refusals_by_their_classes.main.body.getD i (.Pass ⟨0, 0, 0, 0⟩)
noncomputable abbrev i_L_pot : Nat := 0
noncomputable abbrev i_L_take : Nat := 1
noncomputable abbrev i_L_of : Nat := 2
noncomputable abbrev i_L_kinds : Nat := 3
noncomputable abbrev i_L_any : Nat := 4
noncomputable abbrev i_L_is_same : Nat := 5
noncomputable abbrev i_L_of_place : Nat := 6
noncomputable abbrev i_L_of_name : Nat := 7
noncomputable abbrev i_L_values : Nat := 8
noncomputable abbrev i_L_law : Nat := 9
noncomputable abbrev c_KnockError : Nat := 0
noncomputable abbrev c_NoFace : Nat := 1
noncomputable abbrev c_BadHouse : Nat := 2
noncomputable abbrev c_NoMove : Nat := 3
noncomputable abbrev c_NoTalk : Nat := 4
noncomputable abbrev c_NoText : Nat := 5
noncomputable abbrev c_TooLong : Nat := 6
noncomputable abbrev c_TooMany : Nat := 7
noncomputable abbrev c_NoRow : Nat := 8
noncomputable abbrev c_NoLine : Nat := 9
noncomputable abbrev c_NoLink : Nat := 10
noncomputable abbrev c_NoPair : Nat := 11
noncomputable abbrev c_NoPaper : Nat := 12
noncomputable abbrev c_NoMoment : Nat := 13
noncomputable abbrev c_NoSeam : Nat := 14
noncomputable abbrev c_NoBack : Nat := 15
noncomputable abbrev c_Dead : Nat := 16
noncomputable abbrev fl_field : Nat := 0
noncomputable abbrev fl_move : Nat := 1
noncomputable abbrev fl_at : Nat := 2
noncomputable abbrev fl_row : Nat := 3
noncomputable abbrev fl_moves : Nat := 4
noncomputable abbrev fl_many : Nat := 5
noncomputable abbrev fl_line : Nat := 6
noncomputable abbrev xt_NoFace : Stmt := inClass (top 2) 0
noncomputable abbrev xt_BadHouse : Stmt := inClass (top 3) 0
noncomputable abbrev xt_NoMove : Stmt := inClass (top 4) 0
noncomputable abbrev xt_NoTalk : Stmt := inClass (top 5) 0
noncomputable abbrev xt_NoText : Stmt := inClass (top 6) 0
noncomputable abbrev xt_TooLong : Stmt := inClass (top 7) 0
noncomputable abbrev xt_TooMany : Stmt := inClass (top 8) 0
noncomputable abbrev xt_NoRow : Stmt := inClass (top 9) 0
noncomputable abbrev xt_NoLine : Stmt := inClass (top 10) 0
noncomputable abbrev xt_NoLink : Stmt := inClass (top 11) 0
noncomputable abbrev xt_NoPair : Stmt := inClass (top 12) 0
noncomputable abbrev xt_NoPaper : Stmt := inClass (top 13) 0
noncomputable abbrev xt_NoMoment : Stmt := inClass (top 14) 0
noncomputable abbrev xt_NoSeam : Stmt := inClass (top 15) 0
noncomputable abbrev xt_NoBack : Stmt := inClass (top 16) 0
noncomputable abbrev xt_Dead : Stmt := inClass (top 17) 0
noncomputable def gtab : List (Str × Gk) := [(("BadHouse" : Str), .cls c_BadHouse),
  (("Dead" : Str), .cls c_Dead),
  (("KnockError" : Str), .cls c_KnockError),
  (("NoBack" : Str), .cls c_NoBack),
  (("NoFace" : Str), .cls c_NoFace),
  (("NoLine" : Str), .cls c_NoLine),
  (("NoLink" : Str), .cls c_NoLink),
  (("NoMoment" : Str), .cls c_NoMoment),
  (("NoMove" : Str), .cls c_NoMove),
  (("NoPair" : Str), .cls c_NoPair),
  (("NoPaper" : Str), .cls c_NoPaper),
  (("NoRow" : Str), .cls c_NoRow),
  (("NoSeam" : Str), .cls c_NoSeam),
  (("NoTalk" : Str), .cls c_NoTalk),
  (("NoText" : Str), .cls c_NoText),
  (("TooLong" : Str), .cls c_TooLong),
  (("TooMany" : Str), .cls c_TooMany),
  (("ValueError" : Str), .blt),
  (("_law_any" : Str), .fn i_L_any),
  (("_law_is_same" : Str), .fn i_L_is_same),
  (("_law_kinds" : Str), .fn i_L_kinds),
  (("_law_of" : Str), .fn i_L_of),
  (("_law_of_name" : Str), .fn i_L_of_name),
  (("_law_of_place" : Str), .fn i_L_of_place),
  (("_law_pot" : Str), .fn i_L_pot),
  (("_law_take" : Str), .fn i_L_take),
  (("_law_values" : Str), .fn i_L_values),
  (("abs" : Str), .blt),
  (("all" : Str), .blt),
  (("bool" : Str), .blt),
  (("enumerate" : Str), .blt),
  (("int" : Str), .blt),
  (("isinstance" : Str), .blt),
  (("len" : Str), .blt),
  (("list" : Str), .blt),
  (("max" : Str), .blt),
  (("min" : Str), .blt),
  (("range" : Str), .blt),
  (("zip" : Str), .blt)]
noncomputable def fnmT (i : Nat) : Str := (["field", "move", "at", "row", "moves", "many", "line"] : List Str).getD i "_"
noncomputable def mnT (i : Nat) : Str := ([] : List Str).getD i "_"
noncomputable def layT : Nat → Nat → Bool

  | _, _ => false
noncomputable def iniT : Nat → Option Nat

  | _ => none
noncomputable def mtT : Nat → Nat → Option Nat

  | _, _ => none
noncomputable def valT : Nat → Bool

  | _ => false
noncomputable def exfT : Nat → Option Nat
  | 1 => some fl_field
  | 2 => some fl_field
  | 3 => some fl_move
  | 4 => some fl_at
  | 5 => some fl_row
  | 6 => some fl_moves
  | 7 => some fl_many
  | 8 => some fl_row
  | 9 => some fl_line
  | _ => none
noncomputable def ex0T : Nat → Bool
  | 10 => true
  | 11 => true
  | 12 => true
  | 13 => true
  | 14 => true
  | 15 => true
  | 16 => true
  | _ => false
noncomputable def subT : Nat → Nat → Option Bool
  | 1, 0 => some true
  | 2, 0 => some true
  | 3, 0 => some true
  | 4, 0 => some true
  | 5, 0 => some true
  | 6, 0 => some true
  | 7, 0 => some true
  | 8, 0 => some true
  | 9, 0 => some true
  | 10, 0 => some true
  | 11, 0 => some true
  | 12, 0 => some true
  | 13, 0 => some true
  | 14, 0 => some true
  | 15, 0 => some true
  | 16, 0 => some true
  | _, _ => none
noncomputable def isaT : Ty → Nat → Option Bool

  | _, _ => none
noncomputable def isqR : Nat → List Bool
  | 1 => [true, true, false, false, false, false, false, false, false, false, false, false, false, false, false, false, false]
  | 2 => [true, false, true, false, false, false, false, false, false, false, false, false, false, false, false, false, false]
  | 3 => [true, false, false, true, false, false, false, false, false, false, false, false, false, false, false, false, false]
  | 4 => [true, false, false, false, true, false, false, false, false, false, false, false, false, false, false, false, false]
  | 5 => [true, false, false, false, false, true, false, false, false, false, false, false, false, false, false, false, false]
  | 6 => [true, false, false, false, false, false, true, false, false, false, false, false, false, false, false, false, false]
  | 7 => [true, false, false, false, false, false, false, true, false, false, false, false, false, false, false, false, false]
  | 8 => [true, false, false, false, false, false, false, false, true, false, false, false, false, false, false, false, false]
  | 9 => [true, false, false, false, false, false, false, false, false, true, false, false, false, false, false, false, false]
  | 10 => [true, false, false, false, false, false, false, false, false, false, true, false, false, false, false, false, false]
  | 11 => [true, false, false, false, false, false, false, false, false, false, false, true, false, false, false, false, false]
  | 12 => [true, false, false, false, false, false, false, false, false, false, false, false, true, false, false, false, false]
  | 13 => [true, false, false, false, false, false, false, false, false, false, false, false, false, true, false, false, false]
  | 14 => [true, false, false, false, false, false, false, false, false, false, false, false, false, false, true, false, false]
  | 15 => [true, false, false, false, false, false, false, false, false, false, false, false, false, false, false, true, false]
  | 16 => [true, false, false, false, false, false, false, false, false, false, false, false, false, false, false, false, true]
  | _ => []
noncomputable def isqT (c : Nat) (t : Tq) : Option Bool := match t with
  | .inl d => (isqR c)[d]?
  | .inr s => if s = "ValueError" then (match isqR c with | [] => none | _ => some true) else none
noncomputable def pnT : Nat → Option Str
  | 1 => some "field"
  | 2 => some "field"
  | 3 => some "move"
  | 4 => some "at"
  | 5 => some "row"
  | 6 => some "moves"
  | 7 => some "many"
  | 8 => some "row"
  | 9 => some "line"
  | _ => none
noncomputable def kwT (f m : Nat) (ks : List Str) : Option (List Nat) :=
  if 1000 ≤ f then (match pnT (f - 1000) with | some p => if m = 1 ∧ ks = [p] then some [0, 1] else none | none => none) else none
theorem kwx {c m : Nat} {ks : List Str} {pm : List Nat} {p : Str} (hp : pnT c = some p) (h : kwT (1000 + c) m ks = some pm) : m = 1 ∧ ks = [p] ∧ pm = [0, 1] := by
  unfold kwT at h
  rw [if_pos (by omega), Nat.add_sub_cancel_left, hp] at h
  dsimp only at h
  split at h
  · rename_i z
    cases h
    exact ⟨z.1, z.2, rfl⟩
  · cases h
noncomputable def kwoT (i : Nat) : Bool := false
noncomputable def kwcT (f m : Nat) : Option Int := none
noncomputable abbrev AA (P : Program) (W : World) (K : PySem.W.Frag) (a c : Nat → Option Addr) : Ax := { P := P, w := W, K := K, cl := c, fn := fnmT, lay := layT, gt := gtab, fa := a, mt := mtT, mn := mnT, ini := iniT, val := valT, exf := exfT, sub := subT, kw := kwT, ex0 := ex0T, kwo := kwoT, kwc := kwcT }
section
variable {P : Program} {W : World} {K : PySem.W.Frag} {a c : Nat → Option Addr} {X : Cx} {Φ : Fns} {n : Nat}
theorem g_BadHouse : (AA P W K a c).gt.lookup ("BadHouse" : Str) = some (.cls c_BadHouse) := gtB_ok (t := gtab) (by decide +kernel)
theorem g_Dead : (AA P W K a c).gt.lookup ("Dead" : Str) = some (.cls c_Dead) := gtB_ok (t := gtab) (by decide +kernel)
theorem g_KnockError : (AA P W K a c).gt.lookup ("KnockError" : Str) = some (.cls c_KnockError) := gtB_ok (t := gtab) (by decide +kernel)
theorem g_NoBack : (AA P W K a c).gt.lookup ("NoBack" : Str) = some (.cls c_NoBack) := gtB_ok (t := gtab) (by decide +kernel)
theorem g_NoFace : (AA P W K a c).gt.lookup ("NoFace" : Str) = some (.cls c_NoFace) := gtB_ok (t := gtab) (by decide +kernel)
theorem g_NoLine : (AA P W K a c).gt.lookup ("NoLine" : Str) = some (.cls c_NoLine) := gtB_ok (t := gtab) (by decide +kernel)
theorem g_NoLink : (AA P W K a c).gt.lookup ("NoLink" : Str) = some (.cls c_NoLink) := gtB_ok (t := gtab) (by decide +kernel)
theorem g_NoMoment : (AA P W K a c).gt.lookup ("NoMoment" : Str) = some (.cls c_NoMoment) := gtB_ok (t := gtab) (by decide +kernel)
theorem g_NoMove : (AA P W K a c).gt.lookup ("NoMove" : Str) = some (.cls c_NoMove) := gtB_ok (t := gtab) (by decide +kernel)
theorem g_NoPair : (AA P W K a c).gt.lookup ("NoPair" : Str) = some (.cls c_NoPair) := gtB_ok (t := gtab) (by decide +kernel)
theorem g_NoPaper : (AA P W K a c).gt.lookup ("NoPaper" : Str) = some (.cls c_NoPaper) := gtB_ok (t := gtab) (by decide +kernel)
theorem g_NoRow : (AA P W K a c).gt.lookup ("NoRow" : Str) = some (.cls c_NoRow) := gtB_ok (t := gtab) (by decide +kernel)
theorem g_NoSeam : (AA P W K a c).gt.lookup ("NoSeam" : Str) = some (.cls c_NoSeam) := gtB_ok (t := gtab) (by decide +kernel)
theorem g_NoTalk : (AA P W K a c).gt.lookup ("NoTalk" : Str) = some (.cls c_NoTalk) := gtB_ok (t := gtab) (by decide +kernel)
theorem g_NoText : (AA P W K a c).gt.lookup ("NoText" : Str) = some (.cls c_NoText) := gtB_ok (t := gtab) (by decide +kernel)
theorem g_TooLong : (AA P W K a c).gt.lookup ("TooLong" : Str) = some (.cls c_TooLong) := gtB_ok (t := gtab) (by decide +kernel)
theorem g_TooMany : (AA P W K a c).gt.lookup ("TooMany" : Str) = some (.cls c_TooMany) := gtB_ok (t := gtab) (by decide +kernel)
theorem g_ValueError : (AA P W K a c).gt.lookup ("ValueError" : Str) = some (.blt) := gtB_ok (t := gtab) (by decide +kernel)
theorem g__law_any : (AA P W K a c).gt.lookup ("_law_any" : Str) = some (.fn i_L_any) := gtB_ok (t := gtab) (by decide +kernel)
theorem g__law_is_same : (AA P W K a c).gt.lookup ("_law_is_same" : Str) = some (.fn i_L_is_same) := gtB_ok (t := gtab) (by decide +kernel)
theorem g__law_kinds : (AA P W K a c).gt.lookup ("_law_kinds" : Str) = some (.fn i_L_kinds) := gtB_ok (t := gtab) (by decide +kernel)
theorem g__law_of : (AA P W K a c).gt.lookup ("_law_of" : Str) = some (.fn i_L_of) := gtB_ok (t := gtab) (by decide +kernel)
theorem g__law_of_name : (AA P W K a c).gt.lookup ("_law_of_name" : Str) = some (.fn i_L_of_name) := gtB_ok (t := gtab) (by decide +kernel)
theorem g__law_of_place : (AA P W K a c).gt.lookup ("_law_of_place" : Str) = some (.fn i_L_of_place) := gtB_ok (t := gtab) (by decide +kernel)
theorem g__law_pot : (AA P W K a c).gt.lookup ("_law_pot" : Str) = some (.fn i_L_pot) := gtB_ok (t := gtab) (by decide +kernel)
theorem g__law_take : (AA P W K a c).gt.lookup ("_law_take" : Str) = some (.fn i_L_take) := gtB_ok (t := gtab) (by decide +kernel)
theorem g__law_values : (AA P W K a c).gt.lookup ("_law_values" : Str) = some (.fn i_L_values) := gtB_ok (t := gtab) (by decide +kernel)
theorem g_abs : (AA P W K a c).gt.lookup ("abs" : Str) = some (.blt) := gtB_ok (t := gtab) (by decide +kernel)
theorem g_all : (AA P W K a c).gt.lookup ("all" : Str) = some (.blt) := gtB_ok (t := gtab) (by decide +kernel)
theorem g_bool : (AA P W K a c).gt.lookup ("bool" : Str) = some (.blt) := gtB_ok (t := gtab) (by decide +kernel)
theorem g_enumerate : (AA P W K a c).gt.lookup ("enumerate" : Str) = some (.blt) := gtB_ok (t := gtab) (by decide +kernel)
theorem g_int : (AA P W K a c).gt.lookup ("int" : Str) = some (.blt) := gtB_ok (t := gtab) (by decide +kernel)
theorem g_isinstance : (AA P W K a c).gt.lookup ("isinstance" : Str) = some (.blt) := gtB_ok (t := gtab) (by decide +kernel)
theorem g_len : (AA P W K a c).gt.lookup ("len" : Str) = some (.blt) := gtB_ok (t := gtab) (by decide +kernel)
theorem g_list : (AA P W K a c).gt.lookup ("list" : Str) = some (.blt) := gtB_ok (t := gtab) (by decide +kernel)
theorem g_max : (AA P W K a c).gt.lookup ("max" : Str) = some (.blt) := gtB_ok (t := gtab) (by decide +kernel)
theorem g_min : (AA P W K a c).gt.lookup ("min" : Str) = some (.blt) := gtB_ok (t := gtab) (by decide +kernel)
theorem g_range : (AA P W K a c).gt.lookup ("range" : Str) = some (.blt) := gtB_ok (t := gtab) (by decide +kernel)
theorem g_zip : (AA P W K a c).gt.lookup ("zip" : Str) = some (.blt) := gtB_ok (t := gtab) (by decide +kernel)
/-! _law_pot -/
noncomputable abbrev t0 : Stmt := top 19
noncomputable def N0 : List Str := ["_law_script", "_law_k", "_law_cell", "_law_great"]
noncomputable def d_L_pot (Φ : Fns) : EW :=
 sSeq (sSet 2 (dOp (fAdd false) (dOp (fMul false) (dC (.int 3)) (dVar 1)) (dBi bLen (aCons (dVar 0) (aNil)))))
 (sSeq (sIf (dTst (dOp (fInt fun i j => decide (i < j)) (dVar 1) (dBi bLen (aCons (dVar 0) (aNil))))) (sSeq (sSet 2 (dOp fIx (dVar 0) (dVar 1)))
 (sNil)) (sNil))
 (sSeq (sSet 3 (dOp (fMul false) (dOp (fMod) (dBi bAbs (aCons (dVar 2) (aNil))) (dBi bIntL (aCons (dOp (fAdd false) (dC (.str ("1" : Str))) (dOp (fMulS) (dC (.str ("0" : Str))) (dC (.int 900)))) (aNil)))) (dBi bInt (aCons (dOp (fInt fun i j => decide (j ≤ i)) (dBi bAbs (aCons (dVar 2) (aNil))) (dOp (fPow) (dC (.int 10)) (dC (.int 18)))) (aNil)))))
 (sSeq (sRet (dLst true (aCons (dVar 3) (aCons (dOp (fMod) (dOp (fMul false) (dOp (fAdd false) (dOp (fAdd false) (dOp (fMod) (dVar 2) (dC (.int 2305843009213693951))) (dOp (fMul false) (dOp (fMul false) (dC (.int 7919)) (dVar 1)) (dVar 1))) (dC (.int 11))) (dC (.int 48271))) (dC (.int 2305843009213693951))) (aNil)))))
 (sNil))))
set_option maxRecDepth 100000 in
theorem w0 (x : StOk (AA P W K a c) N0 (defScope t0) X) (C : COk (AA P W K a c) Φ n X) (FO : FldOk (AA P W K a c)) (IA : IsaOk (AA P W K a c) isaT) (ID : IdOk (AA P W K a c)) (EO : ExqOk (AA P W K a c) 7) (IQ : IsqOk (AA P W K a c) isqT) : WSs (AA P W K a c) X (defBody t0) (d_L_pot Φ) :=
 (ws_cons (s_set x 2 (by decide +kernel) (we_op op_addW (opw_add x.toXOk.hK) (we_op op_mulWW opw_mul we_int (we_v x.toXOk 1 (by decide +kernel))) (b_len x.toXOk g_len (by decide +kernel) (wa_c (we_v x.toXOk 0 (by decide +kernel)) wa_nil rfl) rfl)) rfl)
 (ws_cons (ws_if (wt_cmp op_lt opw_int rfl (we_v x.toXOk 1 (by decide +kernel)) (b_len x.toXOk g_len (by decide +kernel) (wa_c (we_v x.toXOk 0 (by decide +kernel)) wa_nil rfl) rfl)) (ws_cons (s_set x 2 (by decide +kernel) (we_ix x.toXOk (we_v x.toXOk 0 (by decide +kernel)) (we_v x.toXOk 1 (by decide +kernel)) rfl) rfl)
 ws_nil) ws_nil)
 (ws_cons (s_set x 3 (by decide +kernel) (we_op op_mulWW opw_mul (we_op op_mod opw_mod (b_abs x.toXOk g_abs (by decide +kernel) (wa_c (we_v x.toXOk 2 (by decide +kernel)) wa_nil rfl) rfl) (b_intL x.toXOk ID g_int (by decide +kernel) (wa_c (we_op op_addW (opw_add x.toXOk.hK) we_str (we_op op_mulS opw_mulS we_str we_int)) wa_nil rfl) rfl)) (b_int x.toXOk g_int (by decide +kernel) (wa_c (we_cmp op_ge opw_int rfl (b_abs x.toXOk g_abs (by decide +kernel) (wa_c (we_v x.toXOk 2 (by decide +kernel)) wa_nil rfl) rfl) (we_op op_powW opw_pow we_int we_int)) wa_nil rfl) rfl)) rfl)
 (ws_cons (ws_ret (we_lst (wa_c (we_v x.toXOk 3 (by decide +kernel)) (wa_c (we_op op_mod opw_mod (we_op op_mulWW opw_mul (we_op op_addW (opw_add x.toXOk.hK) (we_op op_addW (opw_add x.toXOk.hK) (we_op op_mod opw_mod (we_v x.toXOk 2 (by decide +kernel)) we_int) (we_op op_mulWW opw_mul (we_op op_mulWW opw_mul we_int (we_v x.toXOk 1 (by decide +kernel))) (we_v x.toXOk 1 (by decide +kernel)))) we_int) we_int) we_int) wa_nil rfl) rfl)))
 ws_nil))))
/-! _law_take -/
noncomputable abbrev t1 : Stmt := top 20
noncomputable def N1 : List Str := ["_law_pot_here", "_law_upto", "_law_digit"]
noncomputable def d_L_take (Φ : Fns) : EW :=
 sSeq (sIf (dTst (dOp (fInt fun i j => decide (j < i)) (dOp fIx (dVar 0) (dC (.int 0))) (dC (.int 0)))) (sSeq (sSet 2 (dOp (fMod) (dOp fIx (dVar 0) (dC (.int 0))) (dVar 1)))
 (sSeq (sSetI (dVar 0) (dC (.int 0)) (dOp (fDiv) (dOp fIx (dVar 0) (dC (.int 0))) (dVar 1)))
 (sSeq (sRet (dVar 2))
 (sNil)))) (sNil))
 (sSeq (sSetI (dVar 0) (dC (.int 1)) (dOp (fMod) (dOp (fAdd false) (dOp (fMul false) (dOp fIx (dVar 0) (dC (.int 1))) (dC (.int 1181783497276652981))) (dC (.int 12345678910987))) (dC (.int 2305843009213693951))))
 (sSeq (sRet (dOp (fMod) (dOp (fDiv) (dOp (fMod) (dOp (fMul false) (dOp (fDiv) (dOp fIx (dVar 0) (dC (.int 1))) (dC (.int 65537))) (dOp (fAdd false) (dOp (fMod) (dOp fIx (dVar 0) (dC (.int 1))) (dC (.int 65537))) (dC (.int 3)))) (dC (.int 2305843009213693921))) (dC (.int 97))) (dVar 1)))
 (sNil)))
set_option maxRecDepth 100000 in
theorem w1 (x : StOk (AA P W K a c) N1 (defScope t1) X) (C : COk (AA P W K a c) Φ n X) (FO : FldOk (AA P W K a c)) (IA : IsaOk (AA P W K a c) isaT) (ID : IdOk (AA P W K a c)) (EO : ExqOk (AA P W K a c) 7) (IQ : IsqOk (AA P W K a c) isqT) : WSs (AA P W K a c) X (defBody t1) (d_L_take Φ) :=
 (ws_cons (ws_if (wt_cmp op_gt opw_int rfl (we_ix x.toXOk (we_v x.toXOk 0 (by decide +kernel)) we_int rfl) we_int) (ws_cons (s_set x 2 (by decide +kernel) (we_op op_mod opw_mod (we_ix x.toXOk (we_v x.toXOk 0 (by decide +kernel)) we_int rfl) (we_v x.toXOk 1 (by decide +kernel))) rfl)
 (ws_cons (ws_setI x.toXOk (we_v x.toXOk 0 (by decide +kernel)) we_int (we_op op_fdivW opw_div (we_ix x.toXOk (we_v x.toXOk 0 (by decide +kernel)) we_int rfl) (we_v x.toXOk 1 (by decide +kernel))) (fun _ => rfl) rfl rfl rfl)
 (ws_cons (ws_ret (we_v x.toXOk 2 (by decide +kernel)))
 ws_nil))) ws_nil)
 (ws_cons (ws_setI x.toXOk (we_v x.toXOk 0 (by decide +kernel)) we_int (we_op op_mod opw_mod (we_op op_addW (opw_add x.toXOk.hK) (we_op op_mulWW opw_mul (we_ix x.toXOk (we_v x.toXOk 0 (by decide +kernel)) we_int rfl) we_int) we_int) we_int) (fun _ => rfl) rfl rfl rfl)
 (ws_cons (ws_ret (we_op op_mod opw_mod (we_op op_fdivW opw_div (we_op op_mod opw_mod (we_op op_mulWW opw_mul (we_op op_fdivW opw_div (we_ix x.toXOk (we_v x.toXOk 0 (by decide +kernel)) we_int rfl) we_int) (we_op op_addW (opw_add x.toXOk.hK) (we_op op_mod opw_mod (we_ix x.toXOk (we_v x.toXOk 0 (by decide +kernel)) we_int rfl) we_int) we_int)) we_int) we_int) (we_v x.toXOk 1 (by decide +kernel))))
 ws_nil)))
/-! _law_of -/
noncomputable abbrev t2 : Stmt := top 21
noncomputable def N2 : List Str := ["_law_pot_here", "_law_some"]
noncomputable def d_L_of (Φ : Fns) : EW :=
 sSeq (sRet (dOp fIx (dVar 1) (dCall (Φ i_L_take) (aCons (dVar 0) (aCons (dBi bLen (aCons (dVar 1) (aNil))) (aNil))))))
 (sNil)
set_option maxRecDepth 100000 in
theorem w2 (x : StOk (AA P W K a c) N2 (defScope t2) X) (C : COk (AA P W K a c) Φ n X) (FO : FldOk (AA P W K a c)) (IA : IsaOk (AA P W K a c) isaT) (ID : IdOk (AA P W K a c)) (EO : ExqOk (AA P W K a c) 7) (IQ : IsqOk (AA P W K a c) isqT) : WSs (AA P W K a c) X (defBody t2) (d_L_of Φ) :=
 (ws_cons (ws_ret (we_ix x.toXOk (we_v x.toXOk 1 (by decide +kernel)) (we_f x.toXOk C i_L_take g__law_take (by decide +kernel) (wa_c (we_v x.toXOk 0 (by decide +kernel)) (wa_c (b_len x.toXOk g_len (by decide +kernel) (wa_c (we_v x.toXOk 1 (by decide +kernel)) wa_nil rfl) rfl) wa_nil rfl) rfl) rfl) rfl))
 ws_nil)
/-! _law_kinds -/
noncomputable abbrev t3 : Stmt := top 22
noncomputable def N3 : List Str := ["_law_error", "_law_found"]
noncomputable def d_L_kinds (Φ : Fns) : EW :=
 sSeq (sSet 1 (dLst false (aCons (dIsE (fun c => subT c c_KnockError) isqT (.inl c_NoFace) (dVar 0)) (aCons (dIsE (fun c => subT c c_KnockError) isqT (.inl c_BadHouse) (dVar 0)) (aCons (dIsE (fun c => subT c c_KnockError) isqT (.inl c_NoMove) (dVar 0)) (aNil))))))
 (sSeq (sSet 1 (dOp (fAdd false) (dVar 1) (dLst false (aCons (dIsE (fun c => subT c c_KnockError) isqT (.inl c_NoTalk) (dVar 0)) (aCons (dIsE (fun c => subT c c_KnockError) isqT (.inl c_NoText) (dVar 0)) (aCons (dIsE (fun c => subT c c_KnockError) isqT (.inl c_TooLong) (dVar 0)) (aNil)))))))
 (sSeq (sSet 1 (dOp (fAdd false) (dVar 1) (dLst false (aCons (dIsE (fun c => subT c c_KnockError) isqT (.inl c_TooMany) (dVar 0)) (aCons (dIsE (fun c => subT c c_KnockError) isqT (.inl c_NoRow) (dVar 0)) (aCons (dIsE (fun c => subT c c_KnockError) isqT (.inl c_NoLine) (dVar 0)) (aNil)))))))
 (sSeq (sSet 1 (dOp (fAdd false) (dVar 1) (dLst false (aCons (dIsE (fun c => subT c c_KnockError) isqT (.inl c_NoLink) (dVar 0)) (aCons (dIsE (fun c => subT c c_KnockError) isqT (.inl c_NoPair) (dVar 0)) (aCons (dIsE (fun c => subT c c_KnockError) isqT (.inl c_NoPaper) (dVar 0)) (aNil)))))))
 (sSeq (sSet 1 (dOp (fAdd false) (dVar 1) (dLst false (aCons (dIsE (fun c => subT c c_KnockError) isqT (.inl c_NoMoment) (dVar 0)) (aCons (dIsE (fun c => subT c c_KnockError) isqT (.inl c_NoSeam) (dVar 0)) (aCons (dIsE (fun c => subT c c_KnockError) isqT (.inl c_NoBack) (dVar 0)) (aNil)))))))
 (sSeq (sRet (dOp (fAdd false) (dVar 1) (dLst false (aCons (dIsE (fun c => subT c c_KnockError) isqT (.inl c_Dead) (dVar 0)) (aNil)))))
 (sNil))))))
set_option maxRecDepth 100000 in
theorem w3 (x : StOk (AA P W K a c) N3 (defScope t3) X) (C : COk (AA P W K a c) Φ n X) (FO : FldOk (AA P W K a c)) (IA : IsaOk (AA P W K a c) isaT) (ID : IdOk (AA P W K a c)) (EO : ExqOk (AA P W K a c) 7) (IQ : IsqOk (AA P W K a c) isqT) : WSs (AA P W K a c) X (defBody t3) (d_L_kinds Φ) :=
 (ws_cons (s_set x 1 (by decide +kernel) (we_lst (wa_c (we_isE x.toXOk EO IQ c_KnockError c_NoFace (we_v x.toXOk 0 (by decide +kernel)) g_isinstance (by decide +kernel) g_NoFace (by decide +kernel) rfl) (wa_c (we_isE x.toXOk EO IQ c_KnockError c_BadHouse (we_v x.toXOk 0 (by decide +kernel)) g_isinstance (by decide +kernel) g_BadHouse (by decide +kernel) rfl) (wa_c (we_isE x.toXOk EO IQ c_KnockError c_NoMove (we_v x.toXOk 0 (by decide +kernel)) g_isinstance (by decide +kernel) g_NoMove (by decide +kernel) rfl) wa_nil rfl) rfl) rfl)) rfl)
 (ws_cons (s_set x 1 (by decide +kernel) (we_op op_addW (opw_add x.toXOk.hK) (we_v x.toXOk 1 (by decide +kernel)) (we_lst (wa_c (we_isE x.toXOk EO IQ c_KnockError c_NoTalk (we_v x.toXOk 0 (by decide +kernel)) g_isinstance (by decide +kernel) g_NoTalk (by decide +kernel) rfl) (wa_c (we_isE x.toXOk EO IQ c_KnockError c_NoText (we_v x.toXOk 0 (by decide +kernel)) g_isinstance (by decide +kernel) g_NoText (by decide +kernel) rfl) (wa_c (we_isE x.toXOk EO IQ c_KnockError c_TooLong (we_v x.toXOk 0 (by decide +kernel)) g_isinstance (by decide +kernel) g_TooLong (by decide +kernel) rfl) wa_nil rfl) rfl) rfl))) rfl)
 (ws_cons (s_set x 1 (by decide +kernel) (we_op op_addW (opw_add x.toXOk.hK) (we_v x.toXOk 1 (by decide +kernel)) (we_lst (wa_c (we_isE x.toXOk EO IQ c_KnockError c_TooMany (we_v x.toXOk 0 (by decide +kernel)) g_isinstance (by decide +kernel) g_TooMany (by decide +kernel) rfl) (wa_c (we_isE x.toXOk EO IQ c_KnockError c_NoRow (we_v x.toXOk 0 (by decide +kernel)) g_isinstance (by decide +kernel) g_NoRow (by decide +kernel) rfl) (wa_c (we_isE x.toXOk EO IQ c_KnockError c_NoLine (we_v x.toXOk 0 (by decide +kernel)) g_isinstance (by decide +kernel) g_NoLine (by decide +kernel) rfl) wa_nil rfl) rfl) rfl))) rfl)
 (ws_cons (s_set x 1 (by decide +kernel) (we_op op_addW (opw_add x.toXOk.hK) (we_v x.toXOk 1 (by decide +kernel)) (we_lst (wa_c (we_isE x.toXOk EO IQ c_KnockError c_NoLink (we_v x.toXOk 0 (by decide +kernel)) g_isinstance (by decide +kernel) g_NoLink (by decide +kernel) rfl) (wa_c (we_isE x.toXOk EO IQ c_KnockError c_NoPair (we_v x.toXOk 0 (by decide +kernel)) g_isinstance (by decide +kernel) g_NoPair (by decide +kernel) rfl) (wa_c (we_isE x.toXOk EO IQ c_KnockError c_NoPaper (we_v x.toXOk 0 (by decide +kernel)) g_isinstance (by decide +kernel) g_NoPaper (by decide +kernel) rfl) wa_nil rfl) rfl) rfl))) rfl)
 (ws_cons (s_set x 1 (by decide +kernel) (we_op op_addW (opw_add x.toXOk.hK) (we_v x.toXOk 1 (by decide +kernel)) (we_lst (wa_c (we_isE x.toXOk EO IQ c_KnockError c_NoMoment (we_v x.toXOk 0 (by decide +kernel)) g_isinstance (by decide +kernel) g_NoMoment (by decide +kernel) rfl) (wa_c (we_isE x.toXOk EO IQ c_KnockError c_NoSeam (we_v x.toXOk 0 (by decide +kernel)) g_isinstance (by decide +kernel) g_NoSeam (by decide +kernel) rfl) (wa_c (we_isE x.toXOk EO IQ c_KnockError c_NoBack (we_v x.toXOk 0 (by decide +kernel)) g_isinstance (by decide +kernel) g_NoBack (by decide +kernel) rfl) wa_nil rfl) rfl) rfl))) rfl)
 (ws_cons (ws_ret (we_op op_addW (opw_add x.toXOk.hK) (we_v x.toXOk 1 (by decide +kernel)) (we_lst (wa_c (we_isE x.toXOk EO IQ c_KnockError c_Dead (we_v x.toXOk 0 (by decide +kernel)) g_isinstance (by decide +kernel) g_Dead (by decide +kernel) rfl) wa_nil rfl))))
 ws_nil))))))
/-! _law_any -/
noncomputable abbrev t4 : Stmt := top 23
noncomputable def N4 : List Str := ["_law_pot_here", "_law_some", "_law_thing", "_law_turn"]
noncomputable def d_L_any (Φ : Fns) : EW :=
 sSeq (sSet 1 (dLst false (aCons (dC .non) (aCons (dC (.bl true)) (aCons (dC (.bl false)) (aCons (dC (.int 0)) (aCons (dC (.int 7)) (aCons (dNeg (dC (.int 3))) (aCons (dOp (fPow) (dC (.int 10)) (dC (.int 60))) (aCons (dC (.str ("" : Str))) (aCons (dC (.str ("size" : Str))) (aCons (dC (.str ("x y" : Str))) (aCons (dTup (aNil)) (aCons (dLst false (aNil)) (aCons (dDict0 false) (aCons (dTup (aCons (dC (.int 1)) (aCons (dC (.str ("a" : Str))) (aNil)))) (aCons (dLst false (aCons (dC .non) (aNil))) (aCons (dDisp false [(dC (.str ("k" : Str)), dC (.int 2))]) (aNil)))))))))))))))))))
 (sSeq (sSet 2 (dCall (Φ i_L_of) (aCons (dVar 0) (aCons (dVar 1) (aNil)))))
 (sSeq (sIf (dTst (dOp (fEq false) (dCall (Φ i_L_take) (aCons (dVar 0) (aCons (dC (.int 9)) (aNil)))) (dC (.int 0)))) (sSeq (sSet 2 (dOp (fMul false) (dOp (fMul false) (dC (.int 7)) (dBi bIntL (aCons (dOp (fAdd false) (dC (.str ("1" : Str))) (dOp (fMulS) (dC (.str ("0" : Str))) (dC (.int 4000)))) (aNil)))) (dBi bIntL (aCons (dOp (fAdd false) (dC (.str ("1" : Str))) (dOp (fMulS) (dC (.str ("0" : Str))) (dC (.int 1000)))) (aNil)))))
 (sNil)) (sNil))
 (sSeq (sFor (iRg1 (aCons (dCall (Φ i_L_of) (aCons (dVar 0) (aCons (dLst false (aCons (dC (.int 0)) (aCons (dC (.int 0)) (aCons (dC (.int 1)) (aCons (dC (.int 2)) (aCons (dC (.int 12)) (aNil))))))) (aNil)))) (aNil))) (.nm 3) (sSeq (sSet 2 (dOp fIx (dLst false (aCons (dTup (aCons (dVar 2) (aNil))) (aCons (dLst false (aCons (dVar 2) (aNil))) (aCons (dDisp false [(dC (.str ("a" : Str)), dVar 2)]) (aCons (dTup (aCons (dVar 2) (aCons (dC .non) (aNil)))) (aNil)))))) (dCall (Φ i_L_take) (aCons (dVar 0) (aCons (dC (.int 4)) (aNil))))))
 (sNil)))
 (sSeq (sRet (dVar 2))
 (sNil)))))
set_option maxRecDepth 100000 in
theorem w4 (x : StOk (AA P W K a c) N4 (defScope t4) X) (C : COk (AA P W K a c) Φ n X) (FO : FldOk (AA P W K a c)) (IA : IsaOk (AA P W K a c) isaT) (ID : IdOk (AA P W K a c)) (EO : ExqOk (AA P W K a c) 7) (IQ : IsqOk (AA P W K a c) isqT) : WSs (AA P W K a c) X (defBody t4) (d_L_any Φ) :=
 (ws_cons (s_set x 1 (by decide +kernel) (we_lst (wa_c we_non (wa_c we_bl (wa_c we_bl (wa_c we_int (wa_c we_int (wa_c (we_neg we_int) (wa_c (we_op op_powW opw_pow we_int we_int) (wa_c we_str (wa_c we_str (wa_c we_str (wa_c (we_tup wa_nil) (wa_c (we_lst wa_nil) (wa_c we_dict0 (wa_c (we_tup (wa_c we_int (wa_c we_str wa_nil rfl) rfl)) (wa_c (we_lst (wa_c we_non wa_nil rfl)) (wa_c (we_disp (ks := [_]) ⟨we_str, we_int, trivial⟩ (by simp) (by decide)) wa_nil rfl) rfl) rfl) rfl) rfl) rfl) rfl) rfl) rfl) rfl) rfl) rfl) rfl) rfl) rfl) rfl)) rfl)
 (ws_cons (s_set x 2 (by decide +kernel) (we_f x.toXOk C i_L_of g__law_of (by decide +kernel) (wa_c (we_v x.toXOk 0 (by decide +kernel)) (wa_c (we_v x.toXOk 1 (by decide +kernel)) wa_nil rfl) rfl) rfl) rfl)
 (ws_cons (ws_if (wt_cmp (op_eqW x.toXOk.u64) (opw_eq x.toXOk.hK) rfl (we_f x.toXOk C i_L_take g__law_take (by decide +kernel) (wa_c (we_v x.toXOk 0 (by decide +kernel)) (wa_c we_int wa_nil rfl) rfl) rfl) we_int) (ws_cons (s_set x 2 (by decide +kernel) (we_op op_mulWW opw_mul (we_op op_mulWW opw_mul we_int (b_intL x.toXOk ID g_int (by decide +kernel) (wa_c (we_op op_addW (opw_add x.toXOk.hK) we_str (we_op op_mulS opw_mulS we_str we_int)) wa_nil rfl) rfl)) (b_intL x.toXOk ID g_int (by decide +kernel) (wa_c (we_op op_addW (opw_add x.toXOk.hK) we_str (we_op op_mulS opw_mulS we_str we_int)) wa_nil rfl) rfl)) rfl)
 ws_nil) ws_nil)
 (ws_cons (ws_for x.toXOk.calm (i_rg1 x.toXOk g_range (by decide +kernel) (wa_c (we_f x.toXOk C i_L_of g__law_of (by decide +kernel) (wa_c (we_v x.toXOk 0 (by decide +kernel)) (wa_c (we_lst (wa_c we_int (wa_c we_int (wa_c we_int (wa_c we_int (wa_c we_int wa_nil rfl) rfl) rfl) rfl) rfl)) wa_nil rfl) rfl) rfl) wa_nil rfl) rfl) (g_nm x 3 (by decide +kernel)) (ws_cons (s_set x 2 (by decide +kernel) (we_ix x.toXOk (we_lst (wa_c (we_tup (wa_c (we_v x.toXOk 2 (by decide +kernel)) wa_nil rfl)) (wa_c (we_lst (wa_c (we_v x.toXOk 2 (by decide +kernel)) wa_nil rfl)) (wa_c (we_disp (ks := [_]) ⟨we_str, (we_v x.toXOk 2 (by decide +kernel)), trivial⟩ (by simp) (by decide)) (wa_c (we_tup (wa_c (we_v x.toXOk 2 (by decide +kernel)) (wa_c we_non wa_nil rfl) rfl)) wa_nil rfl) rfl) rfl) rfl)) (we_f x.toXOk C i_L_take g__law_take (by decide +kernel) (wa_c (we_v x.toXOk 0 (by decide +kernel)) (wa_c we_int wa_nil rfl) rfl) rfl) rfl) rfl)
 ws_nil) (fun _ => rfl))
 (ws_cons (ws_ret (we_v x.toXOk 2 (by decide +kernel)))
 ws_nil)))))
/-! _law_is_same -/
noncomputable abbrev t5 : Stmt := top 24
noncomputable def N5 : List Str := ["_law_told", "_law_thing"]
noncomputable def d_L_is_same (Φ : Fns) : EW :=
 sSeq (sIf (dOrT (dTst (dOp (fEq true) (dIsT "bool" (dVar 0)) (dIsT "bool" (dVar 1)))) (dTst (dOp (fEq true) (dIsT "list" (dVar 0)) (dIsT "list" (dVar 1))))) (sSeq (sRet (dC (.bl false)))
 (sNil)) (sNil))
 (sSeq (sRet (dOp (fEqN) (dVar 0) (dVar 1)))
 (sNil))
set_option maxRecDepth 100000 in
theorem w5 (x : StOk (AA P W K a c) N5 (defScope t5) X) (C : COk (AA P W K a c) Φ n X) (FO : FldOk (AA P W K a c)) (IA : IsaOk (AA P W K a c) isaT) (ID : IdOk (AA P W K a c)) (EO : ExqOk (AA P W K a c) 7) (IQ : IsqOk (AA P W K a c) isqT) : WSs (AA P W K a c) X (defBody t5) (d_L_is_same Φ) :=
 (ws_cons (ws_if (wt_of (ww_or (wt_cmp (op_neW x.toXOk.u64) (opw_ne x.toXOk.hK) rfl (b_isT x.toXOk (T := "bool") (by rfl) g_isinstance (by decide +kernel) g_bool (by decide +kernel) (we_v x.toXOk 0 (by decide +kernel)) rfl) (b_isT x.toXOk (T := "bool") (by rfl) g_isinstance (by decide +kernel) g_bool (by decide +kernel) (we_v x.toXOk 1 (by decide +kernel)) rfl)) (ww_or1 (wt_cmp (op_neW x.toXOk.u64) (opw_ne x.toXOk.hK) rfl (b_isT x.toXOk (T := "list") (by rfl) g_isinstance (by decide +kernel) g_list (by decide +kernel) (we_v x.toXOk 0 (by decide +kernel)) rfl) (b_isT x.toXOk (T := "list") (by rfl) g_isinstance (by decide +kernel) g_list (by decide +kernel) (we_v x.toXOk 1 (by decide +kernel)) rfl))))) (ws_cons (ws_ret we_bl)
 ws_nil) ws_nil)
 (ws_cons (ws_ret (we_cmp (op_eqNW x.toXOk.u64) (opw_eqN x.toXOk.hK) rfl (we_v x.toXOk 0 (by decide +kernel)) (we_v x.toXOk 1 (by decide +kernel))))
 ws_nil))
/-! _law_of_place -/
noncomputable abbrev t6 : Stmt := top 25
noncomputable def N6 : List Str := ["_law_things", "_law_found"]
noncomputable def d_L_of_place (Φ : Fns) : EW :=
 sSeq (sSet 1 (dLst false (aCons (dMkE c_NoFace fl_field (dOp fIx (dVar 0) (dC (.int 0)))) (aCons (dMkE c_BadHouse fl_field (dOp fIx (dVar 0) (dC (.int 1)))) (aCons (dMkE c_NoMove fl_move (dOp fIx (dVar 0) (dC (.int 2)))) (aCons (dMkE c_NoTalk fl_at (dOp fIx (dVar 0) (dC (.int 3)))) (aCons (dMkE c_NoText fl_row (dOp fIx (dVar 0) (dC (.int 4)))) (aNil))))))))
 (sSeq (sSet 1 (dOp (fAdd false) (dVar 1) (dLst false (aCons (dMkE c_TooLong fl_moves (dOp fIx (dVar 0) (dC (.int 5)))) (aCons (dMkE c_TooMany fl_many (dOp fIx (dVar 0) (dC (.int 6)))) (aCons (dMkE c_NoRow fl_row (dOp fIx (dVar 0) (dC (.int 7)))) (aCons (dMkE c_NoLine fl_line (dOp fIx (dVar 0) (dC (.int 8)))) (aNil))))))))
 (sSeq (sRet (dOp (fAdd false) (dVar 1) (dLst false (aCons (dMkE0 c_NoLink) (aCons (dMkE0 c_NoPair) (aCons (dMkE0 c_NoPaper) (aCons (dMkE0 c_NoMoment) (aCons (dMkE0 c_NoSeam) (aCons (dMkE0 c_NoBack) (aCons (dMkE0 c_Dead) (aNil)))))))))))
 (sNil)))
set_option maxRecDepth 100000 in
theorem w6 (x : StOk (AA P W K a c) N6 (defScope t6) X) (C : COk (AA P W K a c) Φ n X) (FO : FldOk (AA P W K a c)) (IA : IsaOk (AA P W K a c) isaT) (ID : IdOk (AA P W K a c)) (EO : ExqOk (AA P W K a c) 7) (IQ : IsqOk (AA P W K a c) isqT) : WSs (AA P W K a c) X (defBody t6) (d_L_of_place Φ) :=
 (ws_cons (s_set x 1 (by decide +kernel) (we_lst (wa_c (we_mkE x.toXOk C (c := c_NoFace) (f := fl_field) rfl g_NoFace (by decide +kernel) (we_ix x.toXOk (we_v x.toXOk 0 (by decide +kernel)) we_int rfl) rfl) (wa_c (we_mkE x.toXOk C (c := c_BadHouse) (f := fl_field) rfl g_BadHouse (by decide +kernel) (we_ix x.toXOk (we_v x.toXOk 0 (by decide +kernel)) we_int rfl) rfl) (wa_c (we_mkE x.toXOk C (c := c_NoMove) (f := fl_move) rfl g_NoMove (by decide +kernel) (we_ix x.toXOk (we_v x.toXOk 0 (by decide +kernel)) we_int rfl) rfl) (wa_c (we_mkE x.toXOk C (c := c_NoTalk) (f := fl_at) rfl g_NoTalk (by decide +kernel) (we_ix x.toXOk (we_v x.toXOk 0 (by decide +kernel)) we_int rfl) rfl) (wa_c (we_mkE x.toXOk C (c := c_NoText) (f := fl_row) rfl g_NoText (by decide +kernel) (we_ix x.toXOk (we_v x.toXOk 0 (by decide +kernel)) we_int rfl) rfl) wa_nil rfl) rfl) rfl) rfl) rfl)) rfl)
 (ws_cons (s_set x 1 (by decide +kernel) (we_op op_addW (opw_add x.toXOk.hK) (we_v x.toXOk 1 (by decide +kernel)) (we_lst (wa_c (we_mkE x.toXOk C (c := c_TooLong) (f := fl_moves) rfl g_TooLong (by decide +kernel) (we_ix x.toXOk (we_v x.toXOk 0 (by decide +kernel)) we_int rfl) rfl) (wa_c (we_mkE x.toXOk C (c := c_TooMany) (f := fl_many) rfl g_TooMany (by decide +kernel) (we_ix x.toXOk (we_v x.toXOk 0 (by decide +kernel)) we_int rfl) rfl) (wa_c (we_mkE x.toXOk C (c := c_NoRow) (f := fl_row) rfl g_NoRow (by decide +kernel) (we_ix x.toXOk (we_v x.toXOk 0 (by decide +kernel)) we_int rfl) rfl) (wa_c (we_mkE x.toXOk C (c := c_NoLine) (f := fl_line) rfl g_NoLine (by decide +kernel) (we_ix x.toXOk (we_v x.toXOk 0 (by decide +kernel)) we_int rfl) rfl) wa_nil rfl) rfl) rfl) rfl))) rfl)
 (ws_cons (ws_ret (we_op op_addW (opw_add x.toXOk.hK) (we_v x.toXOk 1 (by decide +kernel)) (we_lst (wa_c (we_mkE0 x.toXOk C (c := c_NoLink) rfl g_NoLink (by decide +kernel)) (wa_c (we_mkE0 x.toXOk C (c := c_NoPair) rfl g_NoPair (by decide +kernel)) (wa_c (we_mkE0 x.toXOk C (c := c_NoPaper) rfl g_NoPaper (by decide +kernel)) (wa_c (we_mkE0 x.toXOk C (c := c_NoMoment) rfl g_NoMoment (by decide +kernel)) (wa_c (we_mkE0 x.toXOk C (c := c_NoSeam) rfl g_NoSeam (by decide +kernel)) (wa_c (we_mkE0 x.toXOk C (c := c_NoBack) rfl g_NoBack (by decide +kernel)) (wa_c (we_mkE0 x.toXOk C (c := c_Dead) rfl g_Dead (by decide +kernel)) wa_nil rfl) rfl) rfl) rfl) rfl) rfl) rfl))))
 ws_nil)))
/-! _law_of_name -/
noncomputable abbrev t7 : Stmt := top 26
noncomputable def N7 : List Str := ["_law_things", "_law_found"]
noncomputable def d_L_of_name (Φ : Fns) : EW :=
 sSeq (sSet 1 (dLst false (aCons (dMkEK c_NoFace fl_field (aCons (dOp fIx (dVar 0) (dC (.int 0))) (aNil))) (aCons (dMkEK c_BadHouse fl_field (aCons (dOp fIx (dVar 0) (dC (.int 1))) (aNil))) (aCons (dMkEK c_NoMove fl_move (aCons (dOp fIx (dVar 0) (dC (.int 2))) (aNil))) (aCons (dMkEK c_NoTalk fl_at (aCons (dOp fIx (dVar 0) (dC (.int 3))) (aNil))) (aNil)))))))
 (sSeq (sSet 1 (dOp (fAdd false) (dVar 1) (dLst false (aCons (dMkEK c_NoText fl_row (aCons (dOp fIx (dVar 0) (dC (.int 4))) (aNil))) (aCons (dMkEK c_TooLong fl_moves (aCons (dOp fIx (dVar 0) (dC (.int 5))) (aNil))) (aCons (dMkEK c_TooMany fl_many (aCons (dOp fIx (dVar 0) (dC (.int 6))) (aNil))) (aNil)))))))
 (sSeq (sRet (dOp (fAdd false) (dVar 1) (dLst false (aCons (dMkEK c_NoRow fl_row (aCons (dOp fIx (dVar 0) (dC (.int 7))) (aNil))) (aCons (dMkEK c_NoLine fl_line (aCons (dOp fIx (dVar 0) (dC (.int 8))) (aNil))) (aNil))))))
 (sNil)))
set_option maxRecDepth 100000 in
theorem w7 (x : StOk (AA P W K a c) N7 (defScope t7) X) (C : COk (AA P W K a c) Φ n X) (FO : FldOk (AA P W K a c)) (IA : IsaOk (AA P W K a c) isaT) (ID : IdOk (AA P W K a c)) (EO : ExqOk (AA P W K a c) 7) (IQ : IsqOk (AA P W K a c) isqT) : WSs (AA P W K a c) X (defBody t7) (d_L_of_name Φ) :=
 (ws_cons (s_set x 1 (by decide +kernel) (we_lst (wa_c (we_mkEK x.toXOk C (c := c_NoFace) (f := fl_field) (kn := "field") rfl (by show kwT (1000 + c_NoFace) 1 [("field" : Str)] = some [0, 1]; decide +kernel) g_NoFace (by decide +kernel) (wk_cons (we_ix x.toXOk (we_v x.toXOk 0 (by decide +kernel)) we_int rfl) wk_nil) rfl rfl rfl) (wa_c (we_mkEK x.toXOk C (c := c_BadHouse) (f := fl_field) (kn := "field") rfl (by show kwT (1000 + c_BadHouse) 1 [("field" : Str)] = some [0, 1]; decide +kernel) g_BadHouse (by decide +kernel) (wk_cons (we_ix x.toXOk (we_v x.toXOk 0 (by decide +kernel)) we_int rfl) wk_nil) rfl rfl rfl) (wa_c (we_mkEK x.toXOk C (c := c_NoMove) (f := fl_move) (kn := "move") rfl (by show kwT (1000 + c_NoMove) 1 [("move" : Str)] = some [0, 1]; decide +kernel) g_NoMove (by decide +kernel) (wk_cons (we_ix x.toXOk (we_v x.toXOk 0 (by decide +kernel)) we_int rfl) wk_nil) rfl rfl rfl) (wa_c (we_mkEK x.toXOk C (c := c_NoTalk) (f := fl_at) (kn := "at") rfl (by show kwT (1000 + c_NoTalk) 1 [("at" : Str)] = some [0, 1]; decide +kernel) g_NoTalk (by decide +kernel) (wk_cons (we_ix x.toXOk (we_v x.toXOk 0 (by decide +kernel)) we_int rfl) wk_nil) rfl rfl rfl) wa_nil rfl) rfl) rfl) rfl)) rfl)
 (ws_cons (s_set x 1 (by decide +kernel) (we_op op_addW (opw_add x.toXOk.hK) (we_v x.toXOk 1 (by decide +kernel)) (we_lst (wa_c (we_mkEK x.toXOk C (c := c_NoText) (f := fl_row) (kn := "row") rfl (by show kwT (1000 + c_NoText) 1 [("row" : Str)] = some [0, 1]; decide +kernel) g_NoText (by decide +kernel) (wk_cons (we_ix x.toXOk (we_v x.toXOk 0 (by decide +kernel)) we_int rfl) wk_nil) rfl rfl rfl) (wa_c (we_mkEK x.toXOk C (c := c_TooLong) (f := fl_moves) (kn := "moves") rfl (by show kwT (1000 + c_TooLong) 1 [("moves" : Str)] = some [0, 1]; decide +kernel) g_TooLong (by decide +kernel) (wk_cons (we_ix x.toXOk (we_v x.toXOk 0 (by decide +kernel)) we_int rfl) wk_nil) rfl rfl rfl) (wa_c (we_mkEK x.toXOk C (c := c_TooMany) (f := fl_many) (kn := "many") rfl (by show kwT (1000 + c_TooMany) 1 [("many" : Str)] = some [0, 1]; decide +kernel) g_TooMany (by decide +kernel) (wk_cons (we_ix x.toXOk (we_v x.toXOk 0 (by decide +kernel)) we_int rfl) wk_nil) rfl rfl rfl) wa_nil rfl) rfl) rfl))) rfl)
 (ws_cons (ws_ret (we_op op_addW (opw_add x.toXOk.hK) (we_v x.toXOk 1 (by decide +kernel)) (we_lst (wa_c (we_mkEK x.toXOk C (c := c_NoRow) (f := fl_row) (kn := "row") rfl (by show kwT (1000 + c_NoRow) 1 [("row" : Str)] = some [0, 1]; decide +kernel) g_NoRow (by decide +kernel) (wk_cons (we_ix x.toXOk (we_v x.toXOk 0 (by decide +kernel)) we_int rfl) wk_nil) rfl rfl rfl) (wa_c (we_mkEK x.toXOk C (c := c_NoLine) (f := fl_line) (kn := "line") rfl (by show kwT (1000 + c_NoLine) 1 [("line" : Str)] = some [0, 1]; decide +kernel) g_NoLine (by decide +kernel) (wk_cons (we_ix x.toXOk (we_v x.toXOk 0 (by decide +kernel)) we_int rfl) wk_nil) rfl rfl rfl) wa_nil rfl) rfl))))
 ws_nil)))
/-! _law_values -/
noncomputable abbrev t8 : Stmt := top 27
noncomputable def N8 : List Str := ["_law_errors", "_law_found"]
noncomputable def d_L_values (Φ : Fns) : EW :=
 sSeq (sSet 1 (dLst false (aCons (dXfE (fun c => subT c c_KnockError) fl_field (dOp fIx (dVar 0) (dC (.int 0)))) (aCons (dXfE (fun c => subT c c_KnockError) fl_field (dOp fIx (dVar 0) (dC (.int 1)))) (aCons (dXfE (fun c => subT c c_KnockError) fl_move (dOp fIx (dVar 0) (dC (.int 2)))) (aCons (dXfE (fun c => subT c c_KnockError) fl_at (dOp fIx (dVar 0) (dC (.int 3)))) (aCons (dXfE (fun c => subT c c_KnockError) fl_row (dOp fIx (dVar 0) (dC (.int 4)))) (aNil))))))))
 (sSeq (sRet (dOp (fAdd false) (dVar 1) (dLst false (aCons (dXfE (fun c => subT c c_KnockError) fl_moves (dOp fIx (dVar 0) (dC (.int 5)))) (aCons (dXfE (fun c => subT c c_KnockError) fl_many (dOp fIx (dVar 0) (dC (.int 6)))) (aCons (dXfE (fun c => subT c c_KnockError) fl_row (dOp fIx (dVar 0) (dC (.int 7)))) (aCons (dXfE (fun c => subT c c_KnockError) fl_line (dOp fIx (dVar 0) (dC (.int 8)))) (aNil))))))))
 (sNil))
set_option maxRecDepth 100000 in
theorem w8 (x : StOk (AA P W K a c) N8 (defScope t8) X) (C : COk (AA P W K a c) Φ n X) (FO : FldOk (AA P W K a c)) (IA : IsaOk (AA P W K a c) isaT) (ID : IdOk (AA P W K a c)) (EO : ExqOk (AA P W K a c) 7) (IQ : IsqOk (AA P W K a c) isqT) : WSs (AA P W K a c) X (defBody t8) (d_L_values Φ) :=
 (ws_cons (s_set x 1 (by decide +kernel) (we_lst (wa_c (we_xfE x.toXOk EO c_KnockError fl_field rfl (by decide) (we_ix x.toXOk (we_v x.toXOk 0 (by decide +kernel)) we_int rfl) rfl) (wa_c (we_xfE x.toXOk EO c_KnockError fl_field rfl (by decide) (we_ix x.toXOk (we_v x.toXOk 0 (by decide +kernel)) we_int rfl) rfl) (wa_c (we_xfE x.toXOk EO c_KnockError fl_move rfl (by decide) (we_ix x.toXOk (we_v x.toXOk 0 (by decide +kernel)) we_int rfl) rfl) (wa_c (we_xfE x.toXOk EO c_KnockError fl_at rfl (by decide) (we_ix x.toXOk (we_v x.toXOk 0 (by decide +kernel)) we_int rfl) rfl) (wa_c (we_xfE x.toXOk EO c_KnockError fl_row rfl (by decide) (we_ix x.toXOk (we_v x.toXOk 0 (by decide +kernel)) we_int rfl) rfl) wa_nil rfl) rfl) rfl) rfl) rfl)) rfl)
 (ws_cons (ws_ret (we_op op_addW (opw_add x.toXOk.hK) (we_v x.toXOk 1 (by decide +kernel)) (we_lst (wa_c (we_xfE x.toXOk EO c_KnockError fl_moves rfl (by decide) (we_ix x.toXOk (we_v x.toXOk 0 (by decide +kernel)) we_int rfl) rfl) (wa_c (we_xfE x.toXOk EO c_KnockError fl_many rfl (by decide) (we_ix x.toXOk (we_v x.toXOk 0 (by decide +kernel)) we_int rfl) rfl) (wa_c (we_xfE x.toXOk EO c_KnockError fl_row rfl (by decide) (we_ix x.toXOk (we_v x.toXOk 0 (by decide +kernel)) we_int rfl) rfl) (wa_c (we_xfE x.toXOk EO c_KnockError fl_line rfl (by decide) (we_ix x.toXOk (we_v x.toXOk 0 (by decide +kernel)) we_int rfl) rfl) wa_nil rfl) rfl) rfl) rfl))))
 ws_nil))
/-! law -/
noncomputable abbrev t9 : Stmt := top 28
noncomputable def N9 : List Str := ["_law_script", "_law_k", "_law_pot_here", "_law_things", "_law_turn", "_law_in_order", "_law_called", "_law_errors", "_law_nth", "_law_error", "_law_other", "_law_values_here", "_law_told", "_law_thing"]
noncomputable def d_L_law (Φ : Fns) : EW :=
 sSeq (sFor (iRg1 (aCons (dBi bMax2 (aCons (dC (.int 1)) (aCons (dBi bMin2 (aCons (dC (.int 3)) (aCons (dBi bLen (aCons (dVar 0) (aNil))) (aNil)))) (aNil)))) (aNil))) (.nm 1) (sSeq (sSet 2 (dCall (Φ i_L_pot) (aCons (dVar 0) (aCons (dVar 1) (aNil)))))
 (sSeq (sSet 3 (dComp false (iRg1 (aCons (dC (.int 9)) (aNil))) (.nm 4) (bYes) (dCall (Φ i_L_any) (aCons (dVar 2) (aNil))) [4]))
 (sSeq (sPar 5 6 (aCons (dCall (Φ i_L_of_place) (aCons (dVar 3) (aNil))) (aCons (dCall (Φ i_L_of_name) (aCons (dVar 3) (aNil))) (aNil))))
 (sSeq (sFor (iAny (dTup (aCons (dVar 5) (aCons (dVar 6) (aNil))))) (.nm 7) (sSeq (sFor (iEnumW (dVar 7)) (.tup [.nm 8, .nm 9]) (sSeq (sIf (dOrT (dNotT (dTru (dIsE (fun c => subT c c_KnockError) isqT (.inl c_KnockError) (dVar 9)))) (dNotT (dTru (dIsE (fun c => subT c c_KnockError) isqT (.inr "ValueError") (dVar 9))))) (sSeq (sRet (dC (.bl false)))
 (sNil)) (sNil))
 (sSeq (sIf (dTst (dOp (fEq true) (dCall (Φ i_L_kinds) (aCons (dVar 9) (aNil))) (dComp false (iRg1 (aCons (dC (.int 16)) (aNil))) (.nm 10) (bYes) (dOp (fEq false) (dVar 8) (dVar 10)) [10]))) (sSeq (sRet (dC (.bl false)))
 (sNil)) (sNil))
 (sNil))))
 (sSeq (sSet 11 (dCall (Φ i_L_values) (aCons (dVar 7) (aNil))))
 (sSeq (sIf (dNotT (dTru (dBi bAll (aCons (dComp false (iZip (aCons (dVar 11) (aCons (dVar 3) (aNil)))) (.tup [.nm 12, .nm 13]) (bYes) (dCall (Φ i_L_is_same) (aCons (dVar 12) (aCons (dVar 13) (aNil)))) [12, 13]) (aNil))))) (sSeq (sRet (dC (.bl false)))
 (sNil)) (sNil))
 (sNil)))))
 (sNil))))))
 (sSeq (sRet (dC (.bl true)))
 (sNil))
set_option maxRecDepth 100000 in
theorem w9 (x : StOk (AA P W K a c) N9 (defScope t9) X) (C : COk (AA P W K a c) Φ n X) (FO : FldOk (AA P W K a c)) (IA : IsaOk (AA P W K a c) isaT) (ID : IdOk (AA P W K a c)) (EO : ExqOk (AA P W K a c) 7) (IQ : IsqOk (AA P W K a c) isqT) : WSs (AA P W K a c) X (defBody t9) (d_L_law Φ) :=
 (ws_cons (ws_for x.toXOk.calm (i_rg1 x.toXOk g_range (by decide +kernel) (wa_c (b_max x.toXOk g_max (by decide +kernel) (wa_c we_int (wa_c (b_min x.toXOk g_min (by decide +kernel) (wa_c we_int (wa_c (b_len x.toXOk g_len (by decide +kernel) (wa_c (we_v x.toXOk 0 (by decide +kernel)) wa_nil rfl) rfl) wa_nil rfl) rfl) rfl) wa_nil rfl) rfl) rfl) wa_nil rfl) rfl) (g_nm x 1 (by decide +kernel)) (ws_cons (s_set x 2 (by decide +kernel) (we_f x.toXOk C i_L_pot g__law_pot (by decide +kernel) (wa_c (we_v x.toXOk 0 (by decide +kernel)) (wa_c (we_v x.toXOk 1 (by decide +kernel)) wa_nil rfl) rfl) rfl) rfl)
 (ws_cons (ws_setc x.toXOk (by decide +kernel) (by decide +kernel) ((swapsW_env (env' := envS X (defScope t9)) x.toXOk.hsc).trans (by kernel_rfl)) (i_rg1 x.toXOk g_range (by decide +kernel) (wa_c we_int wa_nil rfl) rfl) (blkOk_by (own := [("_law_turn", 4)]) (by decide +kernel)) (by decide +kernel) (fun _ _ _ _ _ => (g_cm (XOk.blk x.toXOk) 4 (by decide +kernel))) (fun _ _ _ _ _ => wpt_nil) (fun _ _ _ _ _ => (we_f (XOk.blk x.toXOk) (COk.blk C) i_L_any g__law_any (by decide +kernel) (wa_c (we_v (XOk.blk x.toXOk) 2 (by decide +kernel)) wa_nil rfl) rfl)) (fun _ => rfl))
 (ws_cons (s_par2 x 5 6 (by decide +kernel) (wa_c (we_f x.toXOk C i_L_of_place g__law_of_place (by decide +kernel) (wa_c (we_v x.toXOk 3 (by decide +kernel)) wa_nil rfl) rfl) (wa_c (we_f x.toXOk C i_L_of_name g__law_of_name (by decide +kernel) (wa_c (we_v x.toXOk 3 (by decide +kernel)) wa_nil rfl) rfl) wa_nil rfl) rfl) (by kernel_rfl) rfl)
 (ws_cons (ws_for x.toXOk.calm (i_any x.toXOk (we_tup (wa_c (we_v x.toXOk 5 (by decide +kernel)) (wa_c (we_v x.toXOk 6 (by decide +kernel)) wa_nil rfl) rfl))) (g_nm x 7 (by decide +kernel)) (ws_cons (ws_for x.toXOk.calm (i_enum x.toXOk g_enumerate (by decide +kernel) (we_v x.toXOk 7 (by decide +kernel)) rfl) (wg_tup x.toXOk (gs_c (g_nm x 8 (by decide +kernel)) (gs_c (g_nm x 9 (by decide +kernel)) wgs_nil rfl) rfl) rfl rfl) (ws_cons (ws_if (wt_of (ww_or (wt_not (wt_gen x.toXOk.hK (we_isE x.toXOk EO IQ c_KnockError c_KnockError (we_v x.toXOk 9 (by decide +kernel)) g_isinstance (by decide +kernel) g_KnockError (by decide +kernel) rfl) (fun _ => rfl))) (ww_or1 (wt_not (wt_gen x.toXOk.hK (we_isEb x.toXOk EO IQ c_KnockError (by rfl) (we_v x.toXOk 9 (by decide +kernel)) g_isinstance (by decide +kernel) g_ValueError (by decide +kernel) rfl) (fun _ => rfl)))))) (ws_cons (ws_ret we_bl)
 ws_nil) ws_nil)
 (ws_cons (ws_if (wt_cmp (op_neW x.toXOk.u64) (opw_ne x.toXOk.hK) rfl (we_f x.toXOk C i_L_kinds g__law_kinds (by decide +kernel) (wa_c (we_v x.toXOk 9 (by decide +kernel)) wa_nil rfl) rfl) (we_comp x.toXOk (i_rg1 x.toXOk g_range (by decide +kernel) (wa_c we_int wa_nil rfl) rfl) (blkOk_by (own := [("_law_other", 10)]) (by decide +kernel)) (by decide +kernel) (fun _ _ _ _ _ => (g_cm (XOk.blk x.toXOk) 10 (by decide +kernel))) (fun _ _ _ _ _ => wpt_nil) (fun _ _ _ _ _ => (we_cmp (op_eqW (XOk.blk x.toXOk).u64) (opw_eq (XOk.blk x.toXOk).hK) rfl (we_v (XOk.blk x.toXOk) 8 (by decide +kernel)) (we_v (XOk.blk x.toXOk) 10 (by decide +kernel)))) (fun _ => rfl))) (ws_cons (ws_ret we_bl)
 ws_nil) ws_nil)
 ws_nil)) (fun _ => rfl))
 (ws_cons (s_set x 11 (by decide +kernel) (we_f x.toXOk C i_L_values g__law_values (by decide +kernel) (wa_c (we_v x.toXOk 7 (by decide +kernel)) wa_nil rfl) rfl) rfl)
 (ws_cons (ws_if (wt_not (wt_gen x.toXOk.hK (b_all x.toXOk g_all (by decide +kernel) (wa_c (we_comp x.toXOk (i_zip x.toXOk g_zip (by decide +kernel) (wa_c (we_v x.toXOk 11 (by decide +kernel)) (wa_c (we_v x.toXOk 3 (by decide +kernel)) wa_nil rfl) rfl) rfl) (blkOk_by (own := [("_law_told", 12), ("_law_thing", 13)]) (by decide +kernel)) (by decide +kernel) (fun _ _ _ _ _ => (wg_tup (XOk.blk x.toXOk) (gs_c (g_cm (XOk.blk x.toXOk) 12 (by decide +kernel)) (gs_c (g_cm (XOk.blk x.toXOk) 13 (by decide +kernel)) wgs_nil rfl) rfl) rfl rfl)) (fun _ _ _ _ _ => wpt_nil) (fun _ _ _ _ _ => (we_f (XOk.blk x.toXOk) (COk.blk C) i_L_is_same g__law_is_same (by decide +kernel) (wa_c (we_v (XOk.blk x.toXOk) 12 (by decide +kernel)) (wa_c (we_v (XOk.blk x.toXOk) 13 (by decide +kernel)) wa_nil rfl) rfl) rfl)) (fun _ => rfl)) wa_nil rfl) rfl) (fun _ => rfl))) (ws_cons (ws_ret we_bl)
 ws_nil) ws_nil)
 ws_nil))) (fun _ => rfl))
 ws_nil)))) (fun _ => rfl))
 (ws_cons (ws_ret we_bl)
 ws_nil))
end
noncomputable def DD (Φ : Fns) : Nat → EW
  | 0 => d_L_pot Φ
  | 1 => d_L_take Φ
  | 2 => d_L_of Φ
  | 3 => d_L_kinds Φ
  | 4 => d_L_any Φ
  | 5 => d_L_is_same Φ
  | 6 => d_L_of_place Φ
  | 7 => d_L_of_name Φ
  | 8 => d_L_values Φ
  | 9 => d_L_law Φ
  | _ => sNo
noncomputable def slT (i : Nat) : Nat := ([4, 3, 2, 2, 4, 2, 2, 2, 2, 14] : List Nat).getD i 0
noncomputable def npT (i : Nat) : Nat := ([2, 2, 2, 1, 1, 2, 1, 1, 1, 1] : List Nat).getD i 0
/-- the program: how deep, which def -/
noncomputable abbrev prg (k : Nat) : Fns := sem DD slT npT k
theorem r_L_pot {k : Nat} {args : List W} {h : WH} (e : args.length = 2) : prg (k + 1) i_L_pot args h = fin h (d_L_pot (prg k) (args.map some ++ List.replicate 2 none) h) := run_fin (np := npT i_L_pot) (sl := slT i_L_pot) e
theorem r_L_take {k : Nat} {args : List W} {h : WH} (e : args.length = 2) : prg (k + 1) i_L_take args h = fin h (d_L_take (prg k) (args.map some ++ List.replicate 1 none) h) := run_fin (np := npT i_L_take) (sl := slT i_L_take) e
theorem r_L_of {k : Nat} {args : List W} {h : WH} (e : args.length = 2) : prg (k + 1) i_L_of args h = fin h (d_L_of (prg k) (args.map some ++ List.replicate 0 none) h) := run_fin (np := npT i_L_of) (sl := slT i_L_of) e
theorem r_L_kinds {k : Nat} {args : List W} {h : WH} (e : args.length = 1) : prg (k + 1) i_L_kinds args h = fin h (d_L_kinds (prg k) (args.map some ++ List.replicate 1 none) h) := run_fin (np := npT i_L_kinds) (sl := slT i_L_kinds) e
theorem r_L_any {k : Nat} {args : List W} {h : WH} (e : args.length = 1) : prg (k + 1) i_L_any args h = fin h (d_L_any (prg k) (args.map some ++ List.replicate 3 none) h) := run_fin (np := npT i_L_any) (sl := slT i_L_any) e
theorem r_L_is_same {k : Nat} {args : List W} {h : WH} (e : args.length = 2) : prg (k + 1) i_L_is_same args h = fin h (d_L_is_same (prg k) (args.map some ++ List.replicate 0 none) h) := run_fin (np := npT i_L_is_same) (sl := slT i_L_is_same) e
theorem r_L_of_place {k : Nat} {args : List W} {h : WH} (e : args.length = 1) : prg (k + 1) i_L_of_place args h = fin h (d_L_of_place (prg k) (args.map some ++ List.replicate 1 none) h) := run_fin (np := npT i_L_of_place) (sl := slT i_L_of_place) e
theorem r_L_of_name {k : Nat} {args : List W} {h : WH} (e : args.length = 1) : prg (k + 1) i_L_of_name args h = fin h (d_L_of_name (prg k) (args.map some ++ List.replicate 1 none) h) := run_fin (np := npT i_L_of_name) (sl := slT i_L_of_name) e
theorem r_L_values {k : Nat} {args : List W} {h : WH} (e : args.length = 1) : prg (k + 1) i_L_values args h = fin h (d_L_values (prg k) (args.map some ++ List.replicate 1 none) h) := run_fin (np := npT i_L_values) (sl := slT i_L_values) e
theorem r_L_law {k : Nat} {args : List W} {h : WH} (e : args.length = 1) : prg (k + 1) i_L_law args h = fin h (d_L_law (prg k) (args.map some ++ List.replicate 13 none) h) := run_fin (np := npT i_L_law) (sl := slT i_L_law) e
end KW.P

set_option Elab.async false
set_option linter.all false
set_option maxRecDepth 100000
set_option maxHeartbeats 4000000
/-! k50: the hand -/
namespace KW.P
open PySem L2 KW TL PySem.NumText
theorem lm : 0 ≤ lim ∧ 1 ≤ lim ∧ 2 ≤ lim ∧ 3 ≤ lim ∧ 4 ≤ lim ∧ 5 ≤ lim ∧ 6 ≤ lim ∧ 7 ≤ lim ∧ 8 ≤ lim ∧ 9 ≤ lim ∧ 10 ≤ lim ∧ 11 ≤ lim ∧ 12 ≤ lim ∧ 13 ≤ lim ∧ 14 ≤ lim ∧ 15 ≤ lim ∧ 16 ≤ lim := by decide
theorem c1 : cl ("1" : Str) = [49] := by decide +kernel
theorem c0 : cl ("0" : Str) = [48] := by decide +kernel
theorem rep_cl (k : Nat) : cl (repS k ("0" : Str)) = List.replicate k 48 := by
  show (repS k ("0" : Str)).cps.toList = _
  rw [repS_tl]
  have e : ("0" : Str).cps.toList = [48] := c0
  rw [e]
  induction k with
  | zero => rfl
  | succ k ih => rw [List.replicate_succ, List.flatten_cons, ih]; rfl
theorem z_cl (k : Nat) : cl (("1" : Str) ++ repS k ("0" : Str)) = 49 :: List.replicate k 48 := by
  rw [cl_app, c1, rep_cl]; rfl
theorem dv_go : ∀ (k a : Nat), (List.replicate k 48).foldl (fun acc c => acc * 10 + (c - 48)) a = a * 10 ^ k
  | 0, a => by simp
  | k + 1, a => by rw [List.replicate_succ, List.foldl_cons, dv_go k]; rw [Nat.pow_succ]; simp [Nat.mul_assoc, Nat.mul_comm]
theorem dv (k : Nat) : digitsVal (49 :: List.replicate k 48) = 10 ^ k := by
  unfold digitsVal
  rw [List.foldl_cons, dv_go]
  simp
theorem z_len (k : Nat) : (("1" : Str) ++ repS k ("0" : Str)).length = k + 1 := by rw [cl_len, z_cl]; simp
theorem r_len (k : Nat) : (repS k ("0" : Str)).length = k := by rw [cl_len, rep_cl]; simp
theorem z_text (k : Nat) (hk : k ≤ 4200) : intText? (("1" : Str) ++ repS k ("0" : Str)) = some (((10 ^ k : Nat)) : Int) := by
  have e : (("1" : Str) ++ repS k ("0" : Str)).cps.toList = 49 :: List.replicate k 48 := z_cl k
  have q := intText_digits (x := ("1" : Str) ++ repS k ("0" : Str)) (by
    rw [e]
    intro c hc
    simp only [List.mem_cons, List.mem_replicate] at hc
    omega) (by rw [e]; simp) (by rw [z_len]; omega)
  rw [q, e, dv]
/-- the number that such a text is -/
theorem z_int (k : Nat) (j : Int) (hj : j = (k : Int)) (hk : k ≤ 4200) : ∃ (t : Int) (n : Nat), 0 < t ∧ n < 20000 ∧ 1 ≤ n ∧ t.natAbs < 2 ^ n ∧ ∀ (sw : WS) (h : WH), dBi bIntL (aCons (dOp (fAdd false) (dC (.str ("1" : Str))) (dOp fMulS (dC (.str ("0" : Str))) (dC (.int j)))) aNil) sw h = .ok (.int t) h := by
  subst hj
  refine ⟨((10 ^ k : Nat) : Int), 16800, ?_, by decide, by decide, ?_, fun sw h => ?_⟩
  · have := Nat.pow_pos (n := k) (show 0 < 10 by decide); omega
  · rw [Int.natAbs_natCast]
    calc 10 ^ k ≤ 10 ^ 4200 := Nat.pow_le_pow_right (by decide) hk
      _ < 2 ^ 16800 := by decide +kernel
  · have e0 : ("0" : Str).length = 1 := by decide +kernel
    have e1 : ("1" : Str).length = 1 := by decide +kernel
    have e2 : fMulS (.str ("0" : Str)) (.int (k : Nat)) h = .ok (.str (repS k ("0" : Str))) h := by
      rw [f_mulS, if_pos (by rw [e0]; refine ⟨by omega, by omega, by simp; omega⟩)]
      simp
    have e3 : fAdd false (.str ("1" : Str)) (.str (repS k ("0" : Str))) h = .ok (.str (("1" : Str) ++ repS k ("0" : Str))) h := by
      show (if _ then _ else _) = _
      rw [if_pos (by rw [e1, r_len]; unfold lim; omega)]
    have e4 : bIntL [.str (("1" : Str) ++ repS k ("0" : Str))] h = .ok (.int ((10 ^ k : Nat) : Int)) h := by
      show (match intText? (("1" : Str) ++ repS k ("0" : Str)) with | some n => if (("1" : Str) ++ repS k ("0" : Str)).length ≤ lim then R.ok (W.int n) h else R.no | none => R.no) = _
      rw [z_text k hk]
      dsimp only
      rw [if_pos (by rw [z_len]; unfold lim; omega)]
    simp only [x_bi, x_cons, x_nil, x_op, x_c, x_bind, e2, e3, e4]
structure Hd where
  g : Int
  m : Int
noncomputable abbrev HO (a : Hd) : Ob := .lst [.int a.g, .int a.m]
structure Hd.Ok (a : Hd) : Prop where
  g : 0 ≤ a.g
  m : 0 ≤ a.m ∧ a.m < 2 ^ 61
theorem ho_lt {a : Hd} {n : Nat} : (HO a).lt n = true := by simp [HO, Ob.lt, W.lts, W.lt]
theorem gc_ho {h : WH} {r : Nat} {a : Hd} {w : W} {e : WH} (hr : r < h.length) (hw : w.lt h.length = true) : gc h.length w h (h.set r (HO a) ++ e) = h.set r (HO a) := by
  refine gc_drop (by simp) hw fun i hi => ?_
  by_cases z : r = i
  · subst z
    exact .inr ⟨_, List.getElem?_set_self hr, ho_lt⟩
  · exact .inl (List.getElem?_set_ne z)
theorem take_g {k : Nat} {h : WH} {r : Nat} {a : Hd} {n : Int} (hr : h[r]? = some (HO a)) (hg : 0 < a.g) (hn : 0 < n) (hl : divB n = true) :
    prg (k + 1) i_L_take [.ref r, .int n] h = .ok (.int (a.g % n)) (h.set r (HO { a with g := a.g / n })) := by
  rw [r_L_take (show [W.ref r, W.int n].length = 2 from rfl)]
  simp [d_L_take, f_ixR hr, setI_ok hr (i := 0) (n := 0) rfl, hg, hn, hl]
theorem take_ok {k : Nat} {h : WH} {r : Nat} {a : Hd} {n : Int} (hr : h[r]? = some (HO a)) (ha : a.Ok) (hn : 0 < n) (hl : n < 1000000) :
    ∃ d a', prg (k + 1) i_L_take [.ref r, .int n] h = .ok (.int d) (h.set r (HO a')) ∧ 0 ≤ d ∧ d < n ∧ a'.Ok := by
  by_cases hg : 0 < a.g
  · refine ⟨_, _, take_g hr hg hn (divB_of hn (by omega)), Int.emod_nonneg _ (by omega), Int.emod_lt_of_pos _ hn, ?_, ha.m⟩
    exact Int.ediv_nonneg ha.g (by omega)
  · obtain ⟨m0, m1⟩ := ha.m
    have k1 : mulB a.m 1181783497276652981 = true := mulB_of 100 (by omega) (by decide) (by decide)
    generalize hx : (a.m * 1181783497276652981 + 12345678910987) % 2305843009213693951 = x
    have x0 : 0 ≤ x := by rw [← hx]; exact Int.emod_nonneg _ (by decide)
    have x1 : x < 2305843009213693951 := by rw [← hx]; exact Int.emod_lt_of_pos _ (by decide)
    have y0 := Int.ediv_nonneg x0 (show (0 : Int) ≤ 65537 by decide)
    have y1 : x / 65537 ≤ x := Int.ediv_le_self _ x0
    have y2 := Int.emod_nonneg x (show (65537 : Int) ≠ 0 by decide)
    have y3 := Int.emod_lt_of_pos x (show (0 : Int) < 65537 by decide)
    have k2 : mulB (x / 65537) (x % 65537 + 3) = true := mulB_of 100 (by omega) (by omega) (by decide)
    have d1 : divB 65537 = true := by decide
    have d2 : divB 97 = true := by decide
    refine ⟨x / 65537 * (x % 65537 + 3) % 2305843009213693921 / 97 % n, { a with m := x }, ?_, Int.emod_nonneg _ (by omega), Int.emod_lt_of_pos _ hn, ha.g, x0, by show x < _; omega⟩
    rw [r_L_take (show [W.ref r, W.int n].length = 2 from rfl)]
    have hr2 := get_same (x := HO { a with m := x }) hr
    simp only [HO] at hr2
    simp [d_L_take, f_ixR hr, f_ixR hr2, setI_ok hr (i := 1) (n := 1) rfl, hg, hn, lm, k1, k2, d1, d2, hx]
theorem of_lst {k : Nat} {h : WH} {r : Nat} {a : Hd} {ws : List W} (hr : h[r]? = some (HO a)) (ha : a.Ok) (h0 : ws ≠ []) (hl : ws.length < 1000) :
    ∃ w a', prg (k + 2) i_L_of [.ref r, .lst ws] h = .ok w (h.set r (HO a')) ∧ w ∈ ws ∧ a'.Ok := by
  have hp : 0 < ws.length := List.length_pos_iff.mpr h0
  obtain ⟨d, a', e, d0, d1, ok⟩ := take_ok (k := k) (n := (ws.length : Nat)) hr ha (by omega) (by omega)
  obtain ⟨w, hw, ew⟩ := atMem (xs := ws) d0 d1
  refine ⟨w, a', ?_, hw, ok⟩
  rw [r_L_of (show [W.ref r, W.lst ws].length = 2 from rfl)]
  simp [d_L_of, bLen, seqOf, lstOf, e, ew]
/-- the hand -/
theorem pot_ok {k : Nat} {h : WH} {ns : List Int} {i : Nat} (hi : i ≤ 3) (hl : ns.length ≤ 63) : ∃ a : Hd, prg (k + 1) i_L_pot [.scr ns, .int i] h = .ok (.ref h.length) (h ++ [HO a]) ∧ a.Ok := by
  rw [r_L_pot (show [W.scr ns, W.int (i : Nat)].length = 2 from rfl)]
  obtain ⟨t, n, t0, n1, n0, t1, et⟩ := z_int 900 900 rfl (by decide)
  show ∃ a : Hd, fin h (d_L_pot (prg k) [some (.scr ns), some (.int i), none, none] h) = _ ∧ _
  unfold d_L_pot
  generalize dBi bIntL (aCons (dOp (fAdd false) (dC (.str ("1" : Str))) (dOp fMulS (dC (.str ("0" : Str))) (dC (.int 900)))) (aNil)) = E9 at et ⊢
  have bl : bLen [.scr ns] h = .ok (.int ns.length) h := by simp [bLen, seqOf]
  have m3 : mulB 3 (i : Int) = true := mulB_of 100 (by omega) (by omega) (by decide)
  have k1 : mulB 7919 (i : Int) = true := mulB_of 100 (by omega) (by omega) (by decide)
  have i2 : 0 ≤ 7919 * (i : Int) * i := by
    have : (7919 * (i : Int) * i) = ((7919 * i * i : Nat) : Int) := by push_cast; rfl
    omega
  have i3 : 7919 * (i : Int) * i ≤ 100000 := by
    have : 7919 * i * i ≤ 7919 * 3 * 3 := Nat.mul_le_mul (Nat.mul_le_mul_left _ hi) hi
    have e : (7919 * (i : Int) * i) = ((7919 * i * i : Nat) : Int) := by push_cast; rfl
    omega
  have k2 : mulB (7919 * (i : Int)) i = true := mulB_of 100 (by omega) (by omega) (by decide)
  have p3 : powB 10 18 = true := by decide +kernel
  have q3 : ∀ g : WH, fPow (.int 10) (.int 18) g = .ok (.int (10 ^ 18)) g := fun g => by rw [f_pow, if_pos p3]; rfl
  have key : ∀ c : Int, ∃ a : Hd, (sSeq (sSet 3 (dOp (fMul false) (dOp (fMod) (dBi bAbs (aCons (dVar 2) (aNil))) E9) (dBi bInt (aCons (dOp (fInt fun i j => decide (j ≤ i)) (dBi bAbs (aCons (dVar 2) (aNil))) (dOp (fPow) (dC (.int 10)) (dC (.int 18)))) (aNil)))))
 (sSeq (sRet (dLst true (aCons (dVar 3) (aCons (dOp (fMod) (dOp (fMul false) (dOp (fAdd false) (dOp (fAdd false) (dOp (fMod) (dVar 2) (dC (.int 2305843009213693951))) (dOp (fMul false) (dOp (fMul false) (dC (.int 7919)) (dVar 1)) (dVar 1))) (dC (.int 11))) (dC (.int 48271))) (dC (.int 2305843009213693951))) (aNil)))))
 (sNil))) [some (.scr ns), some (.int i), some (.int c), none] h = .ok (.ret (.ref h.length)) (h ++ [HO a]) ∧ a.Ok := fun c => by
    generalize hb : (if c < 0 then -c else c) = b
    have b0 : 0 ≤ b := by rw [← hb]; split <;> omega
    have x0 : 0 ≤ b % t := Int.emod_nonneg _ (by omega)
    have x1 : b % t < t := Int.emod_lt_of_pos _ t0
    have ab : ∀ g : WH, bAbs [.int c] g = .ok (.int b) g := fun g => by simp only [bAbs, hb]
    generalize hy : (if decide ((10 : Int) ^ 18 ≤ b) then (1 : Int) else 0) = y
    have y0 : y = 0 ∨ y = 1 := by rw [← hy]; split <;> simp
    have bi : ∀ g : WH, bInt [.bl (decide ((10 : Int) ^ 18 ≤ b))] g = .ok (.int y) g := fun g => by simp only [bInt, hy]
    have pw : 1 < 2 ^ n := Nat.one_lt_two_pow (by omega)
    have yn : y.natAbs < 2 ^ n := by rcases y0 with rfl | rfl <;> simp <;> omega
    have mm : mulB (b % t) y = true := mulB_of n (by omega) yn (by omega)
    have c0 := Int.emod_nonneg c (show (2305843009213693951 : Int) ≠ 0 by decide)
    have c1 := Int.emod_lt_of_pos c (show (0 : Int) < 2305843009213693951 by decide)
    have k3 : mulB (c % 2305843009213693951 + 7919 * (i : Int) * i + 11) 48271 = true := mulB_of 100 (by omega) (by decide) (by decide)
    generalize hm : (c % 2305843009213693951 + 7919 * (i : Int) * i + 11) * 48271 % 2305843009213693951 = m
    refine ⟨⟨b % t * y, m⟩, ?_, ⟨?_, ?_, ?_⟩⟩
    · have e2 : dOp (fMul false) (dOp (fMod) (dBi bAbs (aCons (dVar 2) (aNil))) E9) (dBi bInt (aCons (dOp (fInt fun i j => decide (j ≤ i)) (dBi bAbs (aCons (dVar 2) (aNil))) (dOp (fPow) (dC (.int 10)) (dC (.int 18)))) (aNil))) [some (.scr ns), some (.int i), some (.int c), none] h = .ok (.int (b % t * y)) h := by
        simp only [x_op, x_bi, x_cons, x_nil, x_var, List.getElem?_cons_succ, List.getElem?_cons_zero, x_bind, ab, et, f_mod, if_pos t0, x_c, q3, f_int, bi, f_mul, mm, if_true]
      rw [x_seq, x_set, e2]
      simp [k1, k2, k3, hm, lm]
    · show 0 ≤ b % t * y
      rcases y0 with rfl | rfl <;> omega
    · show 0 ≤ m
      rw [← hm]; exact Int.emod_nonneg _ (by decide)
    · show m < _
      have := Int.emod_lt_of_pos ((c % 2305843009213693951 + 7919 * (i : Int) * i + 11) * 48271) (show (0 : Int) < 2305843009213693951 by decide)
      rw [hm] at this
      omega
  have rg : ∀ a : Hd, gc h.length (.ref h.length) h (h ++ [HO a]) = h ++ [HO a] := fun a => ref_gc (Nat.le_refl _)
  by_cases z : (i : Int) < (ns.length : Int)
  · have hz : i < ns.length := by omega
    have q : fIx (.scr ns) (.int (i : Int)) h = .ok (.int ns[i]) h := by
      show (match atI (ns.map W.int) (i : Int) with | some w => R.ok w h | none => .no) = _
      rw [show atI (ns.map W.int) (i : Int) = some (.int ns[i]) from atI_nat (by rw [List.getElem?_map, List.getElem?_eq_getElem hz]; rfl)]
    obtain ⟨a, ea, ok⟩ := key ns[i]
    refine ⟨a, ?_, ok⟩
    have s1 : sSet 2 (dOp (fAdd false) (dOp (fMul false) (dC (.int 3)) (dVar 1)) (dBi bLen (aCons (dVar 0) (aNil)))) [some (.scr ns), some (.int i), none, none] h = .ok (.next [some (.scr ns), some (.int i), some (.int (3 * i + ns.length)), none]) h := by simp [bl, m3]
    have s2 : sIf (dTst (dOp (fInt fun i j => decide (i < j)) (dVar 1) (dBi bLen (aCons (dVar 0) (aNil))))) (sSeq (sSet 2 (dOp fIx (dVar 0) (dVar 1))) (sNil)) (sNil) [some (.scr ns), some (.int i), some (.int (3 * i + ns.length)), none] h = .ok (.next [some (.scr ns), some (.int i), some (.int ns[i]), none]) h := by simp [bl, z, hz, q]
    rw [x_seq, s1, q_next, x_seq, s2, q_next, ea]
    simp [rg]
  · have hz : ¬ i < ns.length := by omega
    obtain ⟨a, ea, ok⟩ := key (3 * (i : Int) + ns.length)
    refine ⟨a, ?_, ok⟩
    have s1 : sSet 2 (dOp (fAdd false) (dOp (fMul false) (dC (.int 3)) (dVar 1)) (dBi bLen (aCons (dVar 0) (aNil)))) [some (.scr ns), some (.int i), none, none] h = .ok (.next [some (.scr ns), some (.int i), some (.int (3 * i + ns.length)), none]) h := by simp [bl, m3]
    have s2 : sIf (dTst (dOp (fInt fun i j => decide (i < j)) (dVar 1) (dBi bLen (aCons (dVar 0) (aNil))))) (sSeq (sSet 2 (dOp fIx (dVar 0) (dVar 1))) (sNil)) (sNil) [some (.scr ns), some (.int i), some (.int (3 * i + ns.length)), none] h = .ok (.next [some (.scr ns), some (.int i), some (.int (3 * i + ns.length)), none]) h := by simp [bl, z, hz]
    rw [x_seq, s1, q_next, x_seq, s2, q_next, ea]
    simp [rg]
end KW.P

set_option Elab.async false
set_option linter.all false
set_option maxRecDepth 100000
set_option maxHeartbeats 4000000
/-! k50: things of any kind -/
namespace KW.P
open PySem L2 KW TL
theorem eqN {m : Bool} {a b : Int} {h : WH} : fEq m (.int a) (.int b) h = .ok (.bl (decide (a = b) != m)) h := rfl
theorem sif_t {ta : EB} {s r : EW} {sw : WS} {g h : WH} (e : ta sw h = .ok true g) : sIf ta s r sw h = s sw g := by rw [x_sif, e]; rfl
theorem sif_f {ta : EB} {s r : EW} {sw : WS} {g h : WH} (e : ta sw h = .ok false g) : sIf ta s r sw h = r sw g := by rw [x_sif, e]; rfl
structure Tg (d : Nat) (w : W) : Prop where
  n : nstW w = true
  d : dpW w ≤ d
  l : ∀ n, w.lt n = true
theorem Tg.mono {d e : Nat} {w : W} (t : Tg d w) (h : d ≤ e) : Tg e w := ⟨t.n, Nat.le_trans t.d h, t.l⟩
noncomputable def BS : List W := [.non, .bl true, .bl false, .int 0, .int 7, .int (-3), .int (10 ^ 60), .str "", .str "size", .str "x y", .tup [], .lst [], .dct [] [], .tup [.int 1, .str "a"], .lst [.non], .dct [.str "k"] [.int 2]]
theorem bs_tg : ∀ w ∈ BS, Tg 2 w := by
  intro w hw
  simp only [BS, List.mem_cons, List.not_mem_nil, or_false] at hw
  rcases hw with rfl | rfl | rfl | rfl | rfl | rfl | rfl | rfl | rfl | rfl | rfl | rfl | rfl | rfl | rfl | rfl <;>
    exact ⟨by decide +kernel, by decide +kernel, fun n => by simp [W.lt, W.lts]⟩
theorem tg_int (i : Int) : Tg 2 (.int i) := ⟨rfl, by simp [dpW], fun n => rfl⟩
theorem tg_wrap {d : Nat} {w : W} (t : Tg d w) : ∀ u ∈ [W.tup [w], .lst [w], .dct [.str "a"] [w], .tup [w, .non]], Tg (d + 1) u := by
  intro u hu
  have h1 := t.d
  have h2 := t.n
  have h3 : 1 ≤ dpW w := by cases w <;> simp [dpW]
  simp only [List.mem_cons, List.not_mem_nil, or_false] at hu
  rcases hu with rfl | rfl | rfl | rfl
  · exact ⟨by simp [nstW, nstWs, h2], by simp [dpW, dpWs]; omega, fun n => by simp [W.lt, W.lts, t.l n]⟩
  · exact ⟨by simp [nstW, nstWs, h2], by simp [dpW, dpWs]; omega, fun n => by simp [W.lt, W.lts, t.l n]⟩
  · exact ⟨by simp [nstW, nstWs, oneK, h2], by simp [dpW, dpWs]; omega, fun n => by simp [W.lt, W.lts, t.l n]⟩
  · exact ⟨by simp [nstW, nstWs, h2], by simp [dpW, dpWs]; omega, fun n => by simp [W.lt, W.lts, t.l n]⟩
theorem fd1 {q : Str} {w : W} : foldD [(.str q, w)] ([], []) = some ([.str q], [w]) := rfl
theorem base_run {sw : WS} {h : WH} : dLst false (aCons (dC .non) (aCons (dC (.bl true)) (aCons (dC (.bl false)) (aCons (dC (.int 0)) (aCons (dC (.int 7)) (aCons (dNeg (dC (.int 3))) (aCons (dOp (fPow) (dC (.int 10)) (dC (.int 60))) (aCons (dC (.str ("" : Str))) (aCons (dC (.str ("size" : Str))) (aCons (dC (.str ("x y" : Str))) (aCons (dTup (aNil)) (aCons (dLst false (aNil)) (aCons (dDict0 false) (aCons (dTup (aCons (dC (.int 1)) (aCons (dC (.str ("a" : Str))) (aNil)))) (aCons (dLst false (aCons (dC .non) (aNil))) (aCons (dDisp false [(dC (.str ("k" : Str)), dC (.int 2))]) (aNil))))))))))))))))) sw h = .ok (.lst BS) h := by
  have p60 : powB 10 60 = true := by decide +kernel
  simp [lm, p60, BS, fd1]
theorem set_len {h : WH} {r : Nat} {a : Hd} {x : Hd} (hr : h[r]? = some (HO a)) : (h.set r (HO x))[r]? = some (HO x) := get_same hr
/-- one wrapping -/
theorem wrap_step {k : Nat} {h : WH} {r : Nat} {a : Hd} {x z : Option W} {w : W} {d : Nat} (hr : h[r]? = some (HO a)) (ha : a.Ok) (t : Tg d w) :
    ∃ w' a', sSeq (sSet 2 (dOp fIx (dLst false (aCons (dTup (aCons (dVar 2) (aNil))) (aCons (dLst false (aCons (dVar 2) (aNil))) (aCons (dDisp false [(dC (.str ("a" : Str)), dVar 2)]) (aCons (dTup (aCons (dVar 2) (aCons (dC .non) (aNil)))) (aNil)))))) (dCall ((prg (k + 1)) i_L_take) (aCons (dVar 0) (aCons (dC (.int 4)) (aNil)))))) sNil
      [some (.ref r), x, some w, z] h = .ok (.next [some (.ref r), x, some w', z]) (h.set r (HO a')) ∧ a'.Ok ∧ Tg (d + 1) w' := by
  obtain ⟨i, a', e, i0, i1, ok⟩ := take_ok (k := k) (n := 4) hr ha (by decide) (by decide)
  obtain ⟨w', hw, ew⟩ := atMem (xs := [W.tup [w], .lst [w], .dct [.str "a"] [w], .tup [w, .non]]) i0 (by simpa using i1)
  refine ⟨w', a', ?_, ok, tg_wrap t w' hw⟩
  simp [lm, e, ew, seqOf, lstOf, fd1]
theorem five : ∀ w ∈ [W.int 0, .int 0, .int 1, .int 2, .int 12], ∃ n : Nat, w = .int (n : Int) ∧ n ≤ 12 := by
  intro w hw
  simp only [List.mem_cons, List.not_mem_nil, or_false] at hw
  rcases hw with rfl | rfl | rfl | rfl | rfl
  · exact ⟨0, rfl, by decide⟩
  · exact ⟨0, rfl, by decide⟩
  · exact ⟨1, rfl, by decide⟩
  · exact ⟨2, rfl, by decide⟩
  · exact ⟨12, rfl, by decide⟩
theorem mul_big {t u : Int} {n m : Nat} (ht : t.natAbs < 2 ^ n) (hu : u.natAbs < 2 ^ m) (hn : n < 20000) (hm : m < 20000) : mulB 7 t = true ∧ mulB (7 * t) u = true := by
  have l1 := lg0 n ht
  have l2 := lg0 m hu
  have l3 := lg0 (i := 7 * t) (n + 3) (by
    rw [Int.natAbs_mul, Nat.pow_add]
    show 7 * t.natAbs < 2 ^ n * 2 ^ 3
    omega)
  have l7 := lg0 (i := 7) 3 (by decide)
  exact ⟨decide_eq_true (by omega), decide_eq_true (by omega)⟩
/-- a thing of any kind -/
theorem any_ok {k : Nat} {h : WH} {r : Nat} {a : Hd} (hr : h[r]? = some (HO a)) (ha : a.Ok) : ∃ w a', prg (k + 3) i_L_any [.ref r] h = .ok w (h.set r (HO a')) ∧ a'.Ok ∧ Tg 14 w := by
  rw [r_L_any (show [W.ref r].length = 1 from rfl)]
  obtain ⟨t4, n4, _, b4, _, u4, e4⟩ := z_int 4000 4000 rfl (by decide)
  obtain ⟨t1, n1, _, b1, _, u1, e1⟩ := z_int 1000 1000 rfl (by decide)
  obtain ⟨m1, m2⟩ := mul_big u4 u1 b4 b1
  show ∃ w a', fin h (d_L_any (prg (k + 2)) [some (.ref r), none, none, none] h) = _ ∧ _
  unfold d_L_any
  generalize dBi bIntL (aCons (dOp (fAdd false) (dC (.str ("1" : Str))) (dOp fMulS (dC (.str ("0" : Str))) (dC (.int 4000)))) (aNil)) = E4 at e4 ⊢
  generalize dBi bIntL (aCons (dOp (fAdd false) (dC (.str ("1" : Str))) (dOp fMulS (dC (.str ("0" : Str))) (dC (.int 1000)))) (aNil)) = E1 at e1 ⊢
  have hl : r < h.length := (List.getElem?_eq_some_iff.mp hr).1
  obtain ⟨w0, a0, eo, hw0, ok0⟩ := of_lst (k := k) hr ha (show BS ≠ [] by decide) (show BS.length < 1000 by decide)
  have hr0 := set_len (x := a0) hr
  obtain ⟨d, a1, et, d0, d1, ok1⟩ := take_ok (k := k + 1) (n := 9) hr0 ok0 (by decide) (by decide)
  rw [List.set_set] at et
  have et : prg (k + 2) i_L_take [.ref r, .int 9] (h.set r (HO a0)) = .ok (.int d) (h.set r (HO a1)) := et
  have hr1 := set_len (x := a1) hr
  have s1 : sSet 1 (dLst false (aCons (dC .non) (aCons (dC (.bl true)) (aCons (dC (.bl false)) (aCons (dC (.int 0)) (aCons (dC (.int 7)) (aCons (dNeg (dC (.int 3))) (aCons (dOp (fPow) (dC (.int 10)) (dC (.int 60))) (aCons (dC (.str ("" : Str))) (aCons (dC (.str ("size" : Str))) (aCons (dC (.str ("x y" : Str))) (aCons (dTup (aNil)) (aCons (dLst false (aNil)) (aCons (dDict0 false) (aCons (dTup (aCons (dC (.int 1)) (aCons (dC (.str ("a" : Str))) (aNil)))) (aCons (dLst false (aCons (dC .non) (aNil))) (aCons (dDisp false [(dC (.str ("k" : Str)), dC (.int 2))]) (aNil)))))))))))))))))) [some (.ref r), none, none, none] h = .ok (.next [some (.ref r), some (.lst BS), none, none]) h := by
    rw [x_set, base_run]; rfl
  have s2 : sSet 2 (dCall ((prg (k + 2)) i_L_of) (aCons (dVar 0) (aCons (dVar 1) (aNil)))) [some (.ref r), some (.lst BS), none, none] h = .ok (.next [some (.ref r), some (.lst BS), some w0, none]) (h.set r (HO a0)) := by simp [eo]
  obtain ⟨w1, s3, g1⟩ : ∃ w1, sIf (dTst (dOp (fEq false) (dCall ((prg (k + 2)) i_L_take) (aCons (dVar 0) (aCons (dC (.int 9)) (aNil)))) (dC (.int 0)))) (sSeq (sSet 2 (dOp (fMul false) (dOp (fMul false) (dC (.int 7)) E4) E1)) (sNil)) (sNil) [some (.ref r), some (.lst BS), some w0, none] (h.set r (HO a0)) = .ok (.next [some (.ref r), some (.lst BS), some w1, none]) (h.set r (HO a1)) ∧ Tg 2 w1 := by
    generalize prg (k + 2) i_L_take = F at et ⊢
    have c : dTst (dOp (fEq false) (dCall F (aCons (dVar 0) (aCons (dC (.int 9)) (aNil)))) (dC (.int 0))) [some (.ref r), some (.lst BS), some w0, none] (h.set r (HO a0)) = .ok (decide (d = 0)) (h.set r (HO a1)) := by
      generalize BS = bs
      simp [et, eqN]
    by_cases z : d = 0
    · refine ⟨.int (7 * t4 * t1), ?_, tg_int _⟩
      have q : dOp (fMul false) (dOp (fMul false) (dC (.int 7)) E4) E1 [some (.ref r), some (.lst BS), some w0, none] (h.set r (HO a1)) = .ok (.int (7 * t4 * t1)) (h.set r (HO a1)) := by
        simp only [x_op, x_c, x_bind, e4, e1, f_mul, m1, m2, if_true]
      have q2 : sSeq (sSet 2 (dOp (fMul false) (dOp (fMul false) (dC (.int 7)) E4) E1)) sNil [some (.ref r), some (.lst BS), some w0, none] (h.set r (HO a1)) = .ok (.next [some (.ref r), some (.lst BS), some (.int (7 * t4 * t1)), none]) (h.set r (HO a1)) := by
        rw [x_seq, x_set, q]
        rfl
      rw [decide_eq_true z] at c
      rw [sif_t c, q2]
    · refine ⟨w0, ?_, bs_tg w0 hw0⟩
      rw [decide_eq_false z] at c
      rw [sif_f c]
      rfl
  obtain ⟨j, a2, ej, hj, ok2⟩ := of_lst (k := k) hr1 ok1 (show [W.int 0, .int 0, .int 1, .int 2, .int 12] ≠ [] by simp) (by decide)
  rw [List.set_set] at ej
  obtain ⟨n, rfl, hn⟩ := five j hj
  have hr2 := set_len (x := a2) hr
  obtain ⟨sw', g', e, w3, a3, z3, rfl, rfl, ok3, t3⟩ := forL_run (src := none) (ws0 := rngW 0 n) (t := tgW (.nm 3)) (body := sSeq (sSet 2 (dOp fIx (dLst false (aCons (dTup (aCons (dVar 2) (aNil))) (aCons (dLst false (aCons (dVar 2) (aNil))) (aCons (dDisp false [(dC (.str ("a" : Str)), dVar 2)]) (aCons (dTup (aCons (dVar 2) (aCons (dC .non) (aNil)))) (aNil)))))) (dCall ((prg (k + 2)) i_L_take) (aCons (dVar 0) (aCons (dC (.int 4)) (aNil)))))) sNil) (items := rngW 0 n)
    (sw := [some (.ref r), some (.lst BS), some w1, none]) (h := h.set r (HO a2))
    (fun i sw g => ∃ (w : W) (a : Hd) (z : Option W), sw = [some (.ref r), some (.lst BS), some w, z] ∧ g = h.set r (HO a) ∧ a.Ok ∧ Tg (2 + i) w)
    ⟨w1, a2, none, rfl, rfl, ok2, g1⟩ (fun _ _ _ _ _ => rfl) (by
      rintro i w sw g hw ⟨w2, a4, z, rfl, rfl, ok4, t4⟩
      obtain ⟨rfl, hi⟩ := rng_get hw
      obtain ⟨w', a', e, ok, tg⟩ := wrap_step (k := k + 1) (x := some (.lst BS)) (z := some (.int (i : Nat))) (set_len (x := a4) hr) ok4 t4
      rw [List.set_set] at e
      exact ⟨_, _, _, rfl, .inl e, w', a', _, rfl, rfl, ok, tg⟩)
  have ln : (rngW 0 n).length = n := by simp [rngW]
  rw [ln] at t3
  have s4 : sFor (iRg1 (aCons (dCall ((prg (k + 2)) i_L_of) (aCons (dVar 0) (aCons (dLst false (aCons (dC (.int 0)) (aCons (dC (.int 0)) (aCons (dC (.int 1)) (aCons (dC (.int 2)) (aCons (dC (.int 12)) (aNil))))))) (aNil)))) (aNil))) (.nm 3) (sSeq (sSet 2 (dOp fIx (dLst false (aCons (dTup (aCons (dVar 2) (aNil))) (aCons (dLst false (aCons (dVar 2) (aNil))) (aCons (dDisp false [(dC (.str ("a" : Str)), dVar 2)]) (aCons (dTup (aCons (dVar 2) (aCons (dC .non) (aNil)))) (aNil)))))) (dCall ((prg (k + 2)) i_L_take) (aCons (dVar 0) (aCons (dC (.int 4)) (aNil)))))) sNil) [some (.ref r), some (.lst BS), some w1, none] (h.set r (HO a1)) = .ok (.next [some (.ref r), some (.lst BS), some w3, z3]) (h.set r (HO a3)) := by
    have r1 : (-(lim : Int) ≤ (n : Int)) ∧ (n : Int) ≤ (lim : Int) := by
      have : (lim : Int) = 1000000 := rfl
      omega
    have it : iRg1 (aCons (dCall ((prg (k + 2)) i_L_of) (aCons (dVar 0) (aCons (dLst false (aCons (dC (.int 0)) (aCons (dC (.int 0)) (aCons (dC (.int 1)) (aCons (dC (.int 2)) (aCons (dC (.int 12)) (aNil))))))) (aNil)))) (aNil)) [some (.ref r), some (.lst BS), some w1, none] (h.set r (HO a1)) = .ok (rngW 0 n, none) (h.set r (HO a2)) := by
      generalize BS = bs
      simp [lm, ej, r1]
    rw [x_for, it]
    exact e
  have gc1 : gc h.length w3 h (h.set r (HO a3)) = h.set r (HO a3) := by
    have := gc_ho (e := []) (a := a3) hl (t3.l h.length)
    rwa [List.append_nil] at this
  refine ⟨w3, a3, ?_, ok3, t3.mono (by omega)⟩
  rw [x_seq, s1, q_next, x_seq, s2, q_next, x_seq, s3, q_next, x_seq, s4, q_next]
  have s5 : sSeq (sRet (dVar 2)) sNil [some (.ref r), some (.lst BS), some w3, z3] (h.set r (HO a3)) = .ok (.ret w3) (h.set r (HO a3)) := rfl
  rw [s5]
  show R.ok w3 (gc h.length w3 h (h.set r (HO a3))) = _
  rw [gc1]
end KW.P

set_option Elab.async false
set_option linter.all false
set_option maxRecDepth 100000
set_option maxHeartbeats 4000000
/-! k50: the sixteen made, asked, their values -/
namespace KW.P
open PySem L2 KW TL
section
variable {h : WH} {u0 u1 u2 u3 u4 u5 u6 u7 u8 : W} {k : Nat}
noncomputable def X5 (u0 u1 u2 u3 u4 : W) : WH := [.exo c_NoFace [fl_field] [u0], .exo c_BadHouse [fl_field] [u1], .exo c_NoMove [fl_move] [u2], .exo c_NoTalk [fl_at] [u3], .exo c_NoText [fl_row] [u4]]
noncomputable def X4 (u5 u6 u7 u8 : W) : WH := [.exo c_TooLong [fl_moves] [u5], .exo c_TooMany [fl_many] [u6], .exo c_NoRow [fl_row] [u7], .exo c_NoLine [fl_line] [u8]]
noncomputable def X7 : WH := [.exo c_NoLink [] [], .exo c_NoPair [] [], .exo c_NoPaper [] [], .exo c_NoMoment [] [], .exo c_NoSeam [] [], .exo c_NoBack [] [], .exo c_Dead [] []]
theorem a0 : atI [u0, u1, u2, u3, u4, u5, u6, u7, u8] 0 = some u0 := rfl
theorem a1 : atI [u0, u1, u2, u3, u4, u5, u6, u7, u8] 1 = some u1 := rfl
theorem a2 : atI [u0, u1, u2, u3, u4, u5, u6, u7, u8] 2 = some u2 := rfl
theorem a3 : atI [u0, u1, u2, u3, u4, u5, u6, u7, u8] 3 = some u3 := rfl
theorem a4 : atI [u0, u1, u2, u3, u4, u5, u6, u7, u8] 4 = some u4 := rfl
theorem a5 : atI [u0, u1, u2, u3, u4, u5, u6, u7, u8] 5 = some u5 := rfl
theorem a6 : atI [u0, u1, u2, u3, u4, u5, u6, u7, u8] 6 = some u6 := rfl
theorem a7 : atI [u0, u1, u2, u3, u4, u5, u6, u7, u8] 7 = some u7 := rfl
theorem a8 : atI [u0, u1, u2, u3, u4, u5, u6, u7, u8] 8 = some u8 := rfl
/-- the places from n on -/
noncomputable def refsN (n : Nat) : Nat → List W
  | 0 => []
  | k + 1 => .ref n :: refsN (n + 1) k
theorem refsN_add : ∀ (a b n : Nat), refsN n a ++ refsN (n + a) b = refsN n (a + b)
  | 0, b, n => by simp [refsN]
  | a + 1, b, n => by
    have := refsN_add a b (n + 1)
    rw [show a + 1 + b = a + b + 1 by omega]
    simp only [refsN, List.cons_append]
    rw [← this, show n + (a + 1) = n + 1 + a by omega]
theorem refsN_len : ∀ (k n : Nat), (refsN n k).length = k
  | 0, n => rfl
  | k + 1, n => by simp [refsN, refsN_len k]
theorem refs_not {n m k : Nat} (hk : 0 < k) (h : n ≤ m) : W.lt n (.lst (refsN m k)) = false := by
  cases k with
  | zero => omega
  | succ k => simp [refsN, W.lt, W.lts]; intro z; omega
theorem gc_keep {n : Nat} {w : W} {g g' : WH} (h : w.lt n = false) : gc n w g g' = g' := by
  unfold gc
  rw [if_neg (by rw [h]; simp)]
theorem addL {a b : List W} {g : WH} : fAdd false (.lst a) (.lst b) g = if a.length + b.length ≤ lim then .ok (.lst (a ++ b)) g else .no := by
  simp [fAdd, lstOf, newL]
/-- the sixteen by place -/
theorem place_ok : prg (k + 1) i_L_of_place [.lst [u0, u1, u2, u3, u4, u5, u6, u7, u8]] h = .ok (.lst (refsN h.length 16)) (h ++ (X5 u0 u1 u2 u3 u4 ++ (X4 u5 u6 u7 u8 ++ X7))) := by
  rw [r_L_of_place (show [W.lst [u0, u1, u2, u3, u4, u5, u6, u7, u8]].length = 1 from rfl)]
  have s1 : sSet 1 (dLst false (aCons (dMkE c_NoFace fl_field (dOp fIx (dVar 0) (dC (.int 0)))) (aCons (dMkE c_BadHouse fl_field (dOp fIx (dVar 0) (dC (.int 1)))) (aCons (dMkE c_NoMove fl_move (dOp fIx (dVar 0) (dC (.int 2)))) (aCons (dMkE c_NoTalk fl_at (dOp fIx (dVar 0) (dC (.int 3)))) (aCons (dMkE c_NoText fl_row (dOp fIx (dVar 0) (dC (.int 4)))) (aNil))))))) [some (.lst [u0, u1, u2, u3, u4, u5, u6, u7, u8]), none] h = .ok (.next [some (.lst [u0, u1, u2, u3, u4, u5, u6, u7, u8]), some (.lst (refsN h.length 5))]) (h ++ X5 u0 u1 u2 u3 u4) := by
    simp [a0, a1, a2, a3, a4, lm, refsN, X5]
  have s2 : ∀ (g : WH) (rs : List W), rs.length ≤ 20 → sSet 1 (dOp (fAdd false) (dVar 1) (dLst false (aCons (dMkE c_TooLong fl_moves (dOp fIx (dVar 0) (dC (.int 5)))) (aCons (dMkE c_TooMany fl_many (dOp fIx (dVar 0) (dC (.int 6)))) (aCons (dMkE c_NoRow fl_row (dOp fIx (dVar 0) (dC (.int 7)))) (aCons (dMkE c_NoLine fl_line (dOp fIx (dVar 0) (dC (.int 8)))) (aNil))))))) [some (.lst [u0, u1, u2, u3, u4, u5, u6, u7, u8]), some (.lst rs)] g = .ok (.next [some (.lst [u0, u1, u2, u3, u4, u5, u6, u7, u8]), some (.lst (rs ++ refsN g.length 4))]) (g ++ X4 u5 u6 u7 u8) := fun g rs hl => by
    have l : rs.length + 4 ≤ lim := by unfold lim; omega
    simp [a5, a6, a7, a8, lm, refsN, X4, l, addL]
  have s3 : ∀ (g : WH) (rs : List W), rs.length ≤ 20 → sRet (dOp (fAdd false) (dVar 1) (dLst false (aCons (dMkE0 c_NoLink) (aCons (dMkE0 c_NoPair) (aCons (dMkE0 c_NoPaper) (aCons (dMkE0 c_NoMoment) (aCons (dMkE0 c_NoSeam) (aCons (dMkE0 c_NoBack) (aCons (dMkE0 c_Dead) (aNil)))))))))) [some (.lst [u0, u1, u2, u3, u4, u5, u6, u7, u8]), some (.lst rs)] g = .ok (.ret (.lst (rs ++ refsN g.length 7))) (g ++ X7) := fun g rs hl => by
    have l : rs.length + 7 ≤ lim := by unfold lim; omega
    simp [lm, refsN, X7, l, addL]
  show fin h (d_L_of_place (prg k) [some (.lst [u0, u1, u2, u3, u4, u5, u6, u7, u8]), none] h) = _
  unfold d_L_of_place
  rw [x_seq, s1, q_next, x_seq, s2 _ _ (by rw [refsN_len]; decide), q_next, x_seq, s3 _ _ (by simp [refsN_len])]
  have e : refsN h.length 5 ++ refsN (h ++ X5 u0 u1 u2 u3 u4).length 4 ++ refsN (h ++ X5 u0 u1 u2 u3 u4 ++ X4 u5 u6 u7 u8).length 7 = refsN h.length 16 := by
    have l1 : (h ++ X5 u0 u1 u2 u3 u4).length = h.length + 5 := by simp [X5]
    have l2 : (h ++ X5 u0 u1 u2 u3 u4 ++ X4 u5 u6 u7 u8).length = h.length + 9 := by simp [X5, X4]
    rw [l1, l2, refsN_add 5 4, refsN_add 9 7]
  rw [e]
  show R.ok (W.lst (refsN h.length 16)) (gc h.length (.lst (refsN h.length 16)) h (h ++ X5 u0 u1 u2 u3 u4 ++ X4 u5 u6 u7 u8 ++ X7)) = _
  rw [gc_keep (refs_not (by decide) (Nat.le_refl _))]
  simp only [List.append_assoc]
/-- the first nine by name -/
theorem name_ok : prg (k + 1) i_L_of_name [.lst [u0, u1, u2, u3, u4, u5, u6, u7, u8]] h = .ok (.lst (refsN h.length 9)) (h ++ (X5 u0 u1 u2 u3 u4 ++ X4 u5 u6 u7 u8)) := by
  rw [r_L_of_name (show [W.lst [u0, u1, u2, u3, u4, u5, u6, u7, u8]].length = 1 from rfl)]
  have e : d_L_of_name (prg k) [some (.lst [u0, u1, u2, u3, u4, u5, u6, u7, u8]), none] h = .ok (.ret (.lst (refsN h.length 9))) (h ++ (X5 u0 u1 u2 u3 u4 ++ X4 u5 u6 u7 u8)) := by
    simp [d_L_of_name, newE, addL, a0, a1, a2, a3, a4, a5, a6, a7, a8, lm, refsN, X5, X4]
  show fin h (d_L_of_name (prg k) [some (.lst [u0, u1, u2, u3, u4, u5, u6, u7, u8]), none] h) = _
  rw [e]
  show R.ok (W.lst (refsN h.length 9)) (gc h.length (.lst (refsN h.length 9)) h _) = _
  rw [gc_keep (refs_not (by decide) (Nat.le_refl _))]
end
end KW.P

set_option Elab.async false
set_option linter.all false
set_option maxRecDepth 100000
set_option maxHeartbeats 4000000
/-! k50: of which classes, which values, the same -/
namespace KW.P
open PySem L2 KW TL
section
variable {h : WH} {k : Nat}
theorem isq_tab : ∀ c, c < 17 → 1 ≤ c → subT c c_KnockError = some true ∧ isqT c (.inr "ValueError") = some true ∧ ∀ d, d < 17 → isqT c (.inl d) = some (decide (d = c) || decide (d = 0)) := by decide +kernel
theorem exAt_ref {r c : Nat} {fs : List Nat} {us : List W} (hr : h[r]? = some (.exo c fs us)) : exAt h (.ref r) = some (c, fs, us) := by simp [exAt, hr]
theorem fis {r c d : Nat} {fs : List Nat} {us : List W} (hr : h[r]? = some (.exo c fs us)) (h1 : 1 ≤ c) (h2 : c < 17) (hd : d < 17) : fIsE (fun c => subT c c_KnockError) isqT (.inl d) (.ref r) h = .ok (.bl (decide (d = c) || decide (d = 0))) h := by
  obtain ⟨t1, _, t3⟩ := isq_tab c h2 h1
  unfold fIsE
  rw [exAt_ref hr]
  simp only [t1, t3 d hd]
theorem fisV {r c : Nat} {fs : List Nat} {us : List W} (hr : h[r]? = some (.exo c fs us)) (h1 : 1 ≤ c) (h2 : c < 17) : fIsE (fun c => subT c c_KnockError) isqT (.inr "ValueError") (.ref r) h = .ok (.bl true) h := by
  obtain ⟨t1, t2, _⟩ := isq_tab c h2 h1
  unfold fIsE
  rw [exAt_ref hr]
  simp only [t1, t2]
theorem fxf {r c f : Nat} {u : W} (hr : h[r]? = some (.exo c [f] [u])) (h1 : 1 ≤ c) (h2 : c < 17) : fXfE (fun c => subT c c_KnockError) f (.ref r) h = .ok u h := by
  obtain ⟨t1, _, _⟩ := isq_tab c h2 h1
  unfold fXfE
  rw [exAt_ref hr]
  simp [t1]
/-- of which classes -/
noncomputable def rowK (c : Nat) : List Bool := [decide (1 = c), decide (2 = c), decide (3 = c), decide (4 = c), decide (5 = c), decide (6 = c), decide (7 = c), decide (8 = c), decide (9 = c), decide (10 = c), decide (11 = c), decide (12 = c), decide (13 = c), decide (14 = c), decide (15 = c), decide (16 = c)]
theorem kinds_ok {r c : Nat} {fs : List Nat} {us : List W} (hr : h[r]? = some (.exo c fs us)) (h1 : 1 ≤ c) (h2 : c < 17) : prg (k + 1) i_L_kinds [.ref r] h = .ok (.lst ((rowK c).map .bl)) h := by
  rw [r_L_kinds (show [W.ref r].length = 1 from rfl)]
  have e : ∀ d, d < 17 → 1 ≤ d → fIsE (fun c => subT c c_KnockError) isqT (.inl d) (.ref r) h = .ok (.bl (decide (d = c))) h := fun d hd h0 => by
    rw [fis hr h1 h2 hd, decide_eq_false (show ¬ d = 0 by omega), Bool.or_false]
  have q0 := e c_NoFace (by decide) (by decide)
  have q1 := e c_BadHouse (by decide) (by decide)
  have q2 := e c_NoMove (by decide) (by decide)
  have q3 := e c_NoTalk (by decide) (by decide)
  have q4 := e c_NoText (by decide) (by decide)
  have q5 := e c_TooLong (by decide) (by decide)
  have q6 := e c_TooMany (by decide) (by decide)
  have q7 := e c_NoRow (by decide) (by decide)
  have q8 := e c_NoLine (by decide) (by decide)
  have q9 := e c_NoLink (by decide) (by decide)
  have q10 := e c_NoPair (by decide) (by decide)
  have q11 := e c_NoPaper (by decide) (by decide)
  have q12 := e c_NoMoment (by decide) (by decide)
  have q13 := e c_NoSeam (by decide) (by decide)
  have q14 := e c_NoBack (by decide) (by decide)
  have q15 := e c_Dead (by decide) (by decide)
  have g : d_L_kinds (prg k) [some (.ref r), none] h = .ok (.ret (.lst ((rowK c).map .bl))) h := by
    simp [d_L_kinds, addL, lm, rowK, q0, q1, q2, q3, q4, q5, q6, q7, q8, q9, q10, q11, q12, q13, q14, q15]
  show fin h (d_L_kinds (prg k) [some (.ref r), none] h) = _
  rw [g]
  show R.ok (W.lst ((rowK c).map .bl)) (gc h.length (.lst ((rowK c).map .bl)) h h) = _
  rw [gc_self]
/-- told and handed in -/
theorem ty_some {w : W} (t : nstW w = true) : ∃ ty, tyW h w = some ty ∧ ∃ b c, kitB ty "bool" = some b ∧ kitB ty "list" = some c := by
  cases w with
  | non => exact ⟨_, rfl, false, false, by decide +kernel, by decide +kernel⟩
  | bl _ => exact ⟨_, rfl, true, false, by decide +kernel, by decide +kernel⟩
  | int _ => exact ⟨_, rfl, false, false, by decide +kernel, by decide +kernel⟩
  | str _ => exact ⟨_, rfl, false, false, by decide +kernel, by decide +kernel⟩
  | tup _ => exact ⟨_, rfl, false, false, by decide +kernel, by decide +kernel⟩
  | lst _ => exact ⟨_, rfl, false, true, by decide +kernel, by decide +kernel⟩
  | dct _ _ => exact ⟨_, rfl, false, false, by decide +kernel, by decide +kernel⟩
  | _ => cases t
theorem eqB {m : Bool} {a b : Bool} {g : WH} : fEq m (.bl a) (.bl b) g = .ok (.bl (decide (a = b) != m)) g := rfl
theorem feqn {w : W} {g : WH} (t : nstW w = true) (d : dpW w ≤ 60) : fEqN w w g = .ok (.bl true) g := by
  unfold fEqN
  cases w with
  | tup ws => rw [if_pos (by simp [W.eqb_refl, t, boxW, d])]
  | lst ws => rw [if_pos (by simp [W.eqb_refl, t, boxW, d])]
  | dct ks ws => rw [if_pos (by simp [W.eqb_refl, t, boxW, d])]
  | non =>
    rw [if_neg (by simp [boxW])]
    rfl
  | bl b => simp [boxW, fEq, scalW]
  | int i => simp [boxW, fEq, scalW]
  | str x => simp [boxW, fEq, scalW]
  | _ => cases t
theorem same_ok {w : W} (t : nstW w = true) (d : dpW w ≤ 60) : prg (k + 1) i_L_is_same [w, w] h = .ok (.bl true) h := by
  rw [r_L_is_same (show [w, w].length = 2 from rfl)]
  obtain ⟨ty, e1, b, c, e2, e3⟩ := ty_some (h := h) t
  simp [d_L_is_same, e1, e2, e3, eqB, feqn t d]
/-- the values -/
theorem values_ok {n : Nat} {rs : List W} {u0 u1 u2 u3 u4 u5 u6 u7 u8 : W} (h0 : h[n]? = some (.exo c_NoFace [fl_field] [u0])) (h1 : h[n + 1]? = some (.exo c_BadHouse [fl_field] [u1])) (h2 : h[n + 1 + 1]? = some (.exo c_NoMove [fl_move] [u2])) (h3 : h[n + 1 + 1 + 1]? = some (.exo c_NoTalk [fl_at] [u3])) (h4 : h[n + 1 + 1 + 1 + 1]? = some (.exo c_NoText [fl_row] [u4]))
    (h5 : h[n + 1 + 1 + 1 + 1 + 1]? = some (.exo c_TooLong [fl_moves] [u5])) (h6 : h[n + 1 + 1 + 1 + 1 + 1 + 1]? = some (.exo c_TooMany [fl_many] [u6])) (h7 : h[n + 1 + 1 + 1 + 1 + 1 + 1 + 1]? = some (.exo c_NoRow [fl_row] [u7])) (h8 : h[n + 1 + 1 + 1 + 1 + 1 + 1 + 1 + 1]? = some (.exo c_NoLine [fl_line] [u8])) :
    prg (k + 1) i_L_values [.lst (refsN n 9 ++ rs)] h = .ok (.lst [u0, u1, u2, u3, u4, u5, u6, u7, u8]) h := by
  rw [r_L_values (show [W.lst (refsN n 9 ++ rs)].length = 1 from rfl)]
  have b0 : atI (refsN n 9 ++ rs) 0 = some (.ref n) := atI_nat (j := 0) rfl
  have b1 : atI (refsN n 9 ++ rs) 1 = some (.ref (n + 1)) := atI_nat (j := 1) rfl
  have b2 : atI (refsN n 9 ++ rs) 2 = some (.ref (n + 1 + 1)) := atI_nat (j := 2) rfl
  have b3 : atI (refsN n 9 ++ rs) 3 = some (.ref (n + 1 + 1 + 1)) := atI_nat (j := 3) rfl
  have b4 : atI (refsN n 9 ++ rs) 4 = some (.ref (n + 1 + 1 + 1 + 1)) := atI_nat (j := 4) rfl
  have b5 : atI (refsN n 9 ++ rs) 5 = some (.ref (n + 1 + 1 + 1 + 1 + 1)) := atI_nat (j := 5) rfl
  have b6 : atI (refsN n 9 ++ rs) 6 = some (.ref (n + 1 + 1 + 1 + 1 + 1 + 1)) := atI_nat (j := 6) rfl
  have b7 : atI (refsN n 9 ++ rs) 7 = some (.ref (n + 1 + 1 + 1 + 1 + 1 + 1 + 1)) := atI_nat (j := 7) rfl
  have b8 : atI (refsN n 9 ++ rs) 8 = some (.ref (n + 1 + 1 + 1 + 1 + 1 + 1 + 1 + 1)) := atI_nat (j := 8) rfl
  have q0 := fxf h0 (by decide) (by decide)
  have q1 := fxf h1 (by decide) (by decide)
  have q2 := fxf h2 (by decide) (by decide)
  have q3 := fxf h3 (by decide) (by decide)
  have q4 := fxf h4 (by decide) (by decide)
  have q5 := fxf h5 (by decide) (by decide)
  have q6 := fxf h6 (by decide) (by decide)
  have q7 := fxf h7 (by decide) (by decide)
  have q8 := fxf h8 (by decide) (by decide)
  generalize refsN n 9 ++ rs = L at *
  simp [d_L_values, addL, lm, b0, b1, b2, b3, b4, b5, b6, b7, b8, q0, q1, q2, q3, q4, q5, q6, q7, q8]
end
end KW.P

set_option Elab.async false
set_option linter.all false
set_option maxRecDepth 100000
set_option maxHeartbeats 4000000
/-! k50: one list of refusals looked at -/
namespace KW.P
open PySem L2 KW TL
theorem dats_b : ∀ bs : List Bool, W.dats (bs.map .bl) = some (bs.map .bool)
  | [] => rfl
  | b :: bs => by simp [W.dats, W.dat, dats_b bs]
theorem lay_b : ∀ bs : List Bool, PyData.canLayAll0 (bs.map .bool) = true
  | [] => rfl
  | b :: bs => by simp [PyData.canLayAll0, PyData.canLay0, lay_b bs]
theorem dep_b : ∀ bs : List Bool, PyData.depthAll (bs.map .bool) ≤ 1
  | [] => by simp [PyData.depthAll]
  | b :: bs => by have := dep_b bs; simp [PyData.depthAll, PyData.depth]; omega
theorem eq_bools {bs : List Bool} {g : WH} : fEq true (.lst (bs.map .bl)) (.lst (bs.map .bl)) g = .ok (.bl false) g := by
  have e : datH g (.lst (bs.map .bl)) = some (.list (bs.map .bool)) := by
    unfold datH
    simp [lstOf, dats_b]
  have sh : SeqAt.shaped (.list (bs.map .bool)) = true := by
    unfold SeqAt.shaped
    have := dep_b bs
    simp [PyData.canLay0, lay_b, PyData.depth]
    omega
  have er : PyData.eqv (.list (bs.map .bool)) (.list (bs.map .bool)) = true := SeqAt.eqv_refl _ (SeqAt.canLay_of_shaped sh)
  unfold fEq
  simp only [scalW, e, sh, and_self, if_true, er]
  rfl
noncomputable def row16 (j : Nat) (i : Nat) : List Bool := (List.range i).map fun x => decide (j = x)
theorem row_same : ∀ j, j < 16 → row16 j 16 = rowK (j + 1) := by decide +kernel
section
variable {h : WH} {k : Nat}
theorem comp16 {j : Nat} {sw : WS} (h8 : (wipeW sw [10])[8]? = some (some (.int (j : Nat)))) (hl : 10 < sw.length) : dComp false (iRg1 (aCons (dC (.int 16)) (aNil))) (.nm 10) (bYes) (dOp (fEq false) (dVar 8) (dVar 10)) [10] sw h = .ok (.lst ((row16 j 16).map .bl)) h := by
  obtain ⟨acc, h', e, e1, e2⟩ := compL_run (src := none) (ws0 := rngW 0 16) (t := tgW (.nm 10)) (cond := bYes) (elt := dOp (fEq false) (dVar 8) (dVar 10)) (sw := wipeW sw [10]) (items := rngW 0 16) (h := h) (fun i acc g => g = h ∧ acc = (row16 j i).map .bl) ⟨rfl, rfl⟩ (fun _ _ _ _ _ => rfl) (by
    rintro i w acc g hw ⟨rfl, rfl⟩
    obtain ⟨rfl, hi⟩ := rng_get hw
    have w8 : ((wipeW sw [10]).set 10 (some (.int (i : Nat))))[8]? = some (some (.int (j : Nat))) := by rw [List.getElem?_set_ne (by decide)]; exact h8
    have w10 : ((wipeW sw [10]).set 10 (some (.int (i : Nat))))[10]? = some (some (.int (i : Nat))) := List.getElem?_set_self (by simpa [wipeW] using hl)
    refine ⟨(wipeW sw [10]).set 10 (some (.int (i : Nat))), g, rfl, .inr ⟨.bl (decide (j = i)), g, rfl, ?_, by simp [row16]; unfold lim; omega, rfl, ?_⟩⟩
    · simp [w8, w10, eqN]
      omega
    · simp [row16, List.range_succ])
  have ln : (rngW 0 16).length = 16 := by simp [rngW]
  rw [ln] at e2
  subst e1 e2
  have r16 : (-(lim : Int) ≤ (16 : Int)) ∧ (16 : Int) ≤ (lim : Int) := by
    have : (lim : Int) = 1000000 := rfl
    omega
  have t16 : (16 : Int).toNat = 16 := rfl
  simp only [x_comp, x_rg1, x_cons, x_c, x_nil, x_bind, if_pos r16, t16, e]
  rfl
noncomputable abbrev IF1 : EW := sIf (dOrT (dNotT (dTru (dIsE (fun c => subT c c_KnockError) isqT (.inl c_KnockError) (dVar 9)))) (dNotT (dTru (dIsE (fun c => subT c c_KnockError) isqT (.inr "ValueError") (dVar 9))))) (sSeq (sRet (dC (.bl false)))
 (sNil)) (sNil)
noncomputable abbrev IF2 (Φ : Fns) : EW := sIf (dTst (dOp (fEq true) (dCall (Φ i_L_kinds) (aCons (dVar 9) (aNil))) (dComp false (iRg1 (aCons (dC (.int 16)) (aNil))) (.nm 10) (bYes) (dOp (fEq false) (dVar 8) (dVar 10)) [10]))) (sSeq (sRet (dC (.bl false)))
 (sNil)) (sNil)
theorem turn_ok {z0 z1 z2 z3 z4 z5 z6 z7 z10 z11 z12 z13 : Option W} {j r : Nat} {fs : List Nat} {us : List W} (hr : h[r]? = some (.exo (j + 1) fs us)) (hj : j < 16) :
    sSeq IF1 (sSeq (IF2 (prg (k + 1))) sNil) [z0, z1, z2, z3, z4, z5, z6, z7, some (.int (j : Nat)), some (.ref r), z10, z11, z12, z13] h = .ok (.next [z0, z1, z2, z3, z4, z5, z6, z7, some (.int (j : Nat)), some (.ref r), z10, z11, z12, z13]) h := by
  have e1 := fis (d := c_KnockError) hr (by omega) (by omega) (by decide)
  have e2 := fisV hr (by omega) (by omega)
  have e3 := kinds_ok (k := k) hr (by omega) (by omega)
  rw [← row_same j hj] at e3
  have e4 := comp16 (h := h) (j := j) (sw := [z0, z1, z2, z3, z4, z5, z6, z7, some (.int (j : Nat)), some (.ref r), z10, z11, z12, z13]) rfl (by simp)
  have t1 : (decide (c_KnockError = j + 1) || decide (c_KnockError = 0)) = true := by simp
  rw [t1] at e1
  have s1 : IF1 [z0, z1, z2, z3, z4, z5, z6, z7, some (.int (j : Nat)), some (.ref r), z10, z11, z12, z13] h = .ok (.next [z0, z1, z2, z3, z4, z5, z6, z7, some (.int (j : Nat)), some (.ref r), z10, z11, z12, z13]) h := by
    simp [e1, e2, truW]
  have c2 : dTst (dOp (fEq true) (dCall ((prg (k + 1)) i_L_kinds) (aCons (dVar 9) (aNil))) (dComp false (iRg1 (aCons (dC (.int 16)) (aNil))) (.nm 10) (bYes) (dOp (fEq false) (dVar 8) (dVar 10)) [10])) [z0, z1, z2, z3, z4, z5, z6, z7, some (.int (j : Nat)), some (.ref r), z10, z11, z12, z13] h = .ok false h := by
    rw [x_tst, x_op]
    generalize dComp false (iRg1 (aCons (dC (.int 16)) (aNil))) (.nm 10) (bYes) (dOp (fEq false) (dVar 8) (dVar 10)) [10] = D at e4 ⊢
    simp [e3, e4, eq_bools]
  rw [x_seq, s1, q_next, x_seq]
  rw [show IF2 (prg (k + 1)) [z0, z1, z2, z3, z4, z5, z6, z7, some (.int (j : Nat)), some (.ref r), z10, z11, z12, z13] h = sNil [z0, z1, z2, z3, z4, z5, z6, z7, some (.int (j : Nat)), some (.ref r), z10, z11, z12, z13] h from sif_f c2]
  rfl
end
end KW.P

set_option Elab.async false
set_option linter.all false
set_option maxRecDepth 100000
set_option maxHeartbeats 4000000
/-! k50: both lists looked at -/
namespace KW.P
open PySem L2 KW TL
theorem refsN_get : ∀ (k n j : Nat), j < k → (refsN n k)[j]? = some (.ref (n + j))
  | 0, n, j, h => by omega
  | k + 1, n, 0, h => rfl
  | k + 1, n, j + 1, h => by
    simp only [refsN, List.getElem?_cons_succ]
    rw [refsN_get k (n + 1) j (by omega)]
    congr 2; omega
section
variable {h : WH} {k : Nat}
theorem look_ok {z0 z1 z2 z3 z4 z5 z6 y8 y9 z10 z11 z12 z13 : Option W} {n m : Nat} (hm : m ≤ 16) (hh : ∀ j, j < m → ∃ fs us, h[n + j]? = some (.exo (j + 1) fs us)) :
    ∃ x8 x9, sFor (iEnumW (dVar 7)) (.tup [.nm 8, .nm 9]) (sSeq IF1 (sSeq (IF2 (prg (k + 1))) sNil)) [z0, z1, z2, z3, z4, z5, z6, some (.lst (refsN n m)), y8, y9, z10, z11, z12, z13] h = .ok (.next [z0, z1, z2, z3, z4, z5, z6, some (.lst (refsN n m)), x8, x9, z10, z11, z12, z13]) h := by
  obtain ⟨sw', h', e, x8, x9, rfl, rfl⟩ := forL_run (src := none) (ws0 := enumW (refsN n m)) (t := tgW (.tup [.nm 8, .nm 9])) (body := sSeq IF1 (sSeq (IF2 (prg (k + 1))) sNil)) (items := enumW (refsN n m))
    (sw := [z0, z1, z2, z3, z4, z5, z6, some (.lst (refsN n m)), y8, y9, z10, z11, z12, z13]) (h := h)
    (fun i sw g => ∃ x8 x9 : Option W, sw = [z0, z1, z2, z3, z4, z5, z6, some (.lst (refsN n m)), x8, x9, z10, z11, z12, z13] ∧ g = h) ⟨y8, y9, rfl, rfl⟩ (fun _ _ _ _ _ => rfl) (by
      rintro i w sw g hw ⟨x8, x9, rfl, rfl⟩
      obtain ⟨x, hx, rfl⟩ := enumW_get hw
      have hi : i < m := by
        have := (List.getElem?_eq_some_iff.mp hx).1
        rwa [refsN_len] at this
      rw [refsN_get m n i hi] at hx
      cases hx
      obtain ⟨fs, us, hr⟩ := hh i hi
      exact ⟨_, _, _, rfl, .inl (turn_ok (k := k) hr (by omega)), _, _, rfl, rfl⟩)
  refine ⟨x8, x9, ?_⟩
  rw [x_for]
  have it : iEnumW (dVar 7) [z0, z1, z2, z3, z4, z5, z6, some (.lst (refsN n m)), y8, y9, z10, z11, z12, z13] h' = .ok (enumW (refsN n m), none) h' := rfl
  rw [it]
  exact e
theorem all_same {us : List W} {sw : WS} (hl : us.length ≤ 9) (ht : ∀ u ∈ us, Tg 14 u) (h3 : sw[3]? = some (some (.lst us))) (h11 : sw[11]? = some (some (.lst us))) (hs : 13 < sw.length) :
    dBi bAll (aCons (dComp false (iZip (aCons (dVar 11) (aCons (dVar 3) (aNil)))) (.tup [.nm 12, .nm 13]) (bYes) (dCall ((prg (k + 1)) i_L_is_same) (aCons (dVar 12) (aCons (dVar 13) (aNil)))) [12, 13]) (aNil)) sw h = .ok (.bl true) h := by
  obtain ⟨acc, h', e, e1, e2⟩ := compL_run (src := none) (ws0 := zipW us us) (t := tgW (.tup [.nm 12, .nm 13])) (cond := bYes) (elt := dCall ((prg (k + 1)) i_L_is_same) (aCons (dVar 12) (aCons (dVar 13) (aNil)))) (sw := wipeW sw [12, 13]) (items := zipW us us) (h := h) (fun i acc g => g = h ∧ acc = List.replicate i (.bl true)) ⟨rfl, rfl⟩ (fun _ _ _ _ _ => rfl) (by
    rintro i w acc g hw ⟨rfl, rfl⟩
    obtain ⟨x, y, hx, hy, rfl⟩ := zipW_get hw
    rw [hx] at hy
    cases hy
    have t := ht x (List.mem_of_getElem? hx)
    have hi := (List.getElem?_eq_some_iff.mp hx).1
    have wl : (wipeW sw [12, 13]).length = sw.length := by simp [wipeW]
    have w13 : (((wipeW sw [12, 13]).set 12 (some x)).set 13 (some x))[13]? = some (some x) := List.getElem?_set_self (by simpa [wl] using hs)
    have w12 : (((wipeW sw [12, 13]).set 12 (some x)).set 13 (some x))[12]? = some (some x) := by
      rw [List.getElem?_set_ne (by decide)]
      exact List.getElem?_set_self (by rw [wl]; omega)
    refine ⟨((wipeW sw [12, 13]).set 12 (some x)).set 13 (some x), g, rfl, .inr ⟨.bl true, g, rfl, ?_, by simp; unfold lim; omega, rfl, ?_⟩⟩
    · simp [w12, w13, same_ok t.n (Nat.le_trans t.d (by decide))]
    · rw [List.replicate_succ'])
  subst e1 e2
  have it : iZip (aCons (dVar 11) (aCons (dVar 3) (aNil))) sw h' = .ok (zipW us us, none) h' := by simp [h3, h11]
  have hb : ∀ n, blsOf (List.replicate n (W.bl true)) = some (List.replicate n true) := fun n => by
    induction n with
    | zero => rfl
    | succ n ih => rw [List.replicate_succ, List.replicate_succ]; simp [blsOf, ih]
  have ba : bAll [.lst (List.replicate (zipW us us).length (.bl true))] h' = .ok (.bl true) h' := by
    simp [bAll, lstOf, hb]
  have ec : dComp false (iZip (aCons (dVar 11) (aCons (dVar 3) (aNil)))) (.tup [.nm 12, .nm 13]) (bYes) (dCall ((prg (k + 1)) i_L_is_same) (aCons (dVar 12) (aCons (dVar 13) (aNil)))) [12, 13] sw h' = .ok (.lst (List.replicate (zipW us us).length (.bl true))) h' := by
    rw [x_comp, it]
    show R.bind (compL none (zipW us us) (tgW (.tup [.nm 12, .nm 13])) bYes (dCall ((prg (k + 1)) i_L_is_same) (aCons (dVar 12) (aCons (dVar 13) (aNil)))) (wipeW sw [12, 13]) (zipW us us) [] h') _ = _
    rw [e]
    rfl
  generalize dComp false (iZip (aCons (dVar 11) (aCons (dVar 3) (aNil)))) (.tup [.nm 12, .nm 13]) (bYes) (dCall ((prg (k + 1)) i_L_is_same) (aCons (dVar 12) (aCons (dVar 13) (aNil)))) [12, 13] = D at ec ⊢
  simp [ec, ba]
end
end KW.P

set_option Elab.async false
set_option linter.all false
set_option maxRecDepth 100000
set_option maxHeartbeats 4000000
/-! k50: a turn, the law -/
namespace KW.P
open PySem L2 KW TL
noncomputable abbrev B7 (Φ : Fns) : EW := sSeq (sFor (iEnumW (dVar 7)) (.tup [.nm 8, .nm 9]) (sSeq IF1 (sSeq (IF2 Φ) sNil)))
 (sSeq (sSet 11 (dCall (Φ i_L_values) (aCons (dVar 7) (aNil))))
 (sSeq (sIf (dNotT (dTru (dBi bAll (aCons (dComp false (iZip (aCons (dVar 11) (aCons (dVar 3) (aNil)))) (.tup [.nm 12, .nm 13]) (bYes) (dCall (Φ i_L_is_same) (aCons (dVar 12) (aCons (dVar 13) (aNil)))) [12, 13]) (aNil))))) (sSeq (sRet (dC (.bl false)))
 (sNil)) (sNil))
 (sNil)))
section
variable {h : WH} {k : Nat} {u0 u1 u2 u3 u4 u5 u6 u7 u8 : W}
theorem inner_ok {z0 z1 z2 z4 z5 z6 y8 y9 z10 y11 z12 z13 : Option W} {n m : Nat} (hm : m ≤ 16) (hm9 : 9 ≤ m) (hh : ∀ j, j < m → ∃ fs us, h[n + j]? = some (.exo (j + 1) fs us))
    (ht : ∀ u ∈ [u0, u1, u2, u3, u4, u5, u6, u7, u8], Tg 14 u)
    (h0 : h[n]? = some (.exo c_NoFace [fl_field] [u0])) (h1 : h[n + 1]? = some (.exo c_BadHouse [fl_field] [u1])) (h2 : h[n + 1 + 1]? = some (.exo c_NoMove [fl_move] [u2])) (h3 : h[n + 1 + 1 + 1]? = some (.exo c_NoTalk [fl_at] [u3])) (h4 : h[n + 1 + 1 + 1 + 1]? = some (.exo c_NoText [fl_row] [u4]))
    (h5 : h[n + 1 + 1 + 1 + 1 + 1]? = some (.exo c_TooLong [fl_moves] [u5])) (h6 : h[n + 1 + 1 + 1 + 1 + 1 + 1]? = some (.exo c_TooMany [fl_many] [u6])) (h7 : h[n + 1 + 1 + 1 + 1 + 1 + 1 + 1]? = some (.exo c_NoRow [fl_row] [u7])) (h8 : h[n + 1 + 1 + 1 + 1 + 1 + 1 + 1 + 1]? = some (.exo c_NoLine [fl_line] [u8])) :
    ∃ x8 x9, B7 (prg (k + 1)) [z0, z1, z2, some (.lst [u0, u1, u2, u3, u4, u5, u6, u7, u8]), z4, z5, z6, some (.lst (refsN n m)), y8, y9, z10, y11, z12, z13] h = .ok (.next [z0, z1, z2, some (.lst [u0, u1, u2, u3, u4, u5, u6, u7, u8]), z4, z5, z6, some (.lst (refsN n m)), x8, x9, z10, some (.lst [u0, u1, u2, u3, u4, u5, u6, u7, u8]), z12, z13]) h := by
  obtain ⟨x8, x9, e1⟩ := look_ok (k := k) (z0 := z0) (z1 := z1) (z2 := z2) (z3 := some (.lst [u0, u1, u2, u3, u4, u5, u6, u7, u8])) (z4 := z4) (z5 := z5) (z6 := z6) (y8 := y8) (y9 := y9) (z10 := z10) (z11 := y11) (z12 := z12) (z13 := z13) hm hh
  have e2 := values_ok (k := k) (rs := refsN (n + 9) (m - 9)) h0 h1 h2 h3 h4 h5 h6 h7 h8
  rw [refsN_add, show 9 + (m - 9) = m by omega] at e2
  have e3 := all_same (h := h) (k := k) (us := [u0, u1, u2, u3, u4, u5, u6, u7, u8]) (sw := [z0, z1, z2, some (.lst [u0, u1, u2, u3, u4, u5, u6, u7, u8]), z4, z5, z6, some (.lst (refsN n m)), x8, x9, z10, some (.lst [u0, u1, u2, u3, u4, u5, u6, u7, u8]), z12, z13]) (by simp) ht rfl rfl (by simp)
  refine ⟨x8, x9, ?_⟩
  unfold B7
  have s2 : sSet 11 (dCall ((prg (k + 1)) i_L_values) (aCons (dVar 7) (aNil))) [z0, z1, z2, some (.lst [u0, u1, u2, u3, u4, u5, u6, u7, u8]), z4, z5, z6, some (.lst (refsN n m)), x8, x9, z10, y11, z12, z13] h = .ok (.next [z0, z1, z2, some (.lst [u0, u1, u2, u3, u4, u5, u6, u7, u8]), z4, z5, z6, some (.lst (refsN n m)), x8, x9, z10, some (.lst [u0, u1, u2, u3, u4, u5, u6, u7, u8]), z12, z13]) h := by
    simp [e2]
  generalize dBi bAll (aCons (dComp false (iZip (aCons (dVar 11) (aCons (dVar 3) (aNil)))) (.tup [.nm 12, .nm 13]) (bYes) (dCall ((prg (k + 1)) i_L_is_same) (aCons (dVar 12) (aCons (dVar 13) (aNil)))) [12, 13]) (aNil)) = D at e3 ⊢
  rw [x_seq, e1, q_next, x_seq, s2, q_next, x_seq]
  have c : dNotT (dTru D) [z0, z1, z2, some (.lst [u0, u1, u2, u3, u4, u5, u6, u7, u8]), z4, z5, z6, some (.lst (refsN n m)), x8, x9, z10, some (.lst [u0, u1, u2, u3, u4, u5, u6, u7, u8]), z12, z13] h = .ok false h := by simp [e3, truW]
  rw [sif_f c]
  rfl
theorem x16 : ∀ j, j < 16 → ∃ fs us, (X5 u0 u1 u2 u3 u4 ++ (X4 u5 u6 u7 u8 ++ X7))[j]? = some (.exo (j + 1) fs us) := fun j hj => match j, hj with
  | 0, _ => ⟨_, _, rfl⟩ | 1, _ => ⟨_, _, rfl⟩ | 2, _ => ⟨_, _, rfl⟩ | 3, _ => ⟨_, _, rfl⟩ | 4, _ => ⟨_, _, rfl⟩ | 5, _ => ⟨_, _, rfl⟩ | 6, _ => ⟨_, _, rfl⟩ | 7, _ => ⟨_, _, rfl⟩
  | 8, _ => ⟨_, _, rfl⟩ | 9, _ => ⟨_, _, rfl⟩ | 10, _ => ⟨_, _, rfl⟩ | 11, _ => ⟨_, _, rfl⟩ | 12, _ => ⟨_, _, rfl⟩ | 13, _ => ⟨_, _, rfl⟩ | 14, _ => ⟨_, _, rfl⟩ | 15, _ => ⟨_, _, rfl⟩
  | n + 16, h => absurd h (by omega)
theorem x9 : ∀ j, j < 9 → ∃ fs us, (X5 u0 u1 u2 u3 u4 ++ X4 u5 u6 u7 u8)[j]? = some (.exo (j + 1) fs us) := fun j hj => match j, hj with
  | 0, _ => ⟨_, _, rfl⟩ | 1, _ => ⟨_, _, rfl⟩ | 2, _ => ⟨_, _, rfl⟩ | 3, _ => ⟨_, _, rfl⟩ | 4, _ => ⟨_, _, rfl⟩ | 5, _ => ⟨_, _, rfl⟩ | 6, _ => ⟨_, _, rfl⟩ | 7, _ => ⟨_, _, rfl⟩
  | 8, _ => ⟨_, _, rfl⟩
  | n + 9, h => absurd h (by omega)
theorem mid_get {a b c : WH} {j : Nat} {o : Ob} (e : b[j]? = some o) : (a ++ b ++ c)[a.length + j]? = some o := by
  have hj := (List.getElem?_eq_some_iff.mp e).1
  rw [List.append_assoc, List.getElem?_append_right (by omega), Nat.add_sub_cancel_left, List.getElem?_append_left hj, e]
end
end KW.P

set_option Elab.async false
set_option linter.all false
set_option maxRecDepth 100000
set_option maxHeartbeats 4000000
/-! k50: a turn of the law, the law -/
namespace KW.P
open PySem L2 KW TL
theorem nine {us : List W} (h : us.length = 9) : ∃ u0 u1 u2 u3 u4 u5 u6 u7 u8, us = [u0, u1, u2, u3, u4, u5, u6, u7, u8] := by
  match us, h with
  | [u0, u1, u2, u3, u4, u5, u6, u7, u8], _ => exact ⟨_, _, _, _, _, _, _, _, _, rfl⟩
/-- nine things -/
theorem things_ok {k : Nat} {g : WH} {a : Hd} {sw : WS} (ha : a.Ok) (h2 : (wipeW sw [4])[2]? = some (some (.ref g.length))) (hl : 4 < sw.length) : ∃ us a', dComp false (iRg1 (aCons (dC (.int 9)) (aNil))) (.nm 4) (bYes) (dCall ((prg (k + 3)) i_L_any) (aCons (dVar 2) (aNil))) [4] sw (g ++ [HO a]) = .ok (.lst us) (g ++ [HO a']) ∧ us.length = 9 ∧ (∀ u ∈ us, Tg 14 u) ∧ a'.Ok := by
  obtain ⟨acc, h', e, e1, e2, a', rfl, ok⟩ := compL_run (src := none) (ws0 := rngW 0 9) (t := tgW (.nm 4)) (cond := bYes) (elt := dCall ((prg (k + 3)) i_L_any) (aCons (dVar 2) (aNil))) (sw := wipeW sw [4]) (items := rngW 0 9) (h := g ++ [HO a]) (fun i acc h => acc.length = i ∧ (∀ u ∈ acc, Tg 14 u) ∧ ∃ a : Hd, h = g ++ [HO a] ∧ a.Ok) ⟨rfl, by simp, a, rfl, ha⟩ (fun _ _ _ _ _ => rfl) (by
    rintro i w acc h hw ⟨rfl, ht, a1, rfl, ok1⟩
    obtain ⟨e0, hi⟩ := rng_get hw
    subst e0
    obtain ⟨u, a2, e, ok2, tg⟩ := any_ok (k := k) (h := g ++ [HO a1]) (r := g.length) (a := a1) (by simp) ok1
    have es : (g ++ [HO a1]).set g.length (HO a2) = g ++ [HO a2] := by simp
    rw [es] at e
    have w2 : ((wipeW sw [4]).set 4 (some (.int (acc.length : Nat))))[2]? = some (some (.ref g.length)) := by rw [List.getElem?_set_ne (by decide)]; exact h2
    refine ⟨(wipeW sw [4]).set 4 (some (.int (acc.length : Nat))), g ++ [HO a1], rfl, .inr ⟨u, g ++ [HO a2], rfl, ?_, by unfold lim; omega, by simp, ?_, a2, rfl, ok2⟩⟩
    · simp [w2, e]
    · intro v hv
      rcases List.mem_append.mp hv with hv | hv
      · exact ht v hv
      · simp at hv; subst hv; exact tg)
  have ln : (rngW 0 9).length = 9 := by simp [rngW]
  rw [ln] at e1
  have r9 : (-(lim : Int) ≤ (9 : Int)) ∧ (9 : Int) ≤ (lim : Int) := by
    have : (lim : Int) = 1000000 := rfl
    omega
  have t9 : (9 : Int).toNat = 9 := rfl
  refine ⟨acc, a', ?_, e1, e2, ok⟩
  simp only [x_comp, x_rg1, x_cons, x_c, x_nil, x_bind, if_pos r9, t9, e]
  rfl
noncomputable abbrev BD (Φ : Fns) : EW := sSeq (sSet 2 (dCall (Φ i_L_pot) (aCons (dVar 0) (aCons (dVar 1) (aNil)))))
 (sSeq (sSet 3 (dComp false (iRg1 (aCons (dC (.int 9)) (aNil))) (.nm 4) (bYes) (dCall (Φ i_L_any) (aCons (dVar 2) (aNil))) [4]))
 (sSeq (sPar 5 6 (aCons (dCall (Φ i_L_of_place) (aCons (dVar 3) (aNil))) (aCons (dCall (Φ i_L_of_name) (aCons (dVar 3) (aNil))) (aNil))))
 (sSeq (sFor (iAny (dTup (aCons (dVar 5) (aCons (dVar 6) (aNil))))) (.nm 7) (B7 Φ))
 (sNil))))
theorem law_eq (Φ : Fns) : d_L_law Φ = sSeq (sFor (iRg1 (aCons (dBi bMax2 (aCons (dC (.int 1)) (aCons (dBi bMin2 (aCons (dC (.int 3)) (aCons (dBi bLen (aCons (dVar 0) (aNil))) (aNil)))) (aNil)))) (aNil))) (.nm 1) (BD Φ))
 (sSeq (sRet (dC (.bl true)))
 (sNil)) := rfl
theorem both_ok {k : Nat} {h0 : WH} {u0 u1 u2 u3 u4 u5 u6 u7 u8 : W} {z0 z1 z2 z4 y7 y8 y9 z10 y11 z12 z13 : Option W} (ht : ∀ u ∈ [u0, u1, u2, u3, u4, u5, u6, u7, u8], Tg 14 u) :
    ∃ x7 x8 x9 x11, sFor (iAny (dTup (aCons (dVar 5) (aCons (dVar 6) (aNil))))) (.nm 7) (B7 (prg (k + 1))) [z0, z1, z2, some (.lst [u0, u1, u2, u3, u4, u5, u6, u7, u8]), z4, some (.lst (refsN h0.length 16)), some (.lst (refsN (h0.length + 16) 9)), y7, y8, y9, z10, y11, z12, z13] (h0 ++ (X5 u0 u1 u2 u3 u4 ++ (X4 u5 u6 u7 u8 ++ X7)) ++ (X5 u0 u1 u2 u3 u4 ++ X4 u5 u6 u7 u8)) = .ok (.next [z0, z1, z2, some (.lst [u0, u1, u2, u3, u4, u5, u6, u7, u8]), z4, some (.lst (refsN h0.length 16)), some (.lst (refsN (h0.length + 16) 9)), x7, x8, x9, z10, x11, z12, z13]) (h0 ++ (X5 u0 u1 u2 u3 u4 ++ (X4 u5 u6 u7 u8 ++ X7)) ++ (X5 u0 u1 u2 u3 u4 ++ X4 u5 u6 u7 u8)) := by
  have l16 : (h0 ++ (X5 u0 u1 u2 u3 u4 ++ (X4 u5 u6 u7 u8 ++ X7))).length = h0.length + 16 := by simp [X5, X4, X7]
  have m1 : ∀ {j : Nat} {o : Ob}, (X5 u0 u1 u2 u3 u4 ++ (X4 u5 u6 u7 u8 ++ X7))[j]? = some o → (h0 ++ (X5 u0 u1 u2 u3 u4 ++ (X4 u5 u6 u7 u8 ++ X7)) ++ (X5 u0 u1 u2 u3 u4 ++ X4 u5 u6 u7 u8))[h0.length + j]? = some o := fun e => mid_get e
  have m2 : ∀ {j : Nat} {o : Ob}, (X5 u0 u1 u2 u3 u4 ++ X4 u5 u6 u7 u8)[j]? = some o → (h0 ++ (X5 u0 u1 u2 u3 u4 ++ (X4 u5 u6 u7 u8 ++ X7)) ++ (X5 u0 u1 u2 u3 u4 ++ X4 u5 u6 u7 u8))[h0.length + 16 + j]? = some o := fun {j o} e => by
    have := mid_get (a := h0 ++ (X5 u0 u1 u2 u3 u4 ++ (X4 u5 u6 u7 u8 ++ X7))) (c := []) e
    rwa [List.append_nil, l16] at this
  have g1 : ∀ j, j < 16 → ∃ fs us, (h0 ++ (X5 u0 u1 u2 u3 u4 ++ (X4 u5 u6 u7 u8 ++ X7)) ++ (X5 u0 u1 u2 u3 u4 ++ X4 u5 u6 u7 u8))[h0.length + j]? = some (.exo (j + 1) fs us) := fun j hj => by
    obtain ⟨fs, us, e⟩ := x16 (u0 := u0) (u1 := u1) (u2 := u2) (u3 := u3) (u4 := u4) (u5 := u5) (u6 := u6) (u7 := u7) (u8 := u8) j hj
    exact ⟨fs, us, m1 e⟩
  have g2 : ∀ j, j < 9 → ∃ fs us, (h0 ++ (X5 u0 u1 u2 u3 u4 ++ (X4 u5 u6 u7 u8 ++ X7)) ++ (X5 u0 u1 u2 u3 u4 ++ X4 u5 u6 u7 u8))[h0.length + 16 + j]? = some (.exo (j + 1) fs us) := fun j hj => by
    obtain ⟨fs, us, e⟩ := x9 (u0 := u0) (u1 := u1) (u2 := u2) (u3 := u3) (u4 := u4) (u5 := u5) (u6 := u6) (u7 := u7) (u8 := u8) j hj
    exact ⟨fs, us, m2 e⟩
  have i1 := fun {w8 w9 w11 : Option W} => inner_ok (k := k) (z0 := z0) (z1 := z1) (z2 := z2) (z4 := z4) (z5 := some (.lst (refsN h0.length 16))) (z6 := some (.lst (refsN (h0.length + 16) 9))) (y8 := w8) (y9 := w9) (z10 := z10) (y11 := w11) (z12 := z12) (z13 := z13) (n := h0.length) (m := 16) (Nat.le_refl _) (by decide) g1 ht
    (m1 (j := 0) rfl) (m1 (j := 1) rfl) (m1 (j := 2) rfl) (m1 (j := 3) rfl) (m1 (j := 4) rfl) (m1 (j := 5) rfl) (m1 (j := 6) rfl) (m1 (j := 7) rfl) (m1 (j := 8) rfl)
  have i2 := fun {w8 w9 w11 : Option W} => inner_ok (k := k) (z0 := z0) (z1 := z1) (z2 := z2) (z4 := z4) (z5 := some (.lst (refsN h0.length 16))) (z6 := some (.lst (refsN (h0.length + 16) 9))) (y8 := w8) (y9 := w9) (z10 := z10) (y11 := w11) (z12 := z12) (z13 := z13) (n := h0.length + 16) (m := 9) (by decide) (by decide) g2 ht
    (m2 (j := 0) rfl) (m2 (j := 1) rfl) (m2 (j := 2) rfl) (m2 (j := 3) rfl) (m2 (j := 4) rfl) (m2 (j := 5) rfl) (m2 (j := 6) rfl) (m2 (j := 7) rfl) (m2 (j := 8) rfl)
  generalize h0 ++ (X5 u0 u1 u2 u3 u4 ++ (X4 u5 u6 u7 u8 ++ X7)) ++ (X5 u0 u1 u2 u3 u4 ++ X4 u5 u6 u7 u8) = H at i1 i2 ⊢
  generalize refsN h0.length 16 = L1 at i1 i2 ⊢
  generalize refsN (h0.length + 16) 9 = L2 at i1 i2 ⊢
  obtain ⟨sw', h', e, x7, x8, x9, x11, rfl, rfl⟩ := forL_run (src := none) (ws0 := [W.lst L1, .lst L2]) (t := tgW (.nm 7)) (body := B7 (prg (k + 1))) (items := [W.lst L1, .lst L2])
    (sw := [z0, z1, z2, some (.lst [u0, u1, u2, u3, u4, u5, u6, u7, u8]), z4, some (.lst L1), some (.lst L2), y7, y8, y9, z10, y11, z12, z13]) (h := H)
    (fun i sw g => ∃ x7 x8 x9 x11 : Option W, sw = [z0, z1, z2, some (.lst [u0, u1, u2, u3, u4, u5, u6, u7, u8]), z4, some (.lst L1), some (.lst L2), x7, x8, x9, z10, x11, z12, z13] ∧ g = H) ⟨y7, y8, y9, y11, rfl, rfl⟩ (fun _ _ _ _ _ => rfl) (by
      rintro i w sw g hw ⟨x7, x8, x9, x11, rfl, rfl⟩
      match i, hw with
      | 0, hw =>
        cases hw
        obtain ⟨a8, a9, e⟩ := i1 (w8 := x8) (w9 := x9) (w11 := x11)
        exact ⟨_, _, _, rfl, .inl e, _, _, _, _, rfl, rfl⟩
      | 1, hw =>
        cases hw
        obtain ⟨a8, a9, e⟩ := i2 (w8 := x8) (w9 := x9) (w11 := x11)
        exact ⟨_, _, _, rfl, .inl e, _, _, _, _, rfl, rfl⟩
      | n + 2, hw => simp at hw)
  refine ⟨x7, x8, x9, x11, ?_⟩
  rw [x_for]
  have it : iAny (dTup (aCons (dVar 5) (aCons (dVar 6) (aNil)))) [z0, z1, z2, some (.lst [u0, u1, u2, u3, u4, u5, u6, u7, u8]), z4, some (.lst L1), some (.lst L2), y7, y8, y9, z10, y11, z12, z13] h' = .ok ([W.lst L1, .lst L2], none) h' := by simp [iAny, lm]
  rw [it]
  exact e
end KW.P

set_option Elab.async false
set_option linter.all false
set_option maxRecDepth 100000
set_option maxHeartbeats 4000000
/-! k50: the law -/
namespace KW.P
open PySem L2 KW TL
theorem step_ok {g : WH} {ns : List Int} {i : Nat} {y2 y3 y4 y5 y6 y7 y8 y9 y10 y11 y12 y13 : Option W} (hl : ns.length ≤ 63) (hi : i ≤ 3) : ∃ (sw' : WS) (g' : WH), BD (prg 29) [some (.scr ns), some (.int (i : Nat)), y2, y3, y4, y5, y6, y7, y8, y9, y10, y11, y12, y13] g = .ok (.next (some (.scr ns) :: sw')) g' ∧ sw'.length = 13 := by
  obtain ⟨a, e1, ok1⟩ := pot_ok (k := 28) (h := g) (ns := ns) (i := i) hi hl
  have e1 : prg 29 i_L_pot [.scr ns, .int (i : Nat)] g = _ := e1
  obtain ⟨us, a2, e2, hu, ht, ok2⟩ := things_ok (k := 26) (g := g) (a := a) (sw := [some (.scr ns), some (.int (i : Nat)), some (.ref g.length), y3, y4, y5, y6, y7, y8, y9, y10, y11, y12, y13]) ok1 rfl (by simp)
  obtain ⟨u0, u1, u2, u3, u4, u5, u6, u7, u8, rfl⟩ := nine hu
  have e2 : dComp false (iRg1 (aCons (dC (.int 9)) (aNil))) (.nm 4) (bYes) (dCall ((prg 29) i_L_any) (aCons (dVar 2) (aNil))) [4] [some (.scr ns), some (.int (i : Nat)), some (.ref g.length), y3, y4, y5, y6, y7, y8, y9, y10, y11, y12, y13] (g ++ [HO a]) = _ := e2
  have e3 : prg 29 i_L_of_place [.lst [u0, u1, u2, u3, u4, u5, u6, u7, u8]] (g ++ [HO a2]) = _ := place_ok (k := 28) (h := g ++ [HO a2]) (u0 := u0) (u1 := u1) (u2 := u2) (u3 := u3) (u4 := u4) (u5 := u5) (u6 := u6) (u7 := u7) (u8 := u8)
  have e4 : prg 29 i_L_of_name [.lst [u0, u1, u2, u3, u4, u5, u6, u7, u8]] ((g ++ [HO a2]) ++ (X5 u0 u1 u2 u3 u4 ++ (X4 u5 u6 u7 u8 ++ X7))) = _ := name_ok (k := 28) (h := (g ++ [HO a2]) ++ (X5 u0 u1 u2 u3 u4 ++ (X4 u5 u6 u7 u8 ++ X7))) (u0 := u0) (u1 := u1) (u2 := u2) (u3 := u3) (u4 := u4) (u5 := u5) (u6 := u6) (u7 := u7) (u8 := u8)
  generalize hG : g ++ [HO a2] = G at e2 e3 e4
  have l16 : (G ++ (X5 u0 u1 u2 u3 u4 ++ (X4 u5 u6 u7 u8 ++ X7))).length = G.length + 16 := by simp [X5, X4, X7]
  rw [l16] at e4
  obtain ⟨x7, x8, x9, x11, e5⟩ := both_ok (k := 28) (h0 := G) (z0 := some (.scr ns)) (z1 := some (.int (i : Nat))) (z2 := some (.ref g.length)) (z4 := y4) (y7 := y7) (y8 := y8) (y9 := y9) (z10 := y10) (y11 := y11) (z12 := y12) (z13 := y13) ht
  have e5 : sFor (iAny (dTup (aCons (dVar 5) (aCons (dVar 6) (aNil))))) (.nm 7) (B7 (prg 29)) _ _ = _ := e5
  have s1 : sSet 2 (dCall ((prg 29) i_L_pot) (aCons (dVar 0) (aCons (dVar 1) (aNil)))) [some (.scr ns), some (.int (i : Nat)), y2, y3, y4, y5, y6, y7, y8, y9, y10, y11, y12, y13] g = .ok (.next [some (.scr ns), some (.int (i : Nat)), some (.ref g.length), y3, y4, y5, y6, y7, y8, y9, y10, y11, y12, y13]) (g ++ [HO a]) := by simp [e1]
  have s2 : sSet 3 (dComp false (iRg1 (aCons (dC (.int 9)) (aNil))) (.nm 4) (bYes) (dCall ((prg 29) i_L_any) (aCons (dVar 2) (aNil))) [4]) [some (.scr ns), some (.int (i : Nat)), some (.ref g.length), y3, y4, y5, y6, y7, y8, y9, y10, y11, y12, y13] (g ++ [HO a]) = .ok (.next [some (.scr ns), some (.int (i : Nat)), some (.ref g.length), some (.lst [u0, u1, u2, u3, u4, u5, u6, u7, u8]), y4, y5, y6, y7, y8, y9, y10, y11, y12, y13]) G := by
    rw [x_set, e2]; rfl
  have s3 : sPar 5 6 (aCons (dCall ((prg 29) i_L_of_place) (aCons (dVar 3) (aNil))) (aCons (dCall ((prg 29) i_L_of_name) (aCons (dVar 3) (aNil))) (aNil))) [some (.scr ns), some (.int (i : Nat)), some (.ref g.length), some (.lst [u0, u1, u2, u3, u4, u5, u6, u7, u8]), y4, y5, y6, y7, y8, y9, y10, y11, y12, y13] G = .ok (.next [some (.scr ns), some (.int (i : Nat)), some (.ref g.length), some (.lst [u0, u1, u2, u3, u4, u5, u6, u7, u8]), y4, some (.lst (refsN G.length 16)), some (.lst (refsN (G.length + 16) 9)), y7, y8, y9, y10, y11, y12, y13]) (G ++ (X5 u0 u1 u2 u3 u4 ++ (X4 u5 u6 u7 u8 ++ X7)) ++ (X5 u0 u1 u2 u3 u4 ++ X4 u5 u6 u7 u8)) := by
    rw [x_par]
    simp only [x_cons, x_nil, x_call, x_var, List.getElem?_cons_succ, List.getElem?_cons_zero, x_bind, e3, e4]
    rfl
  refine ⟨[some (.int (i : Nat)), some (.ref g.length), some (.lst [u0, u1, u2, u3, u4, u5, u6, u7, u8]), y4, some (.lst (refsN G.length 16)), some (.lst (refsN (G.length + 16) 9)), x7, x8, x9, y10, x11, y12, y13], G ++ (X5 u0 u1 u2 u3 u4 ++ (X4 u5 u6 u7 u8 ++ X7)) ++ (X5 u0 u1 u2 u3 u4 ++ X4 u5 u6 u7 u8), ?_, rfl⟩
  unfold BD
  rw [x_seq, s1, q_next, x_seq, s2, q_next, x_seq, s3, q_next, x_seq, e5, q_next]
  rfl
theorem plain (ns : List Int) (hl : ns.length ≤ 63) : ∃ h', KW.P.prg 30 i_L_law [.scr ns] [] = .ok (.bl true) h' := by
  have r := r_L_law (k := 29) (h := []) (show [W.scr ns].length = 1 from rfl)
  have r : prg 30 i_L_law [.scr ns] [] = _ := r
  rw [law_eq] at r
  generalize hm : max 1 (min 3 ns.length) = m
  have m3 : m ≤ 3 := by omega
  obtain ⟨sw', g', e, y, rfl, hy⟩ := forL_run (src := none) (ws0 := rngW 0 m) (t := tgW (.nm 1)) (body := BD (prg 29)) (items := rngW 0 m) (sw := some (.scr ns) :: List.replicate 13 none) (h := [])
    (fun i sw g' => ∃ y : List (Option W), sw = some (.scr ns) :: y ∧ y.length = 13) ⟨_, rfl, rfl⟩ (fun _ _ _ _ _ => rfl) (by
      rintro i w sw g' hw ⟨y, rfl, hy⟩
      obtain ⟨rfl, hi⟩ := rng_get hw
      match y, hy with
      | [y1, y2, y3, y4, y5, y6, y7, y8, y9, y10, y11, y12, y13], _ =>
        obtain ⟨sw', g2, e, hy'⟩ := step_ok (g := g') (i := i) (y2 := y2) (y3 := y3) (y4 := y4) (y5 := y5) (y6 := y6) (y7 := y7) (y8 := y8) (y9 := y9) (y10 := y10) (y11 := y11) (y12 := y12) (y13 := y13) hl (by omega)
        exact ⟨_, _, _, rfl, .inl e, sw', rfl, hy'⟩)
  have it : iRg1 (aCons (dBi bMax2 (aCons (dC (.int 1)) (aCons (dBi bMin2 (aCons (dC (.int 3)) (aCons (dBi bLen (aCons (dVar 0) (aNil))) (aNil)))) (aNil)))) (aNil)) (some (.scr ns) :: List.replicate 13 none) [] = .ok (rngW 0 m, none) [] := by
    have bl : bLen [.scr ns] [] = .ok (.int ns.length) [] := by simp [bLen, seqOf]
    have b2 : bMin2 [.int 3, .int ns.length] [] = .ok (.int ((min 3 ns.length : Nat) : Int)) [] := by
      simp only [bMin2]
      by_cases z : ns.length < 3
      · rw [if_pos (by omega), Nat.min_eq_right (by omega)]
      · rw [if_neg (by omega), Nat.min_eq_left (by omega)]; rfl
    have b1 : bMax2 [.int 1, .int ((min 3 ns.length : Nat) : Int)] [] = .ok (.int (m : Int)) [] := by
      simp only [bMax2]
      by_cases z : 1 < min 3 ns.length
      · rw [if_pos (by omega), ← hm, Nat.max_eq_right (by omega)]
      · rw [if_neg (by omega), ← hm, Nat.max_eq_left (by omega)]; rfl
    have rr : (-(lim : Int) ≤ (m : Int)) ∧ (m : Int) ≤ (lim : Int) := by
      have : (lim : Int) = 1000000 := rfl
      omega
    have v0 : dVar 0 (some (.scr ns) :: List.replicate 13 none) [] = .ok (.scr ns) [] := rfl
    have x1 : dBi bLen (aCons (dVar 0) (aNil)) (some (.scr ns) :: List.replicate 13 none) [] = .ok (.int ns.length) [] := by
      rw [x_bi, x_cons, v0]; exact bl
    have x2 : dBi bMin2 (aCons (dC (.int 3)) (aCons (dBi bLen (aCons (dVar 0) (aNil))) (aNil))) (some (.scr ns) :: List.replicate 13 none) [] = .ok (.int ((min 3 ns.length : Nat) : Int)) [] := by
      rw [x_bi, x_cons, x_c, x_bind, x_cons, x1]; exact b2
    have x3 : dBi bMax2 (aCons (dC (.int 1)) (aCons (dBi bMin2 (aCons (dC (.int 3)) (aCons (dBi bLen (aCons (dVar 0) (aNil))) (aNil)))) (aNil))) (some (.scr ns) :: List.replicate 13 none) [] = .ok (.int (m : Int)) [] := by
      rw [x_bi, x_cons, x_c, x_bind, x_cons, x2]; exact b1
    rw [x_rg1, x_cons, x3]
    show (if -(lim : Int) ≤ (m : Int) ∧ (m : Int) ≤ (lim : Int) then R.ok (rngW 0 (m : Int).toNat, none) [] else .no) = _
    rw [if_pos rr]
    rfl
  have f : (sSeq (sFor (iRg1 (aCons (dBi bMax2 (aCons (dC (.int 1)) (aCons (dBi bMin2 (aCons (dC (.int 3)) (aCons (dBi bLen (aCons (dVar 0) (aNil))) (aNil)))) (aNil)))) (aNil))) (.nm 1) (BD (prg 29)))
   (sSeq (sRet (dC (.bl true))) (sNil))) (some (.scr ns) :: List.replicate 13 none) [] = .ok (.ret (.bl true)) g' := by
    rw [x_seq, x_for, it]
    show RS.seq (forL none (rngW 0 m) (tgW (.nm 1)) (BD (prg 29)) (rngW 0 m) (some (.scr ns) :: List.replicate 13 none) []) _ = _
    rw [e, q_next]
    rfl
  refine ⟨gc ([] : WH).length (.bl true) [] g', r.trans ?_⟩
  show fin [] ((sSeq (sFor (iRg1 (aCons (dBi bMax2 (aCons (dC (.int 1)) (aCons (dBi bMin2 (aCons (dC (.int 3)) (aCons (dBi bLen (aCons (dVar 0) (aNil))) (aNil)))) (aNil)))) (aNil))) (.nm 1) (BD (prg 29)))
   (sSeq (sRet (dC (.bl true))) (sNil))) (some (.scr ns) :: List.replicate 13 none) []) = _
  rw [f]
  rfl
end KW.P

set_option maxHeartbeats 4000000
namespace KW.P
open PySem L2 KW
set_option maxHeartbeats 0 in
theorem lsN1 {α : Type} {us : List α} (h : us.length = 1) : ∃ a0, us = [a0] := by
  match us, h with
  | [a0], _ => exact ⟨a0, rfl⟩
theorem lsN2 {α : Type} {us : List α} (h : us.length = 2) : ∃ a0 a1, us = [a0, a1] := by
  match us, h with
  | [a0, a1], _ => exact ⟨a0, a1, rfl⟩
theorem all_mk {l : PySem.W.OpenLaw} {w : World} {K : PySem.W.Frag} {h : Heap} {mg : Str → Option Value} {fa : Addr} (X : K.In h) (G : h.Ns mainGlobals mg) (hfa : mg "law" = some (.ref fa))
 {f0 f1 f2 f3 f4 f5 f6 f7 f8 f9 C0 C1 C2 C3 C4 C5 C6 C7 C8 C9 C10 C11 C12 C13 C14 C15 C16 : Addr} {od0 an0 : Option Addr} {sl0 : Array (Option Value)} {oc0 kV0 dc0 pm0 cd0 ct0 : Value} {od1 an1 : Option Addr} {sl1 : Array (Option Value)} {oc1 kV1 dc1 pm1 cd1 ct1 : Value} {od2 an2 : Option Addr} {sl2 : Array (Option Value)} {oc2 kV2 dc2 pm2 cd2 ct2 : Value} {od3 an3 : Option Addr} {sl3 : Array (Option Value)} {oc3 kV3 dc3 pm3 cd3 ct3 : Value} {od4 an4 : Option Addr} {sl4 : Array (Option Value)} {oc4 kV4 dc4 pm4 cd4 ct4 : Value} {od5 an5 : Option Addr} {sl5 : Array (Option Value)} {oc5 kV5 dc5 pm5 cd5 ct5 : Value} {od6 an6 : Option Addr} {sl6 : Array (Option Value)} {oc6 kV6 dc6 pm6 cd6 ct6 : Value} {od7 an7 : Option Addr} {sl7 : Array (Option Value)} {oc7 kV7 dc7 pm7 cd7 ct7 : Value} {od8 an8 : Option Addr} {sl8 : Array (Option Value)} {oc8 kV8 dc8 pm8 cd8 ct8 : Value} {od9 an9 : Option Addr} {sl9 : Array (Option Value)} {oc9 kV9 dc9 pm9 cd9 ct9 : Value} {xf1 : Addr} {xa1 xb1 xg1 : Option Addr} {xs1 : Array (Option Value)} {xc1 xk1 xd1 xp1 xe1 xt1 : Value} {en1 eq1 : Str} {eN1 : Addr} {eb1 : List Value} {es1 : List Str} {eu1 : List Value} {ey1 : Bool} {ec1 : Option Bool} {ed1 : Option Addr} {e01 e11 e21 e31 e51 : Option Value} {xf2 : Addr} {xa2 xb2 xg2 : Option Addr} {xs2 : Array (Option Value)} {xc2 xk2 xd2 xp2 xe2 xt2 : Value} {en2 eq2 : Str} {eN2 : Addr} {eb2 : List Value} {es2 : List Str} {eu2 : List Value} {ey2 : Bool} {ec2 : Option Bool} {ed2 : Option Addr} {e02 e12 e22 e32 e52 : Option Value} {xf3 : Addr} {xa3 xb3 xg3 : Option Addr} {xs3 : Array (Option Value)} {xc3 xk3 xd3 xp3 xe3 xt3 : Value} {en3 eq3 : Str} {eN3 : Addr} {eb3 : List Value} {es3 : List Str} {eu3 : List Value} {ey3 : Bool} {ec3 : Option Bool} {ed3 : Option Addr} {e03 e13 e23 e33 e53 : Option Value} {xf4 : Addr} {xa4 xb4 xg4 : Option Addr} {xs4 : Array (Option Value)} {xc4 xk4 xd4 xp4 xe4 xt4 : Value} {en4 eq4 : Str} {eN4 : Addr} {eb4 : List Value} {es4 : List Str} {eu4 : List Value} {ey4 : Bool} {ec4 : Option Bool} {ed4 : Option Addr} {e04 e14 e24 e34 e54 : Option Value} {xf5 : Addr} {xa5 xb5 xg5 : Option Addr} {xs5 : Array (Option Value)} {xc5 xk5 xd5 xp5 xe5 xt5 : Value} {en5 eq5 : Str} {eN5 : Addr} {eb5 : List Value} {es5 : List Str} {eu5 : List Value} {ey5 : Bool} {ec5 : Option Bool} {ed5 : Option Addr} {e05 e15 e25 e35 e55 : Option Value} {xf6 : Addr} {xa6 xb6 xg6 : Option Addr} {xs6 : Array (Option Value)} {xc6 xk6 xd6 xp6 xe6 xt6 : Value} {en6 eq6 : Str} {eN6 : Addr} {eb6 : List Value} {es6 : List Str} {eu6 : List Value} {ey6 : Bool} {ec6 : Option Bool} {ed6 : Option Addr} {e06 e16 e26 e36 e56 : Option Value} {xf7 : Addr} {xa7 xb7 xg7 : Option Addr} {xs7 : Array (Option Value)} {xc7 xk7 xd7 xp7 xe7 xt7 : Value} {en7 eq7 : Str} {eN7 : Addr} {eb7 : List Value} {es7 : List Str} {eu7 : List Value} {ey7 : Bool} {ec7 : Option Bool} {ed7 : Option Addr} {e07 e17 e27 e37 e57 : Option Value} {xf8 : Addr} {xa8 xb8 xg8 : Option Addr} {xs8 : Array (Option Value)} {xc8 xk8 xd8 xp8 xe8 xt8 : Value} {en8 eq8 : Str} {eN8 : Addr} {eb8 : List Value} {es8 : List Str} {eu8 : List Value} {ey8 : Bool} {ec8 : Option Bool} {ed8 : Option Addr} {e08 e18 e28 e38 e58 : Option Value} {xf9 : Addr} {xa9 xb9 xg9 : Option Addr} {xs9 : Array (Option Value)} {xc9 xk9 xd9 xp9 xe9 xt9 : Value} {en9 eq9 : Str} {eN9 : Addr} {eb9 : List Value} {es9 : List Str} {eu9 : List Value} {ey9 : Bool} {ec9 : Option Bool} {ed9 : Option Addr} {e09 e19 e29 e39 e59 : Option Value} {xf10 : Addr} {xa10 xb10 xg10 : Option Addr} {xs10 : Array (Option Value)} {xc10 xk10 xd10 xp10 xe10 xt10 : Value} {en10 eq10 : Str} {eN10 : Addr} {eb10 : List Value} {es10 : List Str} {eu10 : List Value} {ey10 : Bool} {ec10 : Option Bool} {ed10 : Option Addr} {e010 e110 e210 e310 e510 : Option Value} {xf11 : Addr} {xa11 xb11 xg11 : Option Addr} {xs11 : Array (Option Value)} {xc11 xk11 xd11 xp11 xe11 xt11 : Value} {en11 eq11 : Str} {eN11 : Addr} {eb11 : List Value} {es11 : List Str} {eu11 : List Value} {ey11 : Bool} {ec11 : Option Bool} {ed11 : Option Addr} {e011 e111 e211 e311 e511 : Option Value} {xf12 : Addr} {xa12 xb12 xg12 : Option Addr} {xs12 : Array (Option Value)} {xc12 xk12 xd12 xp12 xe12 xt12 : Value} {en12 eq12 : Str} {eN12 : Addr} {eb12 : List Value} {es12 : List Str} {eu12 : List Value} {ey12 : Bool} {ec12 : Option Bool} {ed12 : Option Addr} {e012 e112 e212 e312 e512 : Option Value} {xf13 : Addr} {xa13 xb13 xg13 : Option Addr} {xs13 : Array (Option Value)} {xc13 xk13 xd13 xp13 xe13 xt13 : Value} {en13 eq13 : Str} {eN13 : Addr} {eb13 : List Value} {es13 : List Str} {eu13 : List Value} {ey13 : Bool} {ec13 : Option Bool} {ed13 : Option Addr} {e013 e113 e213 e313 e513 : Option Value} {xf14 : Addr} {xa14 xb14 xg14 : Option Addr} {xs14 : Array (Option Value)} {xc14 xk14 xd14 xp14 xe14 xt14 : Value} {en14 eq14 : Str} {eN14 : Addr} {eb14 : List Value} {es14 : List Str} {eu14 : List Value} {ey14 : Bool} {ec14 : Option Bool} {ed14 : Option Addr} {e014 e114 e214 e314 e514 : Option Value} {xf15 : Addr} {xa15 xb15 xg15 : Option Addr} {xs15 : Array (Option Value)} {xc15 xk15 xd15 xp15 xe15 xt15 : Value} {en15 eq15 : Str} {eN15 : Addr} {eb15 : List Value} {es15 : List Str} {eu15 : List Value} {ey15 : Bool} {ec15 : Option Bool} {ed15 : Option Addr} {e015 e115 e215 e315 e515 : Option Value} {xf16 : Addr} {xa16 xb16 xg16 : Option Addr} {xs16 : Array (Option Value)} {xc16 xk16 xd16 xp16 xe16 xt16 : Value} {en16 eq16 : Str} {eN16 : Addr} {eb16 : List Value} {es16 : List Str} {eu16 : List Value} {ey16 : Bool} {ec16 : Option Bool} {ed16 : Option Addr} {e016 e116 e216 e316 e516 : Option Value}
 (aC0 : PySem.W.nsIn K mainGlobals "KnockError" = some (some (.ref C0)))
 (aC1 : PySem.W.nsIn K mainGlobals "NoFace" = some (some (.ref C1)))
 (aC2 : PySem.W.nsIn K mainGlobals "BadHouse" = some (some (.ref C2)))
 (aC3 : PySem.W.nsIn K mainGlobals "NoMove" = some (some (.ref C3)))
 (aC4 : PySem.W.nsIn K mainGlobals "NoTalk" = some (some (.ref C4)))
 (aC5 : PySem.W.nsIn K mainGlobals "NoText" = some (some (.ref C5)))
 (aC6 : PySem.W.nsIn K mainGlobals "TooLong" = some (some (.ref C6)))
 (aC7 : PySem.W.nsIn K mainGlobals "TooMany" = some (some (.ref C7)))
 (aC8 : PySem.W.nsIn K mainGlobals "NoRow" = some (some (.ref C8)))
 (aC9 : PySem.W.nsIn K mainGlobals "NoLine" = some (some (.ref C9)))
 (aC10 : PySem.W.nsIn K mainGlobals "NoLink" = some (some (.ref C10)))
 (aC11 : PySem.W.nsIn K mainGlobals "NoPair" = some (some (.ref C11)))
 (aC12 : PySem.W.nsIn K mainGlobals "NoPaper" = some (some (.ref C12)))
 (aC13 : PySem.W.nsIn K mainGlobals "NoMoment" = some (some (.ref C13)))
 (aC14 : PySem.W.nsIn K mainGlobals "NoSeam" = some (some (.ref C14)))
 (aC15 : PySem.W.nsIn K mainGlobals "NoBack" = some (some (.ref C15)))
 (aC16 : PySem.W.nsIn K mainGlobals "Dead" = some (some (.ref C16)))
 (a0_0 : PySem.W.nsIn K mainGlobals "_law_pot" = some (some (.ref f0)))
 (l0 : K.lookup f0 = some ⟨oc0, od0, .func (PySem.W.fnOf "_law_pot" "_law_pot" (defArgs t0) (defBody t0) (defScope t0) .none kV0 dc0 pm0 an0 cd0 ct0), sl0⟩)
 (c0 : PySem.W.codeIn K cd0 "_law_pot" = true)
 (k0 : PySem.W.keepIn K (.ref f0) = true)
 (a1_0 : PySem.W.nsIn K mainGlobals "_law_take" = some (some (.ref f1)))
 (l1 : K.lookup f1 = some ⟨oc1, od1, .func (PySem.W.fnOf "_law_take" "_law_take" (defArgs t1) (defBody t1) (defScope t1) .none kV1 dc1 pm1 an1 cd1 ct1), sl1⟩)
 (c1 : PySem.W.codeIn K cd1 "_law_take" = true)
 (k1 : PySem.W.keepIn K (.ref f1) = true)
 (a2_0 : PySem.W.nsIn K mainGlobals "_law_of" = some (some (.ref f2)))
 (l2 : K.lookup f2 = some ⟨oc2, od2, .func (PySem.W.fnOf "_law_of" "_law_of" (defArgs t2) (defBody t2) (defScope t2) .none kV2 dc2 pm2 an2 cd2 ct2), sl2⟩)
 (c2 : PySem.W.codeIn K cd2 "_law_of" = true)
 (k2 : PySem.W.keepIn K (.ref f2) = true)
 (a3_0 : PySem.W.nsIn K mainGlobals "_law_kinds" = some (some (.ref f3)))
 (l3 : K.lookup f3 = some ⟨oc3, od3, .func (PySem.W.fnOf "_law_kinds" "_law_kinds" (defArgs t3) (defBody t3) (defScope t3) .none kV3 dc3 pm3 an3 cd3 ct3), sl3⟩)
 (c3 : PySem.W.codeIn K cd3 "_law_kinds" = true)
 (k3 : PySem.W.keepIn K (.ref f3) = true)
 (a4_0 : PySem.W.nsIn K mainGlobals "_law_any" = some (some (.ref f4)))
 (l4 : K.lookup f4 = some ⟨oc4, od4, .func (PySem.W.fnOf "_law_any" "_law_any" (defArgs t4) (defBody t4) (defScope t4) .none kV4 dc4 pm4 an4 cd4 ct4), sl4⟩)
 (c4 : PySem.W.codeIn K cd4 "_law_any" = true)
 (k4 : PySem.W.keepIn K (.ref f4) = true)
 (a5_0 : PySem.W.nsIn K mainGlobals "_law_is_same" = some (some (.ref f5)))
 (l5 : K.lookup f5 = some ⟨oc5, od5, .func (PySem.W.fnOf "_law_is_same" "_law_is_same" (defArgs t5) (defBody t5) (defScope t5) .none kV5 dc5 pm5 an5 cd5 ct5), sl5⟩)
 (c5 : PySem.W.codeIn K cd5 "_law_is_same" = true)
 (k5 : PySem.W.keepIn K (.ref f5) = true)
 (a6_0 : PySem.W.nsIn K mainGlobals "_law_of_place" = some (some (.ref f6)))
 (l6 : K.lookup f6 = some ⟨oc6, od6, .func (PySem.W.fnOf "_law_of_place" "_law_of_place" (defArgs t6) (defBody t6) (defScope t6) .none kV6 dc6 pm6 an6 cd6 ct6), sl6⟩)
 (c6 : PySem.W.codeIn K cd6 "_law_of_place" = true)
 (k6 : PySem.W.keepIn K (.ref f6) = true)
 (a7_0 : PySem.W.nsIn K mainGlobals "_law_of_name" = some (some (.ref f7)))
 (l7 : K.lookup f7 = some ⟨oc7, od7, .func (PySem.W.fnOf "_law_of_name" "_law_of_name" (defArgs t7) (defBody t7) (defScope t7) .none kV7 dc7 pm7 an7 cd7 ct7), sl7⟩)
 (c7 : PySem.W.codeIn K cd7 "_law_of_name" = true)
 (k7 : PySem.W.keepIn K (.ref f7) = true)
 (a8_0 : PySem.W.nsIn K mainGlobals "_law_values" = some (some (.ref f8)))
 (l8 : K.lookup f8 = some ⟨oc8, od8, .func (PySem.W.fnOf "_law_values" "_law_values" (defArgs t8) (defBody t8) (defScope t8) .none kV8 dc8 pm8 an8 cd8 ct8), sl8⟩)
 (c8 : PySem.W.codeIn K cd8 "_law_values" = true)
 (k8 : PySem.W.keepIn K (.ref f8) = true)
 (a9_0 : PySem.W.nsIn K mainGlobals "law" = some (some (.ref f9)))
 (l9 : K.lookup f9 = some ⟨oc9, od9, .func (PySem.W.fnOf "law" "law" (defArgs t9) (defBody t9) (defScope t9) .none kV9 dc9 pm9 an9 cd9 ct9), sl9⟩)
 (c9 : PySem.W.codeIn K cd9 "law" = true)
 (k9 : PySem.W.keepIn K (.ref f9) = true)
 (ex1 : K.lookup C1 = some (excClassObj en1 eq1 C1 eN1 eb1 [.ref C0, .type "ValueError", .type "Exception", .type "BaseException", .type "object"] true es1 eu1 ey1 ec1 ed1 e01 e11 e21 e31 e51 "ValueError.__new__"))
 (esa1 : PySem.W.findIn K (.ref C1) "__setattr__" = some (some (.builtin "object.__setattr__")))
 (ebx1 : PySem.W.subIn K (.ref C1) (.type "BaseException") = some true)
 (ety1 : PySem.W.typeIn K (.ref C1) = some (.type "type"))
 (ekp1 : PySem.W.keepIn K (.ref C1) = true)
 (ein1 : PySem.W.findIn K (.ref C1) "__init__" = some (some (.ref xf1)))
 (eit1 : PySem.W.typeIn K (.ref xf1) = some (.type "function"))
 (enf1 : PySem.W.findIn K (.ref C1) "field" = some none)
 (el1 : K.lookup xf1 = some ⟨xc1, xa1, .func (PySem.W.fnOf "__init__" "NoFace.__init__" (defArgs xt_NoFace) (defBody xt_NoFace) (defScope xt_NoFace) .none xk1 xd1 xp1 xb1 xe1 xt1), xs1⟩)
 (eco1 : PySem.W.codeIn K xe1 "NoFace.__init__" = true)
 (ekf1 : PySem.W.keepIn K (.ref xf1) = true)
 (ex2 : K.lookup C2 = some (excClassObj en2 eq2 C2 eN2 eb2 [.ref C0, .type "ValueError", .type "Exception", .type "BaseException", .type "object"] true es2 eu2 ey2 ec2 ed2 e02 e12 e22 e32 e52 "ValueError.__new__"))
 (esa2 : PySem.W.findIn K (.ref C2) "__setattr__" = some (some (.builtin "object.__setattr__")))
 (ebx2 : PySem.W.subIn K (.ref C2) (.type "BaseException") = some true)
 (ety2 : PySem.W.typeIn K (.ref C2) = some (.type "type"))
 (ekp2 : PySem.W.keepIn K (.ref C2) = true)
 (ein2 : PySem.W.findIn K (.ref C2) "__init__" = some (some (.ref xf2)))
 (eit2 : PySem.W.typeIn K (.ref xf2) = some (.type "function"))
 (enf2 : PySem.W.findIn K (.ref C2) "field" = some none)
 (el2 : K.lookup xf2 = some ⟨xc2, xa2, .func (PySem.W.fnOf "__init__" "BadHouse.__init__" (defArgs xt_BadHouse) (defBody xt_BadHouse) (defScope xt_BadHouse) .none xk2 xd2 xp2 xb2 xe2 xt2), xs2⟩)
 (eco2 : PySem.W.codeIn K xe2 "BadHouse.__init__" = true)
 (ekf2 : PySem.W.keepIn K (.ref xf2) = true)
 (ex3 : K.lookup C3 = some (excClassObj en3 eq3 C3 eN3 eb3 [.ref C0, .type "ValueError", .type "Exception", .type "BaseException", .type "object"] true es3 eu3 ey3 ec3 ed3 e03 e13 e23 e33 e53 "ValueError.__new__"))
 (esa3 : PySem.W.findIn K (.ref C3) "__setattr__" = some (some (.builtin "object.__setattr__")))
 (ebx3 : PySem.W.subIn K (.ref C3) (.type "BaseException") = some true)
 (ety3 : PySem.W.typeIn K (.ref C3) = some (.type "type"))
 (ekp3 : PySem.W.keepIn K (.ref C3) = true)
 (ein3 : PySem.W.findIn K (.ref C3) "__init__" = some (some (.ref xf3)))
 (eit3 : PySem.W.typeIn K (.ref xf3) = some (.type "function"))
 (enf3 : PySem.W.findIn K (.ref C3) "move" = some none)
 (el3 : K.lookup xf3 = some ⟨xc3, xa3, .func (PySem.W.fnOf "__init__" "NoMove.__init__" (defArgs xt_NoMove) (defBody xt_NoMove) (defScope xt_NoMove) .none xk3 xd3 xp3 xb3 xe3 xt3), xs3⟩)
 (eco3 : PySem.W.codeIn K xe3 "NoMove.__init__" = true)
 (ekf3 : PySem.W.keepIn K (.ref xf3) = true)
 (ex4 : K.lookup C4 = some (excClassObj en4 eq4 C4 eN4 eb4 [.ref C0, .type "ValueError", .type "Exception", .type "BaseException", .type "object"] true es4 eu4 ey4 ec4 ed4 e04 e14 e24 e34 e54 "ValueError.__new__"))
 (esa4 : PySem.W.findIn K (.ref C4) "__setattr__" = some (some (.builtin "object.__setattr__")))
 (ebx4 : PySem.W.subIn K (.ref C4) (.type "BaseException") = some true)
 (ety4 : PySem.W.typeIn K (.ref C4) = some (.type "type"))
 (ekp4 : PySem.W.keepIn K (.ref C4) = true)
 (ein4 : PySem.W.findIn K (.ref C4) "__init__" = some (some (.ref xf4)))
 (eit4 : PySem.W.typeIn K (.ref xf4) = some (.type "function"))
 (enf4 : PySem.W.findIn K (.ref C4) "at" = some none)
 (el4 : K.lookup xf4 = some ⟨xc4, xa4, .func (PySem.W.fnOf "__init__" "NoTalk.__init__" (defArgs xt_NoTalk) (defBody xt_NoTalk) (defScope xt_NoTalk) .none xk4 xd4 xp4 xb4 xe4 xt4), xs4⟩)
 (eco4 : PySem.W.codeIn K xe4 "NoTalk.__init__" = true)
 (ekf4 : PySem.W.keepIn K (.ref xf4) = true)
 (ex5 : K.lookup C5 = some (excClassObj en5 eq5 C5 eN5 eb5 [.ref C0, .type "ValueError", .type "Exception", .type "BaseException", .type "object"] true es5 eu5 ey5 ec5 ed5 e05 e15 e25 e35 e55 "ValueError.__new__"))
 (esa5 : PySem.W.findIn K (.ref C5) "__setattr__" = some (some (.builtin "object.__setattr__")))
 (ebx5 : PySem.W.subIn K (.ref C5) (.type "BaseException") = some true)
 (ety5 : PySem.W.typeIn K (.ref C5) = some (.type "type"))
 (ekp5 : PySem.W.keepIn K (.ref C5) = true)
 (ein5 : PySem.W.findIn K (.ref C5) "__init__" = some (some (.ref xf5)))
 (eit5 : PySem.W.typeIn K (.ref xf5) = some (.type "function"))
 (enf5 : PySem.W.findIn K (.ref C5) "row" = some none)
 (el5 : K.lookup xf5 = some ⟨xc5, xa5, .func (PySem.W.fnOf "__init__" "NoText.__init__" (defArgs xt_NoText) (defBody xt_NoText) (defScope xt_NoText) .none xk5 xd5 xp5 xb5 xe5 xt5), xs5⟩)
 (eco5 : PySem.W.codeIn K xe5 "NoText.__init__" = true)
 (ekf5 : PySem.W.keepIn K (.ref xf5) = true)
 (ex6 : K.lookup C6 = some (excClassObj en6 eq6 C6 eN6 eb6 [.ref C0, .type "ValueError", .type "Exception", .type "BaseException", .type "object"] true es6 eu6 ey6 ec6 ed6 e06 e16 e26 e36 e56 "ValueError.__new__"))
 (esa6 : PySem.W.findIn K (.ref C6) "__setattr__" = some (some (.builtin "object.__setattr__")))
 (ebx6 : PySem.W.subIn K (.ref C6) (.type "BaseException") = some true)
 (ety6 : PySem.W.typeIn K (.ref C6) = some (.type "type"))
 (ekp6 : PySem.W.keepIn K (.ref C6) = true)
 (ein6 : PySem.W.findIn K (.ref C6) "__init__" = some (some (.ref xf6)))
 (eit6 : PySem.W.typeIn K (.ref xf6) = some (.type "function"))
 (enf6 : PySem.W.findIn K (.ref C6) "moves" = some none)
 (el6 : K.lookup xf6 = some ⟨xc6, xa6, .func (PySem.W.fnOf "__init__" "TooLong.__init__" (defArgs xt_TooLong) (defBody xt_TooLong) (defScope xt_TooLong) .none xk6 xd6 xp6 xb6 xe6 xt6), xs6⟩)
 (eco6 : PySem.W.codeIn K xe6 "TooLong.__init__" = true)
 (ekf6 : PySem.W.keepIn K (.ref xf6) = true)
 (ex7 : K.lookup C7 = some (excClassObj en7 eq7 C7 eN7 eb7 [.ref C0, .type "ValueError", .type "Exception", .type "BaseException", .type "object"] true es7 eu7 ey7 ec7 ed7 e07 e17 e27 e37 e57 "ValueError.__new__"))
 (esa7 : PySem.W.findIn K (.ref C7) "__setattr__" = some (some (.builtin "object.__setattr__")))
 (ebx7 : PySem.W.subIn K (.ref C7) (.type "BaseException") = some true)
 (ety7 : PySem.W.typeIn K (.ref C7) = some (.type "type"))
 (ekp7 : PySem.W.keepIn K (.ref C7) = true)
 (ein7 : PySem.W.findIn K (.ref C7) "__init__" = some (some (.ref xf7)))
 (eit7 : PySem.W.typeIn K (.ref xf7) = some (.type "function"))
 (enf7 : PySem.W.findIn K (.ref C7) "many" = some none)
 (el7 : K.lookup xf7 = some ⟨xc7, xa7, .func (PySem.W.fnOf "__init__" "TooMany.__init__" (defArgs xt_TooMany) (defBody xt_TooMany) (defScope xt_TooMany) .none xk7 xd7 xp7 xb7 xe7 xt7), xs7⟩)
 (eco7 : PySem.W.codeIn K xe7 "TooMany.__init__" = true)
 (ekf7 : PySem.W.keepIn K (.ref xf7) = true)
 (ex8 : K.lookup C8 = some (excClassObj en8 eq8 C8 eN8 eb8 [.ref C0, .type "ValueError", .type "Exception", .type "BaseException", .type "object"] true es8 eu8 ey8 ec8 ed8 e08 e18 e28 e38 e58 "ValueError.__new__"))
 (esa8 : PySem.W.findIn K (.ref C8) "__setattr__" = some (some (.builtin "object.__setattr__")))
 (ebx8 : PySem.W.subIn K (.ref C8) (.type "BaseException") = some true)
 (ety8 : PySem.W.typeIn K (.ref C8) = some (.type "type"))
 (ekp8 : PySem.W.keepIn K (.ref C8) = true)
 (ein8 : PySem.W.findIn K (.ref C8) "__init__" = some (some (.ref xf8)))
 (eit8 : PySem.W.typeIn K (.ref xf8) = some (.type "function"))
 (enf8 : PySem.W.findIn K (.ref C8) "row" = some none)
 (el8 : K.lookup xf8 = some ⟨xc8, xa8, .func (PySem.W.fnOf "__init__" "NoRow.__init__" (defArgs xt_NoRow) (defBody xt_NoRow) (defScope xt_NoRow) .none xk8 xd8 xp8 xb8 xe8 xt8), xs8⟩)
 (eco8 : PySem.W.codeIn K xe8 "NoRow.__init__" = true)
 (ekf8 : PySem.W.keepIn K (.ref xf8) = true)
 (ex9 : K.lookup C9 = some (excClassObj en9 eq9 C9 eN9 eb9 [.ref C0, .type "ValueError", .type "Exception", .type "BaseException", .type "object"] true es9 eu9 ey9 ec9 ed9 e09 e19 e29 e39 e59 "ValueError.__new__"))
 (esa9 : PySem.W.findIn K (.ref C9) "__setattr__" = some (some (.builtin "object.__setattr__")))
 (ebx9 : PySem.W.subIn K (.ref C9) (.type "BaseException") = some true)
 (ety9 : PySem.W.typeIn K (.ref C9) = some (.type "type"))
 (ekp9 : PySem.W.keepIn K (.ref C9) = true)
 (ein9 : PySem.W.findIn K (.ref C9) "__init__" = some (some (.ref xf9)))
 (eit9 : PySem.W.typeIn K (.ref xf9) = some (.type "function"))
 (enf9 : PySem.W.findIn K (.ref C9) "line" = some none)
 (el9 : K.lookup xf9 = some ⟨xc9, xa9, .func (PySem.W.fnOf "__init__" "NoLine.__init__" (defArgs xt_NoLine) (defBody xt_NoLine) (defScope xt_NoLine) .none xk9 xd9 xp9 xb9 xe9 xt9), xs9⟩)
 (eco9 : PySem.W.codeIn K xe9 "NoLine.__init__" = true)
 (ekf9 : PySem.W.keepIn K (.ref xf9) = true)
 (ex10 : K.lookup C10 = some (excClassObj en10 eq10 C10 eN10 eb10 [.ref C0, .type "ValueError", .type "Exception", .type "BaseException", .type "object"] true es10 eu10 ey10 ec10 ed10 e010 e110 e210 e310 e510 "ValueError.__new__"))
 (esa10 : PySem.W.findIn K (.ref C10) "__setattr__" = some (some (.builtin "object.__setattr__")))
 (ebx10 : PySem.W.subIn K (.ref C10) (.type "BaseException") = some true)
 (ety10 : PySem.W.typeIn K (.ref C10) = some (.type "type"))
 (ekp10 : PySem.W.keepIn K (.ref C10) = true)
 (ein10 : PySem.W.findIn K (.ref C10) "__init__" = some (some (.ref xf10)))
 (eit10 : PySem.W.typeIn K (.ref xf10) = some (.type "function"))
 (el10 : K.lookup xf10 = some ⟨xc10, xa10, .func (PySem.W.fnOf "__init__" "NoLink.__init__" (defArgs xt_NoLink) (defBody xt_NoLink) (defScope xt_NoLink) .none xk10 xd10 xp10 xb10 xe10 xt10), xs10⟩)
 (eco10 : PySem.W.codeIn K xe10 "NoLink.__init__" = true)
 (ekf10 : PySem.W.keepIn K (.ref xf10) = true)
 (ex11 : K.lookup C11 = some (excClassObj en11 eq11 C11 eN11 eb11 [.ref C0, .type "ValueError", .type "Exception", .type "BaseException", .type "object"] true es11 eu11 ey11 ec11 ed11 e011 e111 e211 e311 e511 "ValueError.__new__"))
 (esa11 : PySem.W.findIn K (.ref C11) "__setattr__" = some (some (.builtin "object.__setattr__")))
 (ebx11 : PySem.W.subIn K (.ref C11) (.type "BaseException") = some true)
 (ety11 : PySem.W.typeIn K (.ref C11) = some (.type "type"))
 (ekp11 : PySem.W.keepIn K (.ref C11) = true)
 (ein11 : PySem.W.findIn K (.ref C11) "__init__" = some (some (.ref xf11)))
 (eit11 : PySem.W.typeIn K (.ref xf11) = some (.type "function"))
 (el11 : K.lookup xf11 = some ⟨xc11, xa11, .func (PySem.W.fnOf "__init__" "NoPair.__init__" (defArgs xt_NoPair) (defBody xt_NoPair) (defScope xt_NoPair) .none xk11 xd11 xp11 xb11 xe11 xt11), xs11⟩)
 (eco11 : PySem.W.codeIn K xe11 "NoPair.__init__" = true)
 (ekf11 : PySem.W.keepIn K (.ref xf11) = true)
 (ex12 : K.lookup C12 = some (excClassObj en12 eq12 C12 eN12 eb12 [.ref C0, .type "ValueError", .type "Exception", .type "BaseException", .type "object"] true es12 eu12 ey12 ec12 ed12 e012 e112 e212 e312 e512 "ValueError.__new__"))
 (esa12 : PySem.W.findIn K (.ref C12) "__setattr__" = some (some (.builtin "object.__setattr__")))
 (ebx12 : PySem.W.subIn K (.ref C12) (.type "BaseException") = some true)
 (ety12 : PySem.W.typeIn K (.ref C12) = some (.type "type"))
 (ekp12 : PySem.W.keepIn K (.ref C12) = true)
 (ein12 : PySem.W.findIn K (.ref C12) "__init__" = some (some (.ref xf12)))
 (eit12 : PySem.W.typeIn K (.ref xf12) = some (.type "function"))
 (el12 : K.lookup xf12 = some ⟨xc12, xa12, .func (PySem.W.fnOf "__init__" "NoPaper.__init__" (defArgs xt_NoPaper) (defBody xt_NoPaper) (defScope xt_NoPaper) .none xk12 xd12 xp12 xb12 xe12 xt12), xs12⟩)
 (eco12 : PySem.W.codeIn K xe12 "NoPaper.__init__" = true)
 (ekf12 : PySem.W.keepIn K (.ref xf12) = true)
 (ex13 : K.lookup C13 = some (excClassObj en13 eq13 C13 eN13 eb13 [.ref C0, .type "ValueError", .type "Exception", .type "BaseException", .type "object"] true es13 eu13 ey13 ec13 ed13 e013 e113 e213 e313 e513 "ValueError.__new__"))
 (esa13 : PySem.W.findIn K (.ref C13) "__setattr__" = some (some (.builtin "object.__setattr__")))
 (ebx13 : PySem.W.subIn K (.ref C13) (.type "BaseException") = some true)
 (ety13 : PySem.W.typeIn K (.ref C13) = some (.type "type"))
 (ekp13 : PySem.W.keepIn K (.ref C13) = true)
 (ein13 : PySem.W.findIn K (.ref C13) "__init__" = some (some (.ref xf13)))
 (eit13 : PySem.W.typeIn K (.ref xf13) = some (.type "function"))
 (el13 : K.lookup xf13 = some ⟨xc13, xa13, .func (PySem.W.fnOf "__init__" "NoMoment.__init__" (defArgs xt_NoMoment) (defBody xt_NoMoment) (defScope xt_NoMoment) .none xk13 xd13 xp13 xb13 xe13 xt13), xs13⟩)
 (eco13 : PySem.W.codeIn K xe13 "NoMoment.__init__" = true)
 (ekf13 : PySem.W.keepIn K (.ref xf13) = true)
 (ex14 : K.lookup C14 = some (excClassObj en14 eq14 C14 eN14 eb14 [.ref C0, .type "ValueError", .type "Exception", .type "BaseException", .type "object"] true es14 eu14 ey14 ec14 ed14 e014 e114 e214 e314 e514 "ValueError.__new__"))
 (esa14 : PySem.W.findIn K (.ref C14) "__setattr__" = some (some (.builtin "object.__setattr__")))
 (ebx14 : PySem.W.subIn K (.ref C14) (.type "BaseException") = some true)
 (ety14 : PySem.W.typeIn K (.ref C14) = some (.type "type"))
 (ekp14 : PySem.W.keepIn K (.ref C14) = true)
 (ein14 : PySem.W.findIn K (.ref C14) "__init__" = some (some (.ref xf14)))
 (eit14 : PySem.W.typeIn K (.ref xf14) = some (.type "function"))
 (el14 : K.lookup xf14 = some ⟨xc14, xa14, .func (PySem.W.fnOf "__init__" "NoSeam.__init__" (defArgs xt_NoSeam) (defBody xt_NoSeam) (defScope xt_NoSeam) .none xk14 xd14 xp14 xb14 xe14 xt14), xs14⟩)
 (eco14 : PySem.W.codeIn K xe14 "NoSeam.__init__" = true)
 (ekf14 : PySem.W.keepIn K (.ref xf14) = true)
 (ex15 : K.lookup C15 = some (excClassObj en15 eq15 C15 eN15 eb15 [.ref C0, .type "ValueError", .type "Exception", .type "BaseException", .type "object"] true es15 eu15 ey15 ec15 ed15 e015 e115 e215 e315 e515 "ValueError.__new__"))
 (esa15 : PySem.W.findIn K (.ref C15) "__setattr__" = some (some (.builtin "object.__setattr__")))
 (ebx15 : PySem.W.subIn K (.ref C15) (.type "BaseException") = some true)
 (ety15 : PySem.W.typeIn K (.ref C15) = some (.type "type"))
 (ekp15 : PySem.W.keepIn K (.ref C15) = true)
 (ein15 : PySem.W.findIn K (.ref C15) "__init__" = some (some (.ref xf15)))
 (eit15 : PySem.W.typeIn K (.ref xf15) = some (.type "function"))
 (el15 : K.lookup xf15 = some ⟨xc15, xa15, .func (PySem.W.fnOf "__init__" "NoBack.__init__" (defArgs xt_NoBack) (defBody xt_NoBack) (defScope xt_NoBack) .none xk15 xd15 xp15 xb15 xe15 xt15), xs15⟩)
 (eco15 : PySem.W.codeIn K xe15 "NoBack.__init__" = true)
 (ekf15 : PySem.W.keepIn K (.ref xf15) = true)
 (ex16 : K.lookup C16 = some (excClassObj en16 eq16 C16 eN16 eb16 [.ref C0, .type "ValueError", .type "Exception", .type "BaseException", .type "object"] true es16 eu16 ey16 ec16 ed16 e016 e116 e216 e316 e516 "ValueError.__new__"))
 (esa16 : PySem.W.findIn K (.ref C16) "__setattr__" = some (some (.builtin "object.__setattr__")))
 (ebx16 : PySem.W.subIn K (.ref C16) (.type "BaseException") = some true)
 (ety16 : PySem.W.typeIn K (.ref C16) = some (.type "type"))
 (ekp16 : PySem.W.keepIn K (.ref C16) = true)
 (ein16 : PySem.W.findIn K (.ref C16) "__init__" = some (some (.ref xf16)))
 (eit16 : PySem.W.typeIn K (.ref xf16) = some (.type "function"))
 (el16 : K.lookup xf16 = some ⟨xc16, xa16, .func (PySem.W.fnOf "__init__" "Dead.__init__" (defArgs xt_Dead) (defBody xt_Dead) (defScope xt_Dead) .none xk16 xd16 xp16 xb16 xe16 xt16), xs16⟩)
 (eco16 : PySem.W.codeIn K xe16 "Dead.__init__" = true)
 (ekf16 : PySem.W.keepIn K (.ref xf16) = true)
 (kga : PySem.W.specialIn K (.ref C0) "__getattribute__" = some (some (.builtin "type.__getattribute__")))
 (krd : PySem.W.readsIn K C0 (.type "type") = true)
 (kfi : PySem.W.findCls K (.ref C0) (.type "type") "__init__" = some (.val (.builtin "ValueError.__init__")))
 (dbx0 : PySem.W.subIn K (.ref C0) (.type "BaseException") = some true)
 (dhd0 : PySem.W.hasDictIn K C0 = true)
 (dty0 : PySem.W.typeIn K (.ref C0) = some (.type "type"))
 (sb1_0 : PySem.W.subIn K (.ref C1) (.ref C0) = some true)
 (sb2_0 : PySem.W.subIn K (.ref C2) (.ref C0) = some true)
 (sb3_0 : PySem.W.subIn K (.ref C3) (.ref C0) = some true)
 (sb4_0 : PySem.W.subIn K (.ref C4) (.ref C0) = some true)
 (sb5_0 : PySem.W.subIn K (.ref C5) (.ref C0) = some true)
 (sb6_0 : PySem.W.subIn K (.ref C6) (.ref C0) = some true)
 (sb7_0 : PySem.W.subIn K (.ref C7) (.ref C0) = some true)
 (sb8_0 : PySem.W.subIn K (.ref C8) (.ref C0) = some true)
 (sb9_0 : PySem.W.subIn K (.ref C9) (.ref C0) = some true)
 (sb10_0 : PySem.W.subIn K (.ref C10) (.ref C0) = some true)
 (sb11_0 : PySem.W.subIn K (.ref C11) (.ref C0) = some true)
 (sb12_0 : PySem.W.subIn K (.ref C12) (.ref C0) = some true)
 (sb13_0 : PySem.W.subIn K (.ref C13) (.ref C0) = some true)
 (sb14_0 : PySem.W.subIn K (.ref C14) (.ref C0) = some true)
 (sb15_0 : PySem.W.subIn K (.ref C15) (.ref C0) = some true)
 (sb16_0 : PySem.W.subIn K (.ref C16) (.ref C0) = some true)
 (idl : PySem.W.nsIn K cStatics "sys.int_max_str_digits" = some none)
 (qg1 : PySem.W.findIn K (.ref C1) "__getattribute__" = some (some (.builtin "BaseException.__getattribute__")))
 (qk1 : PySem.W.findIn K (.ref C1) "__getattr__" = some none)
 (qd1 : PySem.W.hasDictIn K C1 = true)
 (qa1 : PySem.W.findIn K (.ref C1) "__class__" = some (some (.builtin "object.__class__")))
 (qm1 : PySem.W.mroIn K C1 (.type "object") = some true)
 (qn1_0 : PySem.W.findIn K (.ref C1) "field" = some none)
 (qn1_1 : PySem.W.findIn K (.ref C1) "move" = some none)
 (qn1_2 : PySem.W.findIn K (.ref C1) "at" = some none)
 (qn1_3 : PySem.W.findIn K (.ref C1) "row" = some none)
 (qn1_4 : PySem.W.findIn K (.ref C1) "moves" = some none)
 (qn1_5 : PySem.W.findIn K (.ref C1) "many" = some none)
 (qn1_6 : PySem.W.findIn K (.ref C1) "line" = some none)
 (qg2 : PySem.W.findIn K (.ref C2) "__getattribute__" = some (some (.builtin "BaseException.__getattribute__")))
 (qk2 : PySem.W.findIn K (.ref C2) "__getattr__" = some none)
 (qd2 : PySem.W.hasDictIn K C2 = true)
 (qa2 : PySem.W.findIn K (.ref C2) "__class__" = some (some (.builtin "object.__class__")))
 (qm2 : PySem.W.mroIn K C2 (.type "object") = some true)
 (qn2_0 : PySem.W.findIn K (.ref C2) "field" = some none)
 (qn2_1 : PySem.W.findIn K (.ref C2) "move" = some none)
 (qn2_2 : PySem.W.findIn K (.ref C2) "at" = some none)
 (qn2_3 : PySem.W.findIn K (.ref C2) "row" = some none)
 (qn2_4 : PySem.W.findIn K (.ref C2) "moves" = some none)
 (qn2_5 : PySem.W.findIn K (.ref C2) "many" = some none)
 (qn2_6 : PySem.W.findIn K (.ref C2) "line" = some none)
 (qg3 : PySem.W.findIn K (.ref C3) "__getattribute__" = some (some (.builtin "BaseException.__getattribute__")))
 (qk3 : PySem.W.findIn K (.ref C3) "__getattr__" = some none)
 (qd3 : PySem.W.hasDictIn K C3 = true)
 (qa3 : PySem.W.findIn K (.ref C3) "__class__" = some (some (.builtin "object.__class__")))
 (qm3 : PySem.W.mroIn K C3 (.type "object") = some true)
 (qn3_0 : PySem.W.findIn K (.ref C3) "field" = some none)
 (qn3_1 : PySem.W.findIn K (.ref C3) "move" = some none)
 (qn3_2 : PySem.W.findIn K (.ref C3) "at" = some none)
 (qn3_3 : PySem.W.findIn K (.ref C3) "row" = some none)
 (qn3_4 : PySem.W.findIn K (.ref C3) "moves" = some none)
 (qn3_5 : PySem.W.findIn K (.ref C3) "many" = some none)
 (qn3_6 : PySem.W.findIn K (.ref C3) "line" = some none)
 (qg4 : PySem.W.findIn K (.ref C4) "__getattribute__" = some (some (.builtin "BaseException.__getattribute__")))
 (qk4 : PySem.W.findIn K (.ref C4) "__getattr__" = some none)
 (qd4 : PySem.W.hasDictIn K C4 = true)
 (qa4 : PySem.W.findIn K (.ref C4) "__class__" = some (some (.builtin "object.__class__")))
 (qm4 : PySem.W.mroIn K C4 (.type "object") = some true)
 (qn4_0 : PySem.W.findIn K (.ref C4) "field" = some none)
 (qn4_1 : PySem.W.findIn K (.ref C4) "move" = some none)
 (qn4_2 : PySem.W.findIn K (.ref C4) "at" = some none)
 (qn4_3 : PySem.W.findIn K (.ref C4) "row" = some none)
 (qn4_4 : PySem.W.findIn K (.ref C4) "moves" = some none)
 (qn4_5 : PySem.W.findIn K (.ref C4) "many" = some none)
 (qn4_6 : PySem.W.findIn K (.ref C4) "line" = some none)
 (qg5 : PySem.W.findIn K (.ref C5) "__getattribute__" = some (some (.builtin "BaseException.__getattribute__")))
 (qk5 : PySem.W.findIn K (.ref C5) "__getattr__" = some none)
 (qd5 : PySem.W.hasDictIn K C5 = true)
 (qa5 : PySem.W.findIn K (.ref C5) "__class__" = some (some (.builtin "object.__class__")))
 (qm5 : PySem.W.mroIn K C5 (.type "object") = some true)
 (qn5_0 : PySem.W.findIn K (.ref C5) "field" = some none)
 (qn5_1 : PySem.W.findIn K (.ref C5) "move" = some none)
 (qn5_2 : PySem.W.findIn K (.ref C5) "at" = some none)
 (qn5_3 : PySem.W.findIn K (.ref C5) "row" = some none)
 (qn5_4 : PySem.W.findIn K (.ref C5) "moves" = some none)
 (qn5_5 : PySem.W.findIn K (.ref C5) "many" = some none)
 (qn5_6 : PySem.W.findIn K (.ref C5) "line" = some none)
 (qg6 : PySem.W.findIn K (.ref C6) "__getattribute__" = some (some (.builtin "BaseException.__getattribute__")))
 (qk6 : PySem.W.findIn K (.ref C6) "__getattr__" = some none)
 (qd6 : PySem.W.hasDictIn K C6 = true)
 (qa6 : PySem.W.findIn K (.ref C6) "__class__" = some (some (.builtin "object.__class__")))
 (qm6 : PySem.W.mroIn K C6 (.type "object") = some true)
 (qn6_0 : PySem.W.findIn K (.ref C6) "field" = some none)
 (qn6_1 : PySem.W.findIn K (.ref C6) "move" = some none)
 (qn6_2 : PySem.W.findIn K (.ref C6) "at" = some none)
 (qn6_3 : PySem.W.findIn K (.ref C6) "row" = some none)
 (qn6_4 : PySem.W.findIn K (.ref C6) "moves" = some none)
 (qn6_5 : PySem.W.findIn K (.ref C6) "many" = some none)
 (qn6_6 : PySem.W.findIn K (.ref C6) "line" = some none)
 (qg7 : PySem.W.findIn K (.ref C7) "__getattribute__" = some (some (.builtin "BaseException.__getattribute__")))
 (qk7 : PySem.W.findIn K (.ref C7) "__getattr__" = some none)
 (qd7 : PySem.W.hasDictIn K C7 = true)
 (qa7 : PySem.W.findIn K (.ref C7) "__class__" = some (some (.builtin "object.__class__")))
 (qm7 : PySem.W.mroIn K C7 (.type "object") = some true)
 (qn7_0 : PySem.W.findIn K (.ref C7) "field" = some none)
 (qn7_1 : PySem.W.findIn K (.ref C7) "move" = some none)
 (qn7_2 : PySem.W.findIn K (.ref C7) "at" = some none)
 (qn7_3 : PySem.W.findIn K (.ref C7) "row" = some none)
 (qn7_4 : PySem.W.findIn K (.ref C7) "moves" = some none)
 (qn7_5 : PySem.W.findIn K (.ref C7) "many" = some none)
 (qn7_6 : PySem.W.findIn K (.ref C7) "line" = some none)
 (qg8 : PySem.W.findIn K (.ref C8) "__getattribute__" = some (some (.builtin "BaseException.__getattribute__")))
 (qk8 : PySem.W.findIn K (.ref C8) "__getattr__" = some none)
 (qd8 : PySem.W.hasDictIn K C8 = true)
 (qa8 : PySem.W.findIn K (.ref C8) "__class__" = some (some (.builtin "object.__class__")))
 (qm8 : PySem.W.mroIn K C8 (.type "object") = some true)
 (qn8_0 : PySem.W.findIn K (.ref C8) "field" = some none)
 (qn8_1 : PySem.W.findIn K (.ref C8) "move" = some none)
 (qn8_2 : PySem.W.findIn K (.ref C8) "at" = some none)
 (qn8_3 : PySem.W.findIn K (.ref C8) "row" = some none)
 (qn8_4 : PySem.W.findIn K (.ref C8) "moves" = some none)
 (qn8_5 : PySem.W.findIn K (.ref C8) "many" = some none)
 (qn8_6 : PySem.W.findIn K (.ref C8) "line" = some none)
 (qg9 : PySem.W.findIn K (.ref C9) "__getattribute__" = some (some (.builtin "BaseException.__getattribute__")))
 (qk9 : PySem.W.findIn K (.ref C9) "__getattr__" = some none)
 (qd9 : PySem.W.hasDictIn K C9 = true)
 (qa9 : PySem.W.findIn K (.ref C9) "__class__" = some (some (.builtin "object.__class__")))
 (qm9 : PySem.W.mroIn K C9 (.type "object") = some true)
 (qn9_0 : PySem.W.findIn K (.ref C9) "field" = some none)
 (qn9_1 : PySem.W.findIn K (.ref C9) "move" = some none)
 (qn9_2 : PySem.W.findIn K (.ref C9) "at" = some none)
 (qn9_3 : PySem.W.findIn K (.ref C9) "row" = some none)
 (qn9_4 : PySem.W.findIn K (.ref C9) "moves" = some none)
 (qn9_5 : PySem.W.findIn K (.ref C9) "many" = some none)
 (qn9_6 : PySem.W.findIn K (.ref C9) "line" = some none)
 (qg10 : PySem.W.findIn K (.ref C10) "__getattribute__" = some (some (.builtin "BaseException.__getattribute__")))
 (qk10 : PySem.W.findIn K (.ref C10) "__getattr__" = some none)
 (qd10 : PySem.W.hasDictIn K C10 = true)
 (qa10 : PySem.W.findIn K (.ref C10) "__class__" = some (some (.builtin "object.__class__")))
 (qm10 : PySem.W.mroIn K C10 (.type "object") = some true)
 (qn10_0 : PySem.W.findIn K (.ref C10) "field" = some none)
 (qn10_1 : PySem.W.findIn K (.ref C10) "move" = some none)
 (qn10_2 : PySem.W.findIn K (.ref C10) "at" = some none)
 (qn10_3 : PySem.W.findIn K (.ref C10) "row" = some none)
 (qn10_4 : PySem.W.findIn K (.ref C10) "moves" = some none)
 (qn10_5 : PySem.W.findIn K (.ref C10) "many" = some none)
 (qn10_6 : PySem.W.findIn K (.ref C10) "line" = some none)
 (qg11 : PySem.W.findIn K (.ref C11) "__getattribute__" = some (some (.builtin "BaseException.__getattribute__")))
 (qk11 : PySem.W.findIn K (.ref C11) "__getattr__" = some none)
 (qd11 : PySem.W.hasDictIn K C11 = true)
 (qa11 : PySem.W.findIn K (.ref C11) "__class__" = some (some (.builtin "object.__class__")))
 (qm11 : PySem.W.mroIn K C11 (.type "object") = some true)
 (qn11_0 : PySem.W.findIn K (.ref C11) "field" = some none)
 (qn11_1 : PySem.W.findIn K (.ref C11) "move" = some none)
 (qn11_2 : PySem.W.findIn K (.ref C11) "at" = some none)
 (qn11_3 : PySem.W.findIn K (.ref C11) "row" = some none)
 (qn11_4 : PySem.W.findIn K (.ref C11) "moves" = some none)
 (qn11_5 : PySem.W.findIn K (.ref C11) "many" = some none)
 (qn11_6 : PySem.W.findIn K (.ref C11) "line" = some none)
 (qg12 : PySem.W.findIn K (.ref C12) "__getattribute__" = some (some (.builtin "BaseException.__getattribute__")))
 (qk12 : PySem.W.findIn K (.ref C12) "__getattr__" = some none)
 (qd12 : PySem.W.hasDictIn K C12 = true)
 (qa12 : PySem.W.findIn K (.ref C12) "__class__" = some (some (.builtin "object.__class__")))
 (qm12 : PySem.W.mroIn K C12 (.type "object") = some true)
 (qn12_0 : PySem.W.findIn K (.ref C12) "field" = some none)
 (qn12_1 : PySem.W.findIn K (.ref C12) "move" = some none)
 (qn12_2 : PySem.W.findIn K (.ref C12) "at" = some none)
 (qn12_3 : PySem.W.findIn K (.ref C12) "row" = some none)
 (qn12_4 : PySem.W.findIn K (.ref C12) "moves" = some none)
 (qn12_5 : PySem.W.findIn K (.ref C12) "many" = some none)
 (qn12_6 : PySem.W.findIn K (.ref C12) "line" = some none)
 (qg13 : PySem.W.findIn K (.ref C13) "__getattribute__" = some (some (.builtin "BaseException.__getattribute__")))
 (qk13 : PySem.W.findIn K (.ref C13) "__getattr__" = some none)
 (qd13 : PySem.W.hasDictIn K C13 = true)
 (qa13 : PySem.W.findIn K (.ref C13) "__class__" = some (some (.builtin "object.__class__")))
 (qm13 : PySem.W.mroIn K C13 (.type "object") = some true)
 (qn13_0 : PySem.W.findIn K (.ref C13) "field" = some none)
 (qn13_1 : PySem.W.findIn K (.ref C13) "move" = some none)
 (qn13_2 : PySem.W.findIn K (.ref C13) "at" = some none)
 (qn13_3 : PySem.W.findIn K (.ref C13) "row" = some none)
 (qn13_4 : PySem.W.findIn K (.ref C13) "moves" = some none)
 (qn13_5 : PySem.W.findIn K (.ref C13) "many" = some none)
 (qn13_6 : PySem.W.findIn K (.ref C13) "line" = some none)
 (qg14 : PySem.W.findIn K (.ref C14) "__getattribute__" = some (some (.builtin "BaseException.__getattribute__")))
 (qk14 : PySem.W.findIn K (.ref C14) "__getattr__" = some none)
 (qd14 : PySem.W.hasDictIn K C14 = true)
 (qa14 : PySem.W.findIn K (.ref C14) "__class__" = some (some (.builtin "object.__class__")))
 (qm14 : PySem.W.mroIn K C14 (.type "object") = some true)
 (qn14_0 : PySem.W.findIn K (.ref C14) "field" = some none)
 (qn14_1 : PySem.W.findIn K (.ref C14) "move" = some none)
 (qn14_2 : PySem.W.findIn K (.ref C14) "at" = some none)
 (qn14_3 : PySem.W.findIn K (.ref C14) "row" = some none)
 (qn14_4 : PySem.W.findIn K (.ref C14) "moves" = some none)
 (qn14_5 : PySem.W.findIn K (.ref C14) "many" = some none)
 (qn14_6 : PySem.W.findIn K (.ref C14) "line" = some none)
 (qg15 : PySem.W.findIn K (.ref C15) "__getattribute__" = some (some (.builtin "BaseException.__getattribute__")))
 (qk15 : PySem.W.findIn K (.ref C15) "__getattr__" = some none)
 (qd15 : PySem.W.hasDictIn K C15 = true)
 (qa15 : PySem.W.findIn K (.ref C15) "__class__" = some (some (.builtin "object.__class__")))
 (qm15 : PySem.W.mroIn K C15 (.type "object") = some true)
 (qn15_0 : PySem.W.findIn K (.ref C15) "field" = some none)
 (qn15_1 : PySem.W.findIn K (.ref C15) "move" = some none)
 (qn15_2 : PySem.W.findIn K (.ref C15) "at" = some none)
 (qn15_3 : PySem.W.findIn K (.ref C15) "row" = some none)
 (qn15_4 : PySem.W.findIn K (.ref C15) "moves" = some none)
 (qn15_5 : PySem.W.findIn K (.ref C15) "many" = some none)
 (qn15_6 : PySem.W.findIn K (.ref C15) "line" = some none)
 (qg16 : PySem.W.findIn K (.ref C16) "__getattribute__" = some (some (.builtin "BaseException.__getattribute__")))
 (qk16 : PySem.W.findIn K (.ref C16) "__getattr__" = some none)
 (qd16 : PySem.W.hasDictIn K C16 = true)
 (qa16 : PySem.W.findIn K (.ref C16) "__class__" = some (some (.builtin "object.__class__")))
 (qm16 : PySem.W.mroIn K C16 (.type "object") = some true)
 (qn16_0 : PySem.W.findIn K (.ref C16) "field" = some none)
 (qn16_1 : PySem.W.findIn K (.ref C16) "move" = some none)
 (qn16_2 : PySem.W.findIn K (.ref C16) "at" = some none)
 (qn16_3 : PySem.W.findIn K (.ref C16) "row" = some none)
 (qn16_4 : PySem.W.findIn K (.ref C16) "moves" = some none)
 (qn16_5 : PySem.W.findIn K (.ref C16) "many" = some none)
 (qn16_6 : PySem.W.findIn K (.ref C16) "line" = some none)
 (ihn : PySem.W.specialIn K (.builtin "object.__class__") "__get__" = some (some (.builtin "getset_descriptor.__get__")))
 (iht : PySem.W.takesIn K (.builtin "object.__class__") = some true)
 (ki_q1_0 : PySem.W.kitOne K (.ref C1) (.ref C0) = some true)
 (ki_q1_1 : PySem.W.kitOne K (.ref C1) (.ref C1) = some true)
 (ki_q1_2 : PySem.W.kitOne K (.ref C1) (.ref C2) = some false)
 (ki_q1_3 : PySem.W.kitOne K (.ref C1) (.ref C3) = some false)
 (ki_q1_4 : PySem.W.kitOne K (.ref C1) (.ref C4) = some false)
 (ki_q1_5 : PySem.W.kitOne K (.ref C1) (.ref C5) = some false)
 (ki_q1_6 : PySem.W.kitOne K (.ref C1) (.ref C6) = some false)
 (ki_q1_7 : PySem.W.kitOne K (.ref C1) (.ref C7) = some false)
 (ki_q1_8 : PySem.W.kitOne K (.ref C1) (.ref C8) = some false)
 (ki_q1_9 : PySem.W.kitOne K (.ref C1) (.ref C9) = some false)
 (ki_q1_10 : PySem.W.kitOne K (.ref C1) (.ref C10) = some false)
 (ki_q1_11 : PySem.W.kitOne K (.ref C1) (.ref C11) = some false)
 (ki_q1_12 : PySem.W.kitOne K (.ref C1) (.ref C12) = some false)
 (ki_q1_13 : PySem.W.kitOne K (.ref C1) (.ref C13) = some false)
 (ki_q1_14 : PySem.W.kitOne K (.ref C1) (.ref C14) = some false)
 (ki_q1_15 : PySem.W.kitOne K (.ref C1) (.ref C15) = some false)
 (ki_q1_16 : PySem.W.kitOne K (.ref C1) (.ref C16) = some false)
 (ki_q2_0 : PySem.W.kitOne K (.ref C2) (.ref C0) = some true)
 (ki_q2_1 : PySem.W.kitOne K (.ref C2) (.ref C1) = some false)
 (ki_q2_2 : PySem.W.kitOne K (.ref C2) (.ref C2) = some true)
 (ki_q2_3 : PySem.W.kitOne K (.ref C2) (.ref C3) = some false)
 (ki_q2_4 : PySem.W.kitOne K (.ref C2) (.ref C4) = some false)
 (ki_q2_5 : PySem.W.kitOne K (.ref C2) (.ref C5) = some false)
 (ki_q2_6 : PySem.W.kitOne K (.ref C2) (.ref C6) = some false)
 (ki_q2_7 : PySem.W.kitOne K (.ref C2) (.ref C7) = some false)
 (ki_q2_8 : PySem.W.kitOne K (.ref C2) (.ref C8) = some false)
 (ki_q2_9 : PySem.W.kitOne K (.ref C2) (.ref C9) = some false)
 (ki_q2_10 : PySem.W.kitOne K (.ref C2) (.ref C10) = some false)
 (ki_q2_11 : PySem.W.kitOne K (.ref C2) (.ref C11) = some false)
 (ki_q2_12 : PySem.W.kitOne K (.ref C2) (.ref C12) = some false)
 (ki_q2_13 : PySem.W.kitOne K (.ref C2) (.ref C13) = some false)
 (ki_q2_14 : PySem.W.kitOne K (.ref C2) (.ref C14) = some false)
 (ki_q2_15 : PySem.W.kitOne K (.ref C2) (.ref C15) = some false)
 (ki_q2_16 : PySem.W.kitOne K (.ref C2) (.ref C16) = some false)
 (ki_q3_0 : PySem.W.kitOne K (.ref C3) (.ref C0) = some true)
 (ki_q3_1 : PySem.W.kitOne K (.ref C3) (.ref C1) = some false)
 (ki_q3_2 : PySem.W.kitOne K (.ref C3) (.ref C2) = some false)
 (ki_q3_3 : PySem.W.kitOne K (.ref C3) (.ref C3) = some true)
 (ki_q3_4 : PySem.W.kitOne K (.ref C3) (.ref C4) = some false)
 (ki_q3_5 : PySem.W.kitOne K (.ref C3) (.ref C5) = some false)
 (ki_q3_6 : PySem.W.kitOne K (.ref C3) (.ref C6) = some false)
 (ki_q3_7 : PySem.W.kitOne K (.ref C3) (.ref C7) = some false)
 (ki_q3_8 : PySem.W.kitOne K (.ref C3) (.ref C8) = some false)
 (ki_q3_9 : PySem.W.kitOne K (.ref C3) (.ref C9) = some false)
 (ki_q3_10 : PySem.W.kitOne K (.ref C3) (.ref C10) = some false)
 (ki_q3_11 : PySem.W.kitOne K (.ref C3) (.ref C11) = some false)
 (ki_q3_12 : PySem.W.kitOne K (.ref C3) (.ref C12) = some false)
 (ki_q3_13 : PySem.W.kitOne K (.ref C3) (.ref C13) = some false)
 (ki_q3_14 : PySem.W.kitOne K (.ref C3) (.ref C14) = some false)
 (ki_q3_15 : PySem.W.kitOne K (.ref C3) (.ref C15) = some false)
 (ki_q3_16 : PySem.W.kitOne K (.ref C3) (.ref C16) = some false)
 (ki_q4_0 : PySem.W.kitOne K (.ref C4) (.ref C0) = some true)
 (ki_q4_1 : PySem.W.kitOne K (.ref C4) (.ref C1) = some false)
 (ki_q4_2 : PySem.W.kitOne K (.ref C4) (.ref C2) = some false)
 (ki_q4_3 : PySem.W.kitOne K (.ref C4) (.ref C3) = some false)
 (ki_q4_4 : PySem.W.kitOne K (.ref C4) (.ref C4) = some true)
 (ki_q4_5 : PySem.W.kitOne K (.ref C4) (.ref C5) = some false)
 (ki_q4_6 : PySem.W.kitOne K (.ref C4) (.ref C6) = some false)
 (ki_q4_7 : PySem.W.kitOne K (.ref C4) (.ref C7) = some false)
 (ki_q4_8 : PySem.W.kitOne K (.ref C4) (.ref C8) = some false)
 (ki_q4_9 : PySem.W.kitOne K (.ref C4) (.ref C9) = some false)
 (ki_q4_10 : PySem.W.kitOne K (.ref C4) (.ref C10) = some false)
 (ki_q4_11 : PySem.W.kitOne K (.ref C4) (.ref C11) = some false)
 (ki_q4_12 : PySem.W.kitOne K (.ref C4) (.ref C12) = some false)
 (ki_q4_13 : PySem.W.kitOne K (.ref C4) (.ref C13) = some false)
 (ki_q4_14 : PySem.W.kitOne K (.ref C4) (.ref C14) = some false)
 (ki_q4_15 : PySem.W.kitOne K (.ref C4) (.ref C15) = some false)
 (ki_q4_16 : PySem.W.kitOne K (.ref C4) (.ref C16) = some false)
 (ki_q5_0 : PySem.W.kitOne K (.ref C5) (.ref C0) = some true)
 (ki_q5_1 : PySem.W.kitOne K (.ref C5) (.ref C1) = some false)
 (ki_q5_2 : PySem.W.kitOne K (.ref C5) (.ref C2) = some false)
 (ki_q5_3 : PySem.W.kitOne K (.ref C5) (.ref C3) = some false)
 (ki_q5_4 : PySem.W.kitOne K (.ref C5) (.ref C4) = some false)
 (ki_q5_5 : PySem.W.kitOne K (.ref C5) (.ref C5) = some true)
 (ki_q5_6 : PySem.W.kitOne K (.ref C5) (.ref C6) = some false)
 (ki_q5_7 : PySem.W.kitOne K (.ref C5) (.ref C7) = some false)
 (ki_q5_8 : PySem.W.kitOne K (.ref C5) (.ref C8) = some false)
 (ki_q5_9 : PySem.W.kitOne K (.ref C5) (.ref C9) = some false)
 (ki_q5_10 : PySem.W.kitOne K (.ref C5) (.ref C10) = some false)
 (ki_q5_11 : PySem.W.kitOne K (.ref C5) (.ref C11) = some false)
 (ki_q5_12 : PySem.W.kitOne K (.ref C5) (.ref C12) = some false)
 (ki_q5_13 : PySem.W.kitOne K (.ref C5) (.ref C13) = some false)
 (ki_q5_14 : PySem.W.kitOne K (.ref C5) (.ref C14) = some false)
 (ki_q5_15 : PySem.W.kitOne K (.ref C5) (.ref C15) = some false)
 (ki_q5_16 : PySem.W.kitOne K (.ref C5) (.ref C16) = some false)
 (ki_q6_0 : PySem.W.kitOne K (.ref C6) (.ref C0) = some true)
 (ki_q6_1 : PySem.W.kitOne K (.ref C6) (.ref C1) = some false)
 (ki_q6_2 : PySem.W.kitOne K (.ref C6) (.ref C2) = some false)
 (ki_q6_3 : PySem.W.kitOne K (.ref C6) (.ref C3) = some false)
 (ki_q6_4 : PySem.W.kitOne K (.ref C6) (.ref C4) = some false)
 (ki_q6_5 : PySem.W.kitOne K (.ref C6) (.ref C5) = some false)
 (ki_q6_6 : PySem.W.kitOne K (.ref C6) (.ref C6) = some true)
 (ki_q6_7 : PySem.W.kitOne K (.ref C6) (.ref C7) = some false)
 (ki_q6_8 : PySem.W.kitOne K (.ref C6) (.ref C8) = some false)
 (ki_q6_9 : PySem.W.kitOne K (.ref C6) (.ref C9) = some false)
 (ki_q6_10 : PySem.W.kitOne K (.ref C6) (.ref C10) = some false)
 (ki_q6_11 : PySem.W.kitOne K (.ref C6) (.ref C11) = some false)
 (ki_q6_12 : PySem.W.kitOne K (.ref C6) (.ref C12) = some false)
 (ki_q6_13 : PySem.W.kitOne K (.ref C6) (.ref C13) = some false)
 (ki_q6_14 : PySem.W.kitOne K (.ref C6) (.ref C14) = some false)
 (ki_q6_15 : PySem.W.kitOne K (.ref C6) (.ref C15) = some false)
 (ki_q6_16 : PySem.W.kitOne K (.ref C6) (.ref C16) = some false)
 (ki_q7_0 : PySem.W.kitOne K (.ref C7) (.ref C0) = some true)
 (ki_q7_1 : PySem.W.kitOne K (.ref C7) (.ref C1) = some false)
 (ki_q7_2 : PySem.W.kitOne K (.ref C7) (.ref C2) = some false)
 (ki_q7_3 : PySem.W.kitOne K (.ref C7) (.ref C3) = some false)
 (ki_q7_4 : PySem.W.kitOne K (.ref C7) (.ref C4) = some false)
 (ki_q7_5 : PySem.W.kitOne K (.ref C7) (.ref C5) = some false)
 (ki_q7_6 : PySem.W.kitOne K (.ref C7) (.ref C6) = some false)
 (ki_q7_7 : PySem.W.kitOne K (.ref C7) (.ref C7) = some true)
 (ki_q7_8 : PySem.W.kitOne K (.ref C7) (.ref C8) = some false)
 (ki_q7_9 : PySem.W.kitOne K (.ref C7) (.ref C9) = some false)
 (ki_q7_10 : PySem.W.kitOne K (.ref C7) (.ref C10) = some false)
 (ki_q7_11 : PySem.W.kitOne K (.ref C7) (.ref C11) = some false)
 (ki_q7_12 : PySem.W.kitOne K (.ref C7) (.ref C12) = some false)
 (ki_q7_13 : PySem.W.kitOne K (.ref C7) (.ref C13) = some false)
 (ki_q7_14 : PySem.W.kitOne K (.ref C7) (.ref C14) = some false)
 (ki_q7_15 : PySem.W.kitOne K (.ref C7) (.ref C15) = some false)
 (ki_q7_16 : PySem.W.kitOne K (.ref C7) (.ref C16) = some false)
 (ki_q8_0 : PySem.W.kitOne K (.ref C8) (.ref C0) = some true)
 (ki_q8_1 : PySem.W.kitOne K (.ref C8) (.ref C1) = some false)
 (ki_q8_2 : PySem.W.kitOne K (.ref C8) (.ref C2) = some false)
 (ki_q8_3 : PySem.W.kitOne K (.ref C8) (.ref C3) = some false)
 (ki_q8_4 : PySem.W.kitOne K (.ref C8) (.ref C4) = some false)
 (ki_q8_5 : PySem.W.kitOne K (.ref C8) (.ref C5) = some false)
 (ki_q8_6 : PySem.W.kitOne K (.ref C8) (.ref C6) = some false)
 (ki_q8_7 : PySem.W.kitOne K (.ref C8) (.ref C7) = some false)
 (ki_q8_8 : PySem.W.kitOne K (.ref C8) (.ref C8) = some true)
 (ki_q8_9 : PySem.W.kitOne K (.ref C8) (.ref C9) = some false)
 (ki_q8_10 : PySem.W.kitOne K (.ref C8) (.ref C10) = some false)
 (ki_q8_11 : PySem.W.kitOne K (.ref C8) (.ref C11) = some false)
 (ki_q8_12 : PySem.W.kitOne K (.ref C8) (.ref C12) = some false)
 (ki_q8_13 : PySem.W.kitOne K (.ref C8) (.ref C13) = some false)
 (ki_q8_14 : PySem.W.kitOne K (.ref C8) (.ref C14) = some false)
 (ki_q8_15 : PySem.W.kitOne K (.ref C8) (.ref C15) = some false)
 (ki_q8_16 : PySem.W.kitOne K (.ref C8) (.ref C16) = some false)
 (ki_q9_0 : PySem.W.kitOne K (.ref C9) (.ref C0) = some true)
 (ki_q9_1 : PySem.W.kitOne K (.ref C9) (.ref C1) = some false)
 (ki_q9_2 : PySem.W.kitOne K (.ref C9) (.ref C2) = some false)
 (ki_q9_3 : PySem.W.kitOne K (.ref C9) (.ref C3) = some false)
 (ki_q9_4 : PySem.W.kitOne K (.ref C9) (.ref C4) = some false)
 (ki_q9_5 : PySem.W.kitOne K (.ref C9) (.ref C5) = some false)
 (ki_q9_6 : PySem.W.kitOne K (.ref C9) (.ref C6) = some false)
 (ki_q9_7 : PySem.W.kitOne K (.ref C9) (.ref C7) = some false)
 (ki_q9_8 : PySem.W.kitOne K (.ref C9) (.ref C8) = some false)
 (ki_q9_9 : PySem.W.kitOne K (.ref C9) (.ref C9) = some true)
 (ki_q9_10 : PySem.W.kitOne K (.ref C9) (.ref C10) = some false)
 (ki_q9_11 : PySem.W.kitOne K (.ref C9) (.ref C11) = some false)
 (ki_q9_12 : PySem.W.kitOne K (.ref C9) (.ref C12) = some false)
 (ki_q9_13 : PySem.W.kitOne K (.ref C9) (.ref C13) = some false)
 (ki_q9_14 : PySem.W.kitOne K (.ref C9) (.ref C14) = some false)
 (ki_q9_15 : PySem.W.kitOne K (.ref C9) (.ref C15) = some false)
 (ki_q9_16 : PySem.W.kitOne K (.ref C9) (.ref C16) = some false)
 (ki_q10_0 : PySem.W.kitOne K (.ref C10) (.ref C0) = some true)
 (ki_q10_1 : PySem.W.kitOne K (.ref C10) (.ref C1) = some false)
 (ki_q10_2 : PySem.W.kitOne K (.ref C10) (.ref C2) = some false)
 (ki_q10_3 : PySem.W.kitOne K (.ref C10) (.ref C3) = some false)
 (ki_q10_4 : PySem.W.kitOne K (.ref C10) (.ref C4) = some false)
 (ki_q10_5 : PySem.W.kitOne K (.ref C10) (.ref C5) = some false)
 (ki_q10_6 : PySem.W.kitOne K (.ref C10) (.ref C6) = some false)
 (ki_q10_7 : PySem.W.kitOne K (.ref C10) (.ref C7) = some false)
 (ki_q10_8 : PySem.W.kitOne K (.ref C10) (.ref C8) = some false)
 (ki_q10_9 : PySem.W.kitOne K (.ref C10) (.ref C9) = some false)
 (ki_q10_10 : PySem.W.kitOne K (.ref C10) (.ref C10) = some true)
 (ki_q10_11 : PySem.W.kitOne K (.ref C10) (.ref C11) = some false)
 (ki_q10_12 : PySem.W.kitOne K (.ref C10) (.ref C12) = some false)
 (ki_q10_13 : PySem.W.kitOne K (.ref C10) (.ref C13) = some false)
 (ki_q10_14 : PySem.W.kitOne K (.ref C10) (.ref C14) = some false)
 (ki_q10_15 : PySem.W.kitOne K (.ref C10) (.ref C15) = some false)
 (ki_q10_16 : PySem.W.kitOne K (.ref C10) (.ref C16) = some false)
 (ki_q11_0 : PySem.W.kitOne K (.ref C11) (.ref C0) = some true)
 (ki_q11_1 : PySem.W.kitOne K (.ref C11) (.ref C1) = some false)
 (ki_q11_2 : PySem.W.kitOne K (.ref C11) (.ref C2) = some false)
 (ki_q11_3 : PySem.W.kitOne K (.ref C11) (.ref C3) = some false)
 (ki_q11_4 : PySem.W.kitOne K (.ref C11) (.ref C4) = some false)
 (ki_q11_5 : PySem.W.kitOne K (.ref C11) (.ref C5) = some false)
 (ki_q11_6 : PySem.W.kitOne K (.ref C11) (.ref C6) = some false)
 (ki_q11_7 : PySem.W.kitOne K (.ref C11) (.ref C7) = some false)
 (ki_q11_8 : PySem.W.kitOne K (.ref C11) (.ref C8) = some false)
 (ki_q11_9 : PySem.W.kitOne K (.ref C11) (.ref C9) = some false)
 (ki_q11_10 : PySem.W.kitOne K (.ref C11) (.ref C10) = some false)
 (ki_q11_11 : PySem.W.kitOne K (.ref C11) (.ref C11) = some true)
 (ki_q11_12 : PySem.W.kitOne K (.ref C11) (.ref C12) = some false)
 (ki_q11_13 : PySem.W.kitOne K (.ref C11) (.ref C13) = some false)
 (ki_q11_14 : PySem.W.kitOne K (.ref C11) (.ref C14) = some false)
 (ki_q11_15 : PySem.W.kitOne K (.ref C11) (.ref C15) = some false)
 (ki_q11_16 : PySem.W.kitOne K (.ref C11) (.ref C16) = some false)
 (ki_q12_0 : PySem.W.kitOne K (.ref C12) (.ref C0) = some true)
 (ki_q12_1 : PySem.W.kitOne K (.ref C12) (.ref C1) = some false)
 (ki_q12_2 : PySem.W.kitOne K (.ref C12) (.ref C2) = some false)
 (ki_q12_3 : PySem.W.kitOne K (.ref C12) (.ref C3) = some false)
 (ki_q12_4 : PySem.W.kitOne K (.ref C12) (.ref C4) = some false)
 (ki_q12_5 : PySem.W.kitOne K (.ref C12) (.ref C5) = some false)
 (ki_q12_6 : PySem.W.kitOne K (.ref C12) (.ref C6) = some false)
 (ki_q12_7 : PySem.W.kitOne K (.ref C12) (.ref C7) = some false)
 (ki_q12_8 : PySem.W.kitOne K (.ref C12) (.ref C8) = some false)
 (ki_q12_9 : PySem.W.kitOne K (.ref C12) (.ref C9) = some false)
 (ki_q12_10 : PySem.W.kitOne K (.ref C12) (.ref C10) = some false)
 (ki_q12_11 : PySem.W.kitOne K (.ref C12) (.ref C11) = some false)
 (ki_q12_12 : PySem.W.kitOne K (.ref C12) (.ref C12) = some true)
 (ki_q12_13 : PySem.W.kitOne K (.ref C12) (.ref C13) = some false)
 (ki_q12_14 : PySem.W.kitOne K (.ref C12) (.ref C14) = some false)
 (ki_q12_15 : PySem.W.kitOne K (.ref C12) (.ref C15) = some false)
 (ki_q12_16 : PySem.W.kitOne K (.ref C12) (.ref C16) = some false)
 (ki_q13_0 : PySem.W.kitOne K (.ref C13) (.ref C0) = some true)
 (ki_q13_1 : PySem.W.kitOne K (.ref C13) (.ref C1) = some false)
 (ki_q13_2 : PySem.W.kitOne K (.ref C13) (.ref C2) = some false)
 (ki_q13_3 : PySem.W.kitOne K (.ref C13) (.ref C3) = some false)
 (ki_q13_4 : PySem.W.kitOne K (.ref C13) (.ref C4) = some false)
 (ki_q13_5 : PySem.W.kitOne K (.ref C13) (.ref C5) = some false)
 (ki_q13_6 : PySem.W.kitOne K (.ref C13) (.ref C6) = some false)
 (ki_q13_7 : PySem.W.kitOne K (.ref C13) (.ref C7) = some false)
 (ki_q13_8 : PySem.W.kitOne K (.ref C13) (.ref C8) = some false)
 (ki_q13_9 : PySem.W.kitOne K (.ref C13) (.ref C9) = some false)
 (ki_q13_10 : PySem.W.kitOne K (.ref C13) (.ref C10) = some false)
 (ki_q13_11 : PySem.W.kitOne K (.ref C13) (.ref C11) = some false)
 (ki_q13_12 : PySem.W.kitOne K (.ref C13) (.ref C12) = some false)
 (ki_q13_13 : PySem.W.kitOne K (.ref C13) (.ref C13) = some true)
 (ki_q13_14 : PySem.W.kitOne K (.ref C13) (.ref C14) = some false)
 (ki_q13_15 : PySem.W.kitOne K (.ref C13) (.ref C15) = some false)
 (ki_q13_16 : PySem.W.kitOne K (.ref C13) (.ref C16) = some false)
 (ki_q14_0 : PySem.W.kitOne K (.ref C14) (.ref C0) = some true)
 (ki_q14_1 : PySem.W.kitOne K (.ref C14) (.ref C1) = some false)
 (ki_q14_2 : PySem.W.kitOne K (.ref C14) (.ref C2) = some false)
 (ki_q14_3 : PySem.W.kitOne K (.ref C14) (.ref C3) = some false)
 (ki_q14_4 : PySem.W.kitOne K (.ref C14) (.ref C4) = some false)
 (ki_q14_5 : PySem.W.kitOne K (.ref C14) (.ref C5) = some false)
 (ki_q14_6 : PySem.W.kitOne K (.ref C14) (.ref C6) = some false)
 (ki_q14_7 : PySem.W.kitOne K (.ref C14) (.ref C7) = some false)
 (ki_q14_8 : PySem.W.kitOne K (.ref C14) (.ref C8) = some false)
 (ki_q14_9 : PySem.W.kitOne K (.ref C14) (.ref C9) = some false)
 (ki_q14_10 : PySem.W.kitOne K (.ref C14) (.ref C10) = some false)
 (ki_q14_11 : PySem.W.kitOne K (.ref C14) (.ref C11) = some false)
 (ki_q14_12 : PySem.W.kitOne K (.ref C14) (.ref C12) = some false)
 (ki_q14_13 : PySem.W.kitOne K (.ref C14) (.ref C13) = some false)
 (ki_q14_14 : PySem.W.kitOne K (.ref C14) (.ref C14) = some true)
 (ki_q14_15 : PySem.W.kitOne K (.ref C14) (.ref C15) = some false)
 (ki_q14_16 : PySem.W.kitOne K (.ref C14) (.ref C16) = some false)
 (ki_q15_0 : PySem.W.kitOne K (.ref C15) (.ref C0) = some true)
 (ki_q15_1 : PySem.W.kitOne K (.ref C15) (.ref C1) = some false)
 (ki_q15_2 : PySem.W.kitOne K (.ref C15) (.ref C2) = some false)
 (ki_q15_3 : PySem.W.kitOne K (.ref C15) (.ref C3) = some false)
 (ki_q15_4 : PySem.W.kitOne K (.ref C15) (.ref C4) = some false)
 (ki_q15_5 : PySem.W.kitOne K (.ref C15) (.ref C5) = some false)
 (ki_q15_6 : PySem.W.kitOne K (.ref C15) (.ref C6) = some false)
 (ki_q15_7 : PySem.W.kitOne K (.ref C15) (.ref C7) = some false)
 (ki_q15_8 : PySem.W.kitOne K (.ref C15) (.ref C8) = some false)
 (ki_q15_9 : PySem.W.kitOne K (.ref C15) (.ref C9) = some false)
 (ki_q15_10 : PySem.W.kitOne K (.ref C15) (.ref C10) = some false)
 (ki_q15_11 : PySem.W.kitOne K (.ref C15) (.ref C11) = some false)
 (ki_q15_12 : PySem.W.kitOne K (.ref C15) (.ref C12) = some false)
 (ki_q15_13 : PySem.W.kitOne K (.ref C15) (.ref C13) = some false)
 (ki_q15_14 : PySem.W.kitOne K (.ref C15) (.ref C14) = some false)
 (ki_q15_15 : PySem.W.kitOne K (.ref C15) (.ref C15) = some true)
 (ki_q15_16 : PySem.W.kitOne K (.ref C15) (.ref C16) = some false)
 (ki_q16_0 : PySem.W.kitOne K (.ref C16) (.ref C0) = some true)
 (ki_q16_1 : PySem.W.kitOne K (.ref C16) (.ref C1) = some false)
 (ki_q16_2 : PySem.W.kitOne K (.ref C16) (.ref C2) = some false)
 (ki_q16_3 : PySem.W.kitOne K (.ref C16) (.ref C3) = some false)
 (ki_q16_4 : PySem.W.kitOne K (.ref C16) (.ref C4) = some false)
 (ki_q16_5 : PySem.W.kitOne K (.ref C16) (.ref C5) = some false)
 (ki_q16_6 : PySem.W.kitOne K (.ref C16) (.ref C6) = some false)
 (ki_q16_7 : PySem.W.kitOne K (.ref C16) (.ref C7) = some false)
 (ki_q16_8 : PySem.W.kitOne K (.ref C16) (.ref C8) = some false)
 (ki_q16_9 : PySem.W.kitOne K (.ref C16) (.ref C9) = some false)
 (ki_q16_10 : PySem.W.kitOne K (.ref C16) (.ref C10) = some false)
 (ki_q16_11 : PySem.W.kitOne K (.ref C16) (.ref C11) = some false)
 (ki_q16_12 : PySem.W.kitOne K (.ref C16) (.ref C12) = some false)
 (ki_q16_13 : PySem.W.kitOne K (.ref C16) (.ref C13) = some false)
 (ki_q16_14 : PySem.W.kitOne K (.ref C16) (.ref C14) = some false)
 (ki_q16_15 : PySem.W.kitOne K (.ref C16) (.ref C15) = some false)
 (ki_q16_16 : PySem.W.kitOne K (.ref C16) (.ref C16) = some true)
 (ki_q1_ValueError : PySem.W.kitOne K (.ref C1) (.type "ValueError") = some true)
 (ki_q2_ValueError : PySem.W.kitOne K (.ref C2) (.type "ValueError") = some true)
 (ki_q3_ValueError : PySem.W.kitOne K (.ref C3) (.type "ValueError") = some true)
 (ki_q4_ValueError : PySem.W.kitOne K (.ref C4) (.type "ValueError") = some true)
 (ki_q5_ValueError : PySem.W.kitOne K (.ref C5) (.type "ValueError") = some true)
 (ki_q6_ValueError : PySem.W.kitOne K (.ref C6) (.type "ValueError") = some true)
 (ki_q7_ValueError : PySem.W.kitOne K (.ref C7) (.type "ValueError") = some true)
 (ki_q8_ValueError : PySem.W.kitOne K (.ref C8) (.type "ValueError") = some true)
 (ki_q9_ValueError : PySem.W.kitOne K (.ref C9) (.type "ValueError") = some true)
 (ki_q10_ValueError : PySem.W.kitOne K (.ref C10) (.type "ValueError") = some true)
 (ki_q11_ValueError : PySem.W.kitOne K (.ref C11) (.type "ValueError") = some true)
 (ki_q12_ValueError : PySem.W.kitOne K (.ref C12) (.type "ValueError") = some true)
 (ki_q13_ValueError : PySem.W.kitOne K (.ref C13) (.type "ValueError") = some true)
 (ki_q14_ValueError : PySem.W.kitOne K (.ref C14) (.type "ValueError") = some true)
 (ki_q15_ValueError : PySem.W.kitOne K (.ref C15) (.type "ValueError") = some true)
 (ki_q16_ValueError : PySem.W.kitOne K (.ref C16) (.type "ValueError") = some true)
 (z0 : PySem.W.nsIn K mainGlobals "ValueError" = some none)
 (z1 : PySem.W.nsIn K mainGlobals "abs" = some none)
 (z2 : PySem.W.nsIn K mainGlobals "all" = some none)
 (z3 : PySem.W.nsIn K mainGlobals "bool" = some none)
 (z4 : PySem.W.nsIn K mainGlobals "enumerate" = some none)
 (z5 : PySem.W.nsIn K mainGlobals "int" = some none)
 (z6 : PySem.W.nsIn K mainGlobals "isinstance" = some none)
 (z7 : PySem.W.nsIn K mainGlobals "len" = some none)
 (z8 : PySem.W.nsIn K mainGlobals "list" = some none)
 (z9 : PySem.W.nsIn K mainGlobals "max" = some none)
 (z10 : PySem.W.nsIn K mainGlobals "min" = some none)
 (z11 : PySem.W.nsIn K mainGlobals "range" = some none)
 (z12 : PySem.W.nsIn K mainGlobals "zip" = some none) :
 ∃ fd : FuncData, (∀ (s : Shared) (v : Value), BindsTo s fd ⟨[v], []⟩ [("_law_script", v)]) ∧ ∀ base : Heap, K.In base → base.Ns mainGlobals mg → FnG l.prog w K mg base (CXH l.prog w mg) 62 fa fd ["_law_script"] (spL K) := by
  obtain rfl : f9 = fa := by
    have e := hfa.symm.trans (PySem.W.mg_of X G a9_0)
    cases e; rfl
  have F0 := fun_mk (st := t0) l0 c0 k0
  have F1 := fun_mk (st := t1) l1 c1 k1
  have F2 := fun_mk (st := t2) l2 c2 k2
  have F3 := fun_mk (st := t3) l3 c3 k3
  have F4 := fun_mk (st := t4) l4 c4 k4
  have F5 := fun_mk (st := t5) l5 c5 k5
  have F6 := fun_mk (st := t6) l6 c6 k6
  have F7 := fun_mk (st := t7) l7 c7 k7
  have F8 := fun_mk (st := t8) l8 c8 k8
  have F9 := fun_mk (st := t9) l9 c9 k9
  have gl : GEs (AA l.prog w K (fun i => ([some f0, some f1, some f2, some f3, some f4, some f5, some f6, some f7, some f8, some f9] : List (Option Addr)).getD i none) (fun i => ([some C0, some C1, some C2, some C3, some C4, some C5, some C6, some C7, some C8, some C9, some C10, some C11, some C12, some C13, some C14, some C15, some C16] : List (Option Addr)).getD i none)) mg gtab := ⟨
    ⟨_, rfl, PySem.W.mg_of X G aC2⟩,
    ⟨_, rfl, PySem.W.mg_of X G aC16⟩,
    ⟨_, rfl, PySem.W.mg_of X G aC0⟩,
    ⟨_, rfl, PySem.W.mg_of X G aC15⟩,
    ⟨_, rfl, PySem.W.mg_of X G aC1⟩,
    ⟨_, rfl, PySem.W.mg_of X G aC9⟩,
    ⟨_, rfl, PySem.W.mg_of X G aC10⟩,
    ⟨_, rfl, PySem.W.mg_of X G aC13⟩,
    ⟨_, rfl, PySem.W.mg_of X G aC3⟩,
    ⟨_, rfl, PySem.W.mg_of X G aC11⟩,
    ⟨_, rfl, PySem.W.mg_of X G aC12⟩,
    ⟨_, rfl, PySem.W.mg_of X G aC8⟩,
    ⟨_, rfl, PySem.W.mg_of X G aC14⟩,
    ⟨_, rfl, PySem.W.mg_of X G aC4⟩,
    ⟨_, rfl, PySem.W.mg_of X G aC5⟩,
    ⟨_, rfl, PySem.W.mg_of X G aC6⟩,
    ⟨_, rfl, PySem.W.mg_of X G aC7⟩,
    PySem.W.mg_none_of X G z0,
    ⟨_, rfl, PySem.W.mg_of X G a4_0⟩,
    ⟨_, rfl, PySem.W.mg_of X G a5_0⟩,
    ⟨_, rfl, PySem.W.mg_of X G a3_0⟩,
    ⟨_, rfl, PySem.W.mg_of X G a2_0⟩,
    ⟨_, rfl, PySem.W.mg_of X G a7_0⟩,
    ⟨_, rfl, PySem.W.mg_of X G a6_0⟩,
    ⟨_, rfl, PySem.W.mg_of X G a0_0⟩,
    ⟨_, rfl, PySem.W.mg_of X G a1_0⟩,
    ⟨_, rfl, PySem.W.mg_of X G a8_0⟩,
    PySem.W.mg_none_of X G z1,
    PySem.W.mg_none_of X G z2,
    PySem.W.mg_none_of X G z3,
    PySem.W.mg_none_of X G z4,
    PySem.W.mg_none_of X G z5,
    PySem.W.mg_none_of X G z6,
    PySem.W.mg_none_of X G z7,
    PySem.W.mg_none_of X G z8,
    PySem.W.mg_none_of X G z9,
    PySem.W.mg_none_of X G z10,
    PySem.W.mg_none_of X G z11,
    PySem.W.mg_none_of X G z12, trivial⟩
  have FO : FldOk (AA l.prog w K (fun i => ([some f0, some f1, some f2, some f3, some f4, some f5, some f6, some f7, some f8, some f9] : List (Option Addr)).getD i none) (fun i => ([some C0, some C1, some C2, some C3, some C4, some C5, some C6, some C7, some C8, some C9, some C10, some C11, some C12, some C13, some C14, some C15, some C16] : List (Option Addr)).getD i none)) := by
    refine ⟨fun c f g h1 h2 e => ?_, fun c C f e h => ?_, fun c C f e h => ?_⟩
    · have b : ∀ c f, layT c f = true → f < 7 := fun c f h => by
        unfold layT at h
        split at h <;> first | decide | cases h
      exact (by decide +kernel : ∀ f, f < 7 → ∀ g, g < 7 → fnmT f = fnmT g → f = g) f (b c f h1) g (b c g h2) e
    · have h : layT c f = true := h
      unfold layT at h
      split at h

      · cases h
    · have h : layT c f = true := h
      unfold layT at h
      split at h

      · cases h
  have IA : IsaOk (AA l.prog w K (fun i => ([some f0, some f1, some f2, some f3, some f4, some f5, some f6, some f7, some f8, some f9] : List (Option Addr)).getD i none) (fun i => ([some C0, some C1, some C2, some C3, some C4, some C5, some C6, some C7, some C8, some C9, some C10, some C11, some C12, some C13, some C14, some C15, some C16] : List (Option Addr)).getD i none)) isaT := by
    intro t d b h
    unfold isaT at h
    split at h
    · cases h
  have ID : IdOk (AA l.prog w K (fun i => ([some f0, some f1, some f2, some f3, some f4, some f5, some f6, some f7, some f8, some f9] : List (Option Addr)).getD i none) (fun i => ([some C0, some C1, some C2, some C3, some C4, some C5, some C6, some C7, some C8, some C9, some C10, some C11, some C12, some C13, some C14, some C15, some C16] : List (Option Addr)).getD i none)) := idl
  have EO : ExqOk (AA l.prog w K (fun i => ([some f0, some f1, some f2, some f3, some f4, some f5, some f6, some f7, some f8, some f9] : List (Option Addr)).getD i none) (fun i => ([some C0, some C1, some C2, some C3, some C4, some C5, some C6, some C7, some C8, some C9, some C10, some C11, some C12, some C13, some C14, some C15, some C16] : List (Option Addr)).getD i none)) 7 := by
    intro c d b C h hc
    have h : subT c d = some b := h
    unfold subT at h
    split at h
    · cases hc; exact ⟨⟨qg1, qk1, ebx1, qd1⟩, ⟨qg1, qk1, ebx1, qd1, qa1, ihn, iht, qm1⟩, fun f hf => match f, hf with | 0, _ => qn1_0 | 1, _ => qn1_1 | 2, _ => qn1_2 | 3, _ => qn1_3 | 4, _ => qn1_4 | 5, _ => qn1_5 | 6, _ => qn1_6 | n + 7, z => absurd z (by omega)⟩
    · cases hc; exact ⟨⟨qg2, qk2, ebx2, qd2⟩, ⟨qg2, qk2, ebx2, qd2, qa2, ihn, iht, qm2⟩, fun f hf => match f, hf with | 0, _ => qn2_0 | 1, _ => qn2_1 | 2, _ => qn2_2 | 3, _ => qn2_3 | 4, _ => qn2_4 | 5, _ => qn2_5 | 6, _ => qn2_6 | n + 7, z => absurd z (by omega)⟩
    · cases hc; exact ⟨⟨qg3, qk3, ebx3, qd3⟩, ⟨qg3, qk3, ebx3, qd3, qa3, ihn, iht, qm3⟩, fun f hf => match f, hf with | 0, _ => qn3_0 | 1, _ => qn3_1 | 2, _ => qn3_2 | 3, _ => qn3_3 | 4, _ => qn3_4 | 5, _ => qn3_5 | 6, _ => qn3_6 | n + 7, z => absurd z (by omega)⟩
    · cases hc; exact ⟨⟨qg4, qk4, ebx4, qd4⟩, ⟨qg4, qk4, ebx4, qd4, qa4, ihn, iht, qm4⟩, fun f hf => match f, hf with | 0, _ => qn4_0 | 1, _ => qn4_1 | 2, _ => qn4_2 | 3, _ => qn4_3 | 4, _ => qn4_4 | 5, _ => qn4_5 | 6, _ => qn4_6 | n + 7, z => absurd z (by omega)⟩
    · cases hc; exact ⟨⟨qg5, qk5, ebx5, qd5⟩, ⟨qg5, qk5, ebx5, qd5, qa5, ihn, iht, qm5⟩, fun f hf => match f, hf with | 0, _ => qn5_0 | 1, _ => qn5_1 | 2, _ => qn5_2 | 3, _ => qn5_3 | 4, _ => qn5_4 | 5, _ => qn5_5 | 6, _ => qn5_6 | n + 7, z => absurd z (by omega)⟩
    · cases hc; exact ⟨⟨qg6, qk6, ebx6, qd6⟩, ⟨qg6, qk6, ebx6, qd6, qa6, ihn, iht, qm6⟩, fun f hf => match f, hf with | 0, _ => qn6_0 | 1, _ => qn6_1 | 2, _ => qn6_2 | 3, _ => qn6_3 | 4, _ => qn6_4 | 5, _ => qn6_5 | 6, _ => qn6_6 | n + 7, z => absurd z (by omega)⟩
    · cases hc; exact ⟨⟨qg7, qk7, ebx7, qd7⟩, ⟨qg7, qk7, ebx7, qd7, qa7, ihn, iht, qm7⟩, fun f hf => match f, hf with | 0, _ => qn7_0 | 1, _ => qn7_1 | 2, _ => qn7_2 | 3, _ => qn7_3 | 4, _ => qn7_4 | 5, _ => qn7_5 | 6, _ => qn7_6 | n + 7, z => absurd z (by omega)⟩
    · cases hc; exact ⟨⟨qg8, qk8, ebx8, qd8⟩, ⟨qg8, qk8, ebx8, qd8, qa8, ihn, iht, qm8⟩, fun f hf => match f, hf with | 0, _ => qn8_0 | 1, _ => qn8_1 | 2, _ => qn8_2 | 3, _ => qn8_3 | 4, _ => qn8_4 | 5, _ => qn8_5 | 6, _ => qn8_6 | n + 7, z => absurd z (by omega)⟩
    · cases hc; exact ⟨⟨qg9, qk9, ebx9, qd9⟩, ⟨qg9, qk9, ebx9, qd9, qa9, ihn, iht, qm9⟩, fun f hf => match f, hf with | 0, _ => qn9_0 | 1, _ => qn9_1 | 2, _ => qn9_2 | 3, _ => qn9_3 | 4, _ => qn9_4 | 5, _ => qn9_5 | 6, _ => qn9_6 | n + 7, z => absurd z (by omega)⟩
    · cases hc; exact ⟨⟨qg10, qk10, ebx10, qd10⟩, ⟨qg10, qk10, ebx10, qd10, qa10, ihn, iht, qm10⟩, fun f hf => match f, hf with | 0, _ => qn10_0 | 1, _ => qn10_1 | 2, _ => qn10_2 | 3, _ => qn10_3 | 4, _ => qn10_4 | 5, _ => qn10_5 | 6, _ => qn10_6 | n + 7, z => absurd z (by omega)⟩
    · cases hc; exact ⟨⟨qg11, qk11, ebx11, qd11⟩, ⟨qg11, qk11, ebx11, qd11, qa11, ihn, iht, qm11⟩, fun f hf => match f, hf with | 0, _ => qn11_0 | 1, _ => qn11_1 | 2, _ => qn11_2 | 3, _ => qn11_3 | 4, _ => qn11_4 | 5, _ => qn11_5 | 6, _ => qn11_6 | n + 7, z => absurd z (by omega)⟩
    · cases hc; exact ⟨⟨qg12, qk12, ebx12, qd12⟩, ⟨qg12, qk12, ebx12, qd12, qa12, ihn, iht, qm12⟩, fun f hf => match f, hf with | 0, _ => qn12_0 | 1, _ => qn12_1 | 2, _ => qn12_2 | 3, _ => qn12_3 | 4, _ => qn12_4 | 5, _ => qn12_5 | 6, _ => qn12_6 | n + 7, z => absurd z (by omega)⟩
    · cases hc; exact ⟨⟨qg13, qk13, ebx13, qd13⟩, ⟨qg13, qk13, ebx13, qd13, qa13, ihn, iht, qm13⟩, fun f hf => match f, hf with | 0, _ => qn13_0 | 1, _ => qn13_1 | 2, _ => qn13_2 | 3, _ => qn13_3 | 4, _ => qn13_4 | 5, _ => qn13_5 | 6, _ => qn13_6 | n + 7, z => absurd z (by omega)⟩
    · cases hc; exact ⟨⟨qg14, qk14, ebx14, qd14⟩, ⟨qg14, qk14, ebx14, qd14, qa14, ihn, iht, qm14⟩, fun f hf => match f, hf with | 0, _ => qn14_0 | 1, _ => qn14_1 | 2, _ => qn14_2 | 3, _ => qn14_3 | 4, _ => qn14_4 | 5, _ => qn14_5 | 6, _ => qn14_6 | n + 7, z => absurd z (by omega)⟩
    · cases hc; exact ⟨⟨qg15, qk15, ebx15, qd15⟩, ⟨qg15, qk15, ebx15, qd15, qa15, ihn, iht, qm15⟩, fun f hf => match f, hf with | 0, _ => qn15_0 | 1, _ => qn15_1 | 2, _ => qn15_2 | 3, _ => qn15_3 | 4, _ => qn15_4 | 5, _ => qn15_5 | 6, _ => qn15_6 | n + 7, z => absurd z (by omega)⟩
    · cases hc; exact ⟨⟨qg16, qk16, ebx16, qd16⟩, ⟨qg16, qk16, ebx16, qd16, qa16, ihn, iht, qm16⟩, fun f hf => match f, hf with | 0, _ => qn16_0 | 1, _ => qn16_1 | 2, _ => qn16_2 | 3, _ => qn16_3 | 4, _ => qn16_4 | 5, _ => qn16_5 | 6, _ => qn16_6 | n + 7, z => absurd z (by omega)⟩
    · cases h
  have kq1 : ([C0, C1, C2, C3, C4, C5, C6, C7, C8, C9, C10, C11, C12, C13, C14, C15, C16] : List Addr).map (fun D => PySem.W.kitOne K (.ref C1) (.ref D)) = (isqR 1).map some := (congr (congrArg List.cons ki_q1_0) (congr (congrArg List.cons ki_q1_1) (congr (congrArg List.cons ki_q1_2) (congr (congrArg List.cons ki_q1_3) (congr (congrArg List.cons ki_q1_4) (congr (congrArg List.cons ki_q1_5) (congr (congrArg List.cons ki_q1_6) (congr (congrArg List.cons ki_q1_7) (congr (congrArg List.cons ki_q1_8) (congr (congrArg List.cons ki_q1_9) (congr (congrArg List.cons ki_q1_10) (congr (congrArg List.cons ki_q1_11) (congr (congrArg List.cons ki_q1_12) (congr (congrArg List.cons ki_q1_13) (congr (congrArg List.cons ki_q1_14) (congr (congrArg List.cons ki_q1_15) (congr (congrArg List.cons ki_q1_16) (Eq.refl []))))))))))))))))))
  have kq2 : ([C0, C1, C2, C3, C4, C5, C6, C7, C8, C9, C10, C11, C12, C13, C14, C15, C16] : List Addr).map (fun D => PySem.W.kitOne K (.ref C2) (.ref D)) = (isqR 2).map some := (congr (congrArg List.cons ki_q2_0) (congr (congrArg List.cons ki_q2_1) (congr (congrArg List.cons ki_q2_2) (congr (congrArg List.cons ki_q2_3) (congr (congrArg List.cons ki_q2_4) (congr (congrArg List.cons ki_q2_5) (congr (congrArg List.cons ki_q2_6) (congr (congrArg List.cons ki_q2_7) (congr (congrArg List.cons ki_q2_8) (congr (congrArg List.cons ki_q2_9) (congr (congrArg List.cons ki_q2_10) (congr (congrArg List.cons ki_q2_11) (congr (congrArg List.cons ki_q2_12) (congr (congrArg List.cons ki_q2_13) (congr (congrArg List.cons ki_q2_14) (congr (congrArg List.cons ki_q2_15) (congr (congrArg List.cons ki_q2_16) (Eq.refl []))))))))))))))))))
  have kq3 : ([C0, C1, C2, C3, C4, C5, C6, C7, C8, C9, C10, C11, C12, C13, C14, C15, C16] : List Addr).map (fun D => PySem.W.kitOne K (.ref C3) (.ref D)) = (isqR 3).map some := (congr (congrArg List.cons ki_q3_0) (congr (congrArg List.cons ki_q3_1) (congr (congrArg List.cons ki_q3_2) (congr (congrArg List.cons ki_q3_3) (congr (congrArg List.cons ki_q3_4) (congr (congrArg List.cons ki_q3_5) (congr (congrArg List.cons ki_q3_6) (congr (congrArg List.cons ki_q3_7) (congr (congrArg List.cons ki_q3_8) (congr (congrArg List.cons ki_q3_9) (congr (congrArg List.cons ki_q3_10) (congr (congrArg List.cons ki_q3_11) (congr (congrArg List.cons ki_q3_12) (congr (congrArg List.cons ki_q3_13) (congr (congrArg List.cons ki_q3_14) (congr (congrArg List.cons ki_q3_15) (congr (congrArg List.cons ki_q3_16) (Eq.refl []))))))))))))))))))
  have kq4 : ([C0, C1, C2, C3, C4, C5, C6, C7, C8, C9, C10, C11, C12, C13, C14, C15, C16] : List Addr).map (fun D => PySem.W.kitOne K (.ref C4) (.ref D)) = (isqR 4).map some := (congr (congrArg List.cons ki_q4_0) (congr (congrArg List.cons ki_q4_1) (congr (congrArg List.cons ki_q4_2) (congr (congrArg List.cons ki_q4_3) (congr (congrArg List.cons ki_q4_4) (congr (congrArg List.cons ki_q4_5) (congr (congrArg List.cons ki_q4_6) (congr (congrArg List.cons ki_q4_7) (congr (congrArg List.cons ki_q4_8) (congr (congrArg List.cons ki_q4_9) (congr (congrArg List.cons ki_q4_10) (congr (congrArg List.cons ki_q4_11) (congr (congrArg List.cons ki_q4_12) (congr (congrArg List.cons ki_q4_13) (congr (congrArg List.cons ki_q4_14) (congr (congrArg List.cons ki_q4_15) (congr (congrArg List.cons ki_q4_16) (Eq.refl []))))))))))))))))))
  have kq5 : ([C0, C1, C2, C3, C4, C5, C6, C7, C8, C9, C10, C11, C12, C13, C14, C15, C16] : List Addr).map (fun D => PySem.W.kitOne K (.ref C5) (.ref D)) = (isqR 5).map some := (congr (congrArg List.cons ki_q5_0) (congr (congrArg List.cons ki_q5_1) (congr (congrArg List.cons ki_q5_2) (congr (congrArg List.cons ki_q5_3) (congr (congrArg List.cons ki_q5_4) (congr (congrArg List.cons ki_q5_5) (congr (congrArg List.cons ki_q5_6) (congr (congrArg List.cons ki_q5_7) (congr (congrArg List.cons ki_q5_8) (congr (congrArg List.cons ki_q5_9) (congr (congrArg List.cons ki_q5_10) (congr (congrArg List.cons ki_q5_11) (congr (congrArg List.cons ki_q5_12) (congr (congrArg List.cons ki_q5_13) (congr (congrArg List.cons ki_q5_14) (congr (congrArg List.cons ki_q5_15) (congr (congrArg List.cons ki_q5_16) (Eq.refl []))))))))))))))))))
  have kq6 : ([C0, C1, C2, C3, C4, C5, C6, C7, C8, C9, C10, C11, C12, C13, C14, C15, C16] : List Addr).map (fun D => PySem.W.kitOne K (.ref C6) (.ref D)) = (isqR 6).map some := (congr (congrArg List.cons ki_q6_0) (congr (congrArg List.cons ki_q6_1) (congr (congrArg List.cons ki_q6_2) (congr (congrArg List.cons ki_q6_3) (congr (congrArg List.cons ki_q6_4) (congr (congrArg List.cons ki_q6_5) (congr (congrArg List.cons ki_q6_6) (congr (congrArg List.cons ki_q6_7) (congr (congrArg List.cons ki_q6_8) (congr (congrArg List.cons ki_q6_9) (congr (congrArg List.cons ki_q6_10) (congr (congrArg List.cons ki_q6_11) (congr (congrArg List.cons ki_q6_12) (congr (congrArg List.cons ki_q6_13) (congr (congrArg List.cons ki_q6_14) (congr (congrArg List.cons ki_q6_15) (congr (congrArg List.cons ki_q6_16) (Eq.refl []))))))))))))))))))
  have kq7 : ([C0, C1, C2, C3, C4, C5, C6, C7, C8, C9, C10, C11, C12, C13, C14, C15, C16] : List Addr).map (fun D => PySem.W.kitOne K (.ref C7) (.ref D)) = (isqR 7).map some := (congr (congrArg List.cons ki_q7_0) (congr (congrArg List.cons ki_q7_1) (congr (congrArg List.cons ki_q7_2) (congr (congrArg List.cons ki_q7_3) (congr (congrArg List.cons ki_q7_4) (congr (congrArg List.cons ki_q7_5) (congr (congrArg List.cons ki_q7_6) (congr (congrArg List.cons ki_q7_7) (congr (congrArg List.cons ki_q7_8) (congr (congrArg List.cons ki_q7_9) (congr (congrArg List.cons ki_q7_10) (congr (congrArg List.cons ki_q7_11) (congr (congrArg List.cons ki_q7_12) (congr (congrArg List.cons ki_q7_13) (congr (congrArg List.cons ki_q7_14) (congr (congrArg List.cons ki_q7_15) (congr (congrArg List.cons ki_q7_16) (Eq.refl []))))))))))))))))))
  have kq8 : ([C0, C1, C2, C3, C4, C5, C6, C7, C8, C9, C10, C11, C12, C13, C14, C15, C16] : List Addr).map (fun D => PySem.W.kitOne K (.ref C8) (.ref D)) = (isqR 8).map some := (congr (congrArg List.cons ki_q8_0) (congr (congrArg List.cons ki_q8_1) (congr (congrArg List.cons ki_q8_2) (congr (congrArg List.cons ki_q8_3) (congr (congrArg List.cons ki_q8_4) (congr (congrArg List.cons ki_q8_5) (congr (congrArg List.cons ki_q8_6) (congr (congrArg List.cons ki_q8_7) (congr (congrArg List.cons ki_q8_8) (congr (congrArg List.cons ki_q8_9) (congr (congrArg List.cons ki_q8_10) (congr (congrArg List.cons ki_q8_11) (congr (congrArg List.cons ki_q8_12) (congr (congrArg List.cons ki_q8_13) (congr (congrArg List.cons ki_q8_14) (congr (congrArg List.cons ki_q8_15) (congr (congrArg List.cons ki_q8_16) (Eq.refl []))))))))))))))))))
  have kq9 : ([C0, C1, C2, C3, C4, C5, C6, C7, C8, C9, C10, C11, C12, C13, C14, C15, C16] : List Addr).map (fun D => PySem.W.kitOne K (.ref C9) (.ref D)) = (isqR 9).map some := (congr (congrArg List.cons ki_q9_0) (congr (congrArg List.cons ki_q9_1) (congr (congrArg List.cons ki_q9_2) (congr (congrArg List.cons ki_q9_3) (congr (congrArg List.cons ki_q9_4) (congr (congrArg List.cons ki_q9_5) (congr (congrArg List.cons ki_q9_6) (congr (congrArg List.cons ki_q9_7) (congr (congrArg List.cons ki_q9_8) (congr (congrArg List.cons ki_q9_9) (congr (congrArg List.cons ki_q9_10) (congr (congrArg List.cons ki_q9_11) (congr (congrArg List.cons ki_q9_12) (congr (congrArg List.cons ki_q9_13) (congr (congrArg List.cons ki_q9_14) (congr (congrArg List.cons ki_q9_15) (congr (congrArg List.cons ki_q9_16) (Eq.refl []))))))))))))))))))
  have kq10 : ([C0, C1, C2, C3, C4, C5, C6, C7, C8, C9, C10, C11, C12, C13, C14, C15, C16] : List Addr).map (fun D => PySem.W.kitOne K (.ref C10) (.ref D)) = (isqR 10).map some := (congr (congrArg List.cons ki_q10_0) (congr (congrArg List.cons ki_q10_1) (congr (congrArg List.cons ki_q10_2) (congr (congrArg List.cons ki_q10_3) (congr (congrArg List.cons ki_q10_4) (congr (congrArg List.cons ki_q10_5) (congr (congrArg List.cons ki_q10_6) (congr (congrArg List.cons ki_q10_7) (congr (congrArg List.cons ki_q10_8) (congr (congrArg List.cons ki_q10_9) (congr (congrArg List.cons ki_q10_10) (congr (congrArg List.cons ki_q10_11) (congr (congrArg List.cons ki_q10_12) (congr (congrArg List.cons ki_q10_13) (congr (congrArg List.cons ki_q10_14) (congr (congrArg List.cons ki_q10_15) (congr (congrArg List.cons ki_q10_16) (Eq.refl []))))))))))))))))))
  have kq11 : ([C0, C1, C2, C3, C4, C5, C6, C7, C8, C9, C10, C11, C12, C13, C14, C15, C16] : List Addr).map (fun D => PySem.W.kitOne K (.ref C11) (.ref D)) = (isqR 11).map some := (congr (congrArg List.cons ki_q11_0) (congr (congrArg List.cons ki_q11_1) (congr (congrArg List.cons ki_q11_2) (congr (congrArg List.cons ki_q11_3) (congr (congrArg List.cons ki_q11_4) (congr (congrArg List.cons ki_q11_5) (congr (congrArg List.cons ki_q11_6) (congr (congrArg List.cons ki_q11_7) (congr (congrArg List.cons ki_q11_8) (congr (congrArg List.cons ki_q11_9) (congr (congrArg List.cons ki_q11_10) (congr (congrArg List.cons ki_q11_11) (congr (congrArg List.cons ki_q11_12) (congr (congrArg List.cons ki_q11_13) (congr (congrArg List.cons ki_q11_14) (congr (congrArg List.cons ki_q11_15) (congr (congrArg List.cons ki_q11_16) (Eq.refl []))))))))))))))))))
  have kq12 : ([C0, C1, C2, C3, C4, C5, C6, C7, C8, C9, C10, C11, C12, C13, C14, C15, C16] : List Addr).map (fun D => PySem.W.kitOne K (.ref C12) (.ref D)) = (isqR 12).map some := (congr (congrArg List.cons ki_q12_0) (congr (congrArg List.cons ki_q12_1) (congr (congrArg List.cons ki_q12_2) (congr (congrArg List.cons ki_q12_3) (congr (congrArg List.cons ki_q12_4) (congr (congrArg List.cons ki_q12_5) (congr (congrArg List.cons ki_q12_6) (congr (congrArg List.cons ki_q12_7) (congr (congrArg List.cons ki_q12_8) (congr (congrArg List.cons ki_q12_9) (congr (congrArg List.cons ki_q12_10) (congr (congrArg List.cons ki_q12_11) (congr (congrArg List.cons ki_q12_12) (congr (congrArg List.cons ki_q12_13) (congr (congrArg List.cons ki_q12_14) (congr (congrArg List.cons ki_q12_15) (congr (congrArg List.cons ki_q12_16) (Eq.refl []))))))))))))))))))
  have kq13 : ([C0, C1, C2, C3, C4, C5, C6, C7, C8, C9, C10, C11, C12, C13, C14, C15, C16] : List Addr).map (fun D => PySem.W.kitOne K (.ref C13) (.ref D)) = (isqR 13).map some := (congr (congrArg List.cons ki_q13_0) (congr (congrArg List.cons ki_q13_1) (congr (congrArg List.cons ki_q13_2) (congr (congrArg List.cons ki_q13_3) (congr (congrArg List.cons ki_q13_4) (congr (congrArg List.cons ki_q13_5) (congr (congrArg List.cons ki_q13_6) (congr (congrArg List.cons ki_q13_7) (congr (congrArg List.cons ki_q13_8) (congr (congrArg List.cons ki_q13_9) (congr (congrArg List.cons ki_q13_10) (congr (congrArg List.cons ki_q13_11) (congr (congrArg List.cons ki_q13_12) (congr (congrArg List.cons ki_q13_13) (congr (congrArg List.cons ki_q13_14) (congr (congrArg List.cons ki_q13_15) (congr (congrArg List.cons ki_q13_16) (Eq.refl []))))))))))))))))))
  have kq14 : ([C0, C1, C2, C3, C4, C5, C6, C7, C8, C9, C10, C11, C12, C13, C14, C15, C16] : List Addr).map (fun D => PySem.W.kitOne K (.ref C14) (.ref D)) = (isqR 14).map some := (congr (congrArg List.cons ki_q14_0) (congr (congrArg List.cons ki_q14_1) (congr (congrArg List.cons ki_q14_2) (congr (congrArg List.cons ki_q14_3) (congr (congrArg List.cons ki_q14_4) (congr (congrArg List.cons ki_q14_5) (congr (congrArg List.cons ki_q14_6) (congr (congrArg List.cons ki_q14_7) (congr (congrArg List.cons ki_q14_8) (congr (congrArg List.cons ki_q14_9) (congr (congrArg List.cons ki_q14_10) (congr (congrArg List.cons ki_q14_11) (congr (congrArg List.cons ki_q14_12) (congr (congrArg List.cons ki_q14_13) (congr (congrArg List.cons ki_q14_14) (congr (congrArg List.cons ki_q14_15) (congr (congrArg List.cons ki_q14_16) (Eq.refl []))))))))))))))))))
  have kq15 : ([C0, C1, C2, C3, C4, C5, C6, C7, C8, C9, C10, C11, C12, C13, C14, C15, C16] : List Addr).map (fun D => PySem.W.kitOne K (.ref C15) (.ref D)) = (isqR 15).map some := (congr (congrArg List.cons ki_q15_0) (congr (congrArg List.cons ki_q15_1) (congr (congrArg List.cons ki_q15_2) (congr (congrArg List.cons ki_q15_3) (congr (congrArg List.cons ki_q15_4) (congr (congrArg List.cons ki_q15_5) (congr (congrArg List.cons ki_q15_6) (congr (congrArg List.cons ki_q15_7) (congr (congrArg List.cons ki_q15_8) (congr (congrArg List.cons ki_q15_9) (congr (congrArg List.cons ki_q15_10) (congr (congrArg List.cons ki_q15_11) (congr (congrArg List.cons ki_q15_12) (congr (congrArg List.cons ki_q15_13) (congr (congrArg List.cons ki_q15_14) (congr (congrArg List.cons ki_q15_15) (congr (congrArg List.cons ki_q15_16) (Eq.refl []))))))))))))))))))
  have kq16 : ([C0, C1, C2, C3, C4, C5, C6, C7, C8, C9, C10, C11, C12, C13, C14, C15, C16] : List Addr).map (fun D => PySem.W.kitOne K (.ref C16) (.ref D)) = (isqR 16).map some := (congr (congrArg List.cons ki_q16_0) (congr (congrArg List.cons ki_q16_1) (congr (congrArg List.cons ki_q16_2) (congr (congrArg List.cons ki_q16_3) (congr (congrArg List.cons ki_q16_4) (congr (congrArg List.cons ki_q16_5) (congr (congrArg List.cons ki_q16_6) (congr (congrArg List.cons ki_q16_7) (congr (congrArg List.cons ki_q16_8) (congr (congrArg List.cons ki_q16_9) (congr (congrArg List.cons ki_q16_10) (congr (congrArg List.cons ki_q16_11) (congr (congrArg List.cons ki_q16_12) (congr (congrArg List.cons ki_q16_13) (congr (congrArg List.cons ki_q16_14) (congr (congrArg List.cons ki_q16_15) (congr (congrArg List.cons ki_q16_16) (Eq.refl []))))))))))))))))))
  have IQ : IsqOk (AA l.prog w K (fun i => ([some f0, some f1, some f2, some f3, some f4, some f5, some f6, some f7, some f8, some f9] : List (Option Addr)).getD i none) (fun i => ([some C0, some C1, some C2, some C3, some C4, some C5, some C6, some C7, some C8, some C9, some C10, some C11, some C12, some C13, some C14, some C15, some C16] : List (Option Addr)).getD i none)) isqT := by
    intro c t b h
    unfold isqT at h
    split at h
    · have hne : isqR c ≠ [] := fun z => by rw [z] at h; cases h
      unfold isqR at hne h
      split at h
      · exact ⟨C1, rfl, isq_row kq1 h⟩
      · exact ⟨C2, rfl, isq_row kq2 h⟩
      · exact ⟨C3, rfl, isq_row kq3 h⟩
      · exact ⟨C4, rfl, isq_row kq4 h⟩
      · exact ⟨C5, rfl, isq_row kq5 h⟩
      · exact ⟨C6, rfl, isq_row kq6 h⟩
      · exact ⟨C7, rfl, isq_row kq7 h⟩
      · exact ⟨C8, rfl, isq_row kq8 h⟩
      · exact ⟨C9, rfl, isq_row kq9 h⟩
      · exact ⟨C10, rfl, isq_row kq10 h⟩
      · exact ⟨C11, rfl, isq_row kq11 h⟩
      · exact ⟨C12, rfl, isq_row kq12 h⟩
      · exact ⟨C13, rfl, isq_row kq13 h⟩
      · exact ⟨C14, rfl, isq_row kq14 h⟩
      · exact ⟨C15, rfl, isq_row kq15 h⟩
      · exact ⟨C16, rfl, isq_row kq16 h⟩
      · cases h
    · split at h
      · rename_i z
        subst z
        unfold isqR at h
        split at h
        · cases h
        · cases h
          rename_i hne
          split at hne
          · exact ⟨C1, rfl, ki_q1_ValueError⟩
          · exact ⟨C2, rfl, ki_q2_ValueError⟩
          · exact ⟨C3, rfl, ki_q3_ValueError⟩
          · exact ⟨C4, rfl, ki_q4_ValueError⟩
          · exact ⟨C5, rfl, ki_q5_ValueError⟩
          · exact ⟨C6, rfl, ki_q6_ValueError⟩
          · exact ⟨C7, rfl, ki_q7_ValueError⟩
          · exact ⟨C8, rfl, ki_q8_ValueError⟩
          · exact ⟨C9, rfl, ki_q9_ValueError⟩
          · exact ⟨C10, rfl, ki_q10_ValueError⟩
          · exact ⟨C11, rfl, ki_q11_ValueError⟩
          · exact ⟨C12, rfl, ki_q12_ValueError⟩
          · exact ⟨C13, rfl, ki_q13_ValueError⟩
          · exact ⟨C14, rfl, ki_q14_ValueError⟩
          · exact ⟨C15, rfl, ki_q15_ValueError⟩
          · exact ⟨C16, rfl, ki_q16_ValueError⟩
          · exact absurd rfl hne
      · cases h
  have KC : KiC K C0 := ⟨kga, krd, kfi⟩
  have X1 : OexC K C1 := ⟨⟨_, _, _, _, _, _, _, _, _, _, _, _, _, _, _, ex1, rfl⟩, esa1, ebx1, ety1, ekp1⟩
  have XF1 := fun_mk (st := xt_NoFace) el1 eco1 ekf1
  have X2 : OexC K C2 := ⟨⟨_, _, _, _, _, _, _, _, _, _, _, _, _, _, _, ex2, rfl⟩, esa2, ebx2, ety2, ekp2⟩
  have XF2 := fun_mk (st := xt_BadHouse) el2 eco2 ekf2
  have X3 : OexC K C3 := ⟨⟨_, _, _, _, _, _, _, _, _, _, _, _, _, _, _, ex3, rfl⟩, esa3, ebx3, ety3, ekp3⟩
  have XF3 := fun_mk (st := xt_NoMove) el3 eco3 ekf3
  have X4 : OexC K C4 := ⟨⟨_, _, _, _, _, _, _, _, _, _, _, _, _, _, _, ex4, rfl⟩, esa4, ebx4, ety4, ekp4⟩
  have XF4 := fun_mk (st := xt_NoTalk) el4 eco4 ekf4
  have X5 : OexC K C5 := ⟨⟨_, _, _, _, _, _, _, _, _, _, _, _, _, _, _, ex5, rfl⟩, esa5, ebx5, ety5, ekp5⟩
  have XF5 := fun_mk (st := xt_NoText) el5 eco5 ekf5
  have X6 : OexC K C6 := ⟨⟨_, _, _, _, _, _, _, _, _, _, _, _, _, _, _, ex6, rfl⟩, esa6, ebx6, ety6, ekp6⟩
  have XF6 := fun_mk (st := xt_TooLong) el6 eco6 ekf6
  have X7 : OexC K C7 := ⟨⟨_, _, _, _, _, _, _, _, _, _, _, _, _, _, _, ex7, rfl⟩, esa7, ebx7, ety7, ekp7⟩
  have XF7 := fun_mk (st := xt_TooMany) el7 eco7 ekf7
  have X8 : OexC K C8 := ⟨⟨_, _, _, _, _, _, _, _, _, _, _, _, _, _, _, ex8, rfl⟩, esa8, ebx8, ety8, ekp8⟩
  have XF8 := fun_mk (st := xt_NoRow) el8 eco8 ekf8
  have X9 : OexC K C9 := ⟨⟨_, _, _, _, _, _, _, _, _, _, _, _, _, _, _, ex9, rfl⟩, esa9, ebx9, ety9, ekp9⟩
  have XF9 := fun_mk (st := xt_NoLine) el9 eco9 ekf9
  have X10 : OexC K C10 := ⟨⟨_, _, _, _, _, _, _, _, _, _, _, _, _, _, _, ex10, rfl⟩, esa10, ebx10, ety10, ekp10⟩
  have XF10 := fun_mk (st := xt_NoLink) el10 eco10 ekf10
  have X11 : OexC K C11 := ⟨⟨_, _, _, _, _, _, _, _, _, _, _, _, _, _, _, ex11, rfl⟩, esa11, ebx11, ety11, ekp11⟩
  have XF11 := fun_mk (st := xt_NoPair) el11 eco11 ekf11
  have X12 : OexC K C12 := ⟨⟨_, _, _, _, _, _, _, _, _, _, _, _, _, _, _, ex12, rfl⟩, esa12, ebx12, ety12, ekp12⟩
  have XF12 := fun_mk (st := xt_NoPaper) el12 eco12 ekf12
  have X13 : OexC K C13 := ⟨⟨_, _, _, _, _, _, _, _, _, _, _, _, _, _, _, ex13, rfl⟩, esa13, ebx13, ety13, ekp13⟩
  have XF13 := fun_mk (st := xt_NoMoment) el13 eco13 ekf13
  have X14 : OexC K C14 := ⟨⟨_, _, _, _, _, _, _, _, _, _, _, _, _, _, _, ex14, rfl⟩, esa14, ebx14, ety14, ekp14⟩
  have XF14 := fun_mk (st := xt_NoSeam) el14 eco14 ekf14
  have X15 : OexC K C15 := ⟨⟨_, _, _, _, _, _, _, _, _, _, _, _, _, _, _, ex15, rfl⟩, esa15, ebx15, ety15, ekp15⟩
  have XF15 := fun_mk (st := xt_NoBack) el15 eco15 ekf15
  have X16 : OexC K C16 := ⟨⟨_, _, _, _, _, _, _, _, _, _, _, _, _, _, _, ex16, rfl⟩, esa16, ebx16, ety16, ekp16⟩
  have XF16 := fun_mk (st := xt_Dead) el16 eco16 ekf16
  have PO : PgOk (AA l.prog w K (fun i => ([some f0, some f1, some f2, some f3, some f4, some f5, some f6, some f7, some f8, some f9] : List (Option Addr)).getD i none) (fun i => ([some C0, some C1, some C2, some C3, some C4, some C5, some C6, some C7, some C8, some C9, some C10, some C11, some C12, some C13, some C14, some C15, some C16] : List (Option Addr)).getD i none)) l.prog w mg DD slT npT (fun i => ([PySem.W.fnOf "_law_pot" "_law_pot" (defArgs t0) (defBody t0) (defScope t0) .none kV0 dc0 pm0 an0 cd0 ct0, PySem.W.fnOf "_law_take" "_law_take" (defArgs t1) (defBody t1) (defScope t1) .none kV1 dc1 pm1 an1 cd1 ct1, PySem.W.fnOf "_law_of" "_law_of" (defArgs t2) (defBody t2) (defScope t2) .none kV2 dc2 pm2 an2 cd2 ct2, PySem.W.fnOf "_law_kinds" "_law_kinds" (defArgs t3) (defBody t3) (defScope t3) .none kV3 dc3 pm3 an3 cd3 ct3, PySem.W.fnOf "_law_any" "_law_any" (defArgs t4) (defBody t4) (defScope t4) .none kV4 dc4 pm4 an4 cd4 ct4, PySem.W.fnOf "_law_is_same" "_law_is_same" (defArgs t5) (defBody t5) (defScope t5) .none kV5 dc5 pm5 an5 cd5 ct5, PySem.W.fnOf "_law_of_place" "_law_of_place" (defArgs t6) (defBody t6) (defScope t6) .none kV6 dc6 pm6 an6 cd6 ct6, PySem.W.fnOf "_law_of_name" "_law_of_name" (defArgs t7) (defBody t7) (defScope t7) .none kV7 dc7 pm7 an7 cd7 ct7, PySem.W.fnOf "_law_values" "_law_values" (defArgs t8) (defBody t8) (defScope t8) .none kV8 dc8 pm8 an8 cd8 ct8, PySem.W.fnOf "law" "law" (defArgs t9) (defBody t9) (defScope t9) .none kV9 dc9 pm9 an9 cd9 ct9] : List FuncData).getD i (PySem.W.fnOf "law" "law" (defArgs t9) (defBody t9) (defScope t9) .none kV9 dc9 pm9 an9 cd9 ct9)) (fun i => ([[("_law_script" : Str), ("_law_k" : Str)], [("_law_pot_here" : Str), ("_law_upto" : Str)], [("_law_pot_here" : Str), ("_law_some" : Str)], [("_law_error" : Str)], [("_law_pot_here" : Str)], [("_law_told" : Str), ("_law_thing" : Str)], [("_law_things" : Str)], [("_law_things" : Str)], [("_law_errors" : Str)], [("_law_script" : Str)]] : List (List Str)).getD i []) := by
    refine ⟨glob_of gl, fun f a e => ?_, fun c m f h => ?_, fun c f h => ?_, rfl, rfl, fun c f h base => ?_, fun c d b h => ?_, fun f a e m ks pm h => ?_, fun c h base => ?_, ⟨fun c m f h => ?_, fun c f h => ?_⟩, fun f a e m j h => ?_⟩
    · match f, e with
      | 0, e => cases e; exact ⟨⟨_, _, t0, N0, F0.x, ⟨rfl, rfl, rfl, by decide +kernel, rfl, by decide +kernel, by decide +kernel⟩, rfl, rfl, fun Φ n X x C lv => w0 x C FO IA ID EO IQ⟩, fun _ => F0.binds fun _ _ _ _ _ _ us hl => by
        have h2 : us.length = 2 := hl
        obtain ⟨a0, a1, rfl⟩ := lsN2 h2
        exact rfl⟩
      | 1, e => cases e; exact ⟨⟨_, _, t1, N1, F1.x, ⟨rfl, rfl, rfl, by decide +kernel, rfl, by decide +kernel, by decide +kernel⟩, rfl, rfl, fun Φ n X x C lv => w1 x C FO IA ID EO IQ⟩, fun _ => F1.binds fun _ _ _ _ _ _ us hl => by
        have h2 : us.length = 2 := hl
        obtain ⟨a0, a1, rfl⟩ := lsN2 h2
        exact rfl⟩
      | 2, e => cases e; exact ⟨⟨_, _, t2, N2, F2.x, ⟨rfl, rfl, rfl, by decide +kernel, rfl, by decide +kernel, by decide +kernel⟩, rfl, rfl, fun Φ n X x C lv => w2 x C FO IA ID EO IQ⟩, fun _ => F2.binds fun _ _ _ _ _ _ us hl => by
        have h2 : us.length = 2 := hl
        obtain ⟨a0, a1, rfl⟩ := lsN2 h2
        exact rfl⟩
      | 3, e => cases e; exact ⟨⟨_, _, t3, N3, F3.x, ⟨rfl, rfl, rfl, by decide +kernel, rfl, by decide +kernel, by decide +kernel⟩, rfl, rfl, fun Φ n X x C lv => w3 x C FO IA ID EO IQ⟩, fun _ => F3.binds fun _ _ _ _ _ _ us hl => by
        have h2 : us.length = 1 := hl
        obtain ⟨a0, rfl⟩ := lsN1 h2
        exact rfl⟩
      | 4, e => cases e; exact ⟨⟨_, _, t4, N4, F4.x, ⟨rfl, rfl, rfl, by decide +kernel, rfl, by decide +kernel, by decide +kernel⟩, rfl, rfl, fun Φ n X x C lv => w4 x C FO IA ID EO IQ⟩, fun _ => F4.binds fun _ _ _ _ _ _ us hl => by
        have h2 : us.length = 1 := hl
        obtain ⟨a0, rfl⟩ := lsN1 h2
        exact rfl⟩
      | 5, e => cases e; exact ⟨⟨_, _, t5, N5, F5.x, ⟨rfl, rfl, rfl, by decide +kernel, rfl, by decide +kernel, by decide +kernel⟩, rfl, rfl, fun Φ n X x C lv => w5 x C FO IA ID EO IQ⟩, fun _ => F5.binds fun _ _ _ _ _ _ us hl => by
        have h2 : us.length = 2 := hl
        obtain ⟨a0, a1, rfl⟩ := lsN2 h2
        exact rfl⟩
      | 6, e => cases e; exact ⟨⟨_, _, t6, N6, F6.x, ⟨rfl, rfl, rfl, by decide +kernel, rfl, by decide +kernel, by decide +kernel⟩, rfl, rfl, fun Φ n X x C lv => w6 x C FO IA ID EO IQ⟩, fun _ => F6.binds fun _ _ _ _ _ _ us hl => by
        have h2 : us.length = 1 := hl
        obtain ⟨a0, rfl⟩ := lsN1 h2
        exact rfl⟩
      | 7, e => cases e; exact ⟨⟨_, _, t7, N7, F7.x, ⟨rfl, rfl, rfl, by decide +kernel, rfl, by decide +kernel, by decide +kernel⟩, rfl, rfl, fun Φ n X x C lv => w7 x C FO IA ID EO IQ⟩, fun _ => F7.binds fun _ _ _ _ _ _ us hl => by
        have h2 : us.length = 1 := hl
        obtain ⟨a0, rfl⟩ := lsN1 h2
        exact rfl⟩
      | 8, e => cases e; exact ⟨⟨_, _, t8, N8, F8.x, ⟨rfl, rfl, rfl, by decide +kernel, rfl, by decide +kernel, by decide +kernel⟩, rfl, rfl, fun Φ n X x C lv => w8 x C FO IA ID EO IQ⟩, fun _ => F8.binds fun _ _ _ _ _ _ us hl => by
        have h2 : us.length = 1 := hl
        obtain ⟨a0, rfl⟩ := lsN1 h2
        exact rfl⟩
      | 9, e => cases e; exact ⟨⟨_, _, t9, N9, F9.x, ⟨rfl, rfl, rfl, by decide +kernel, rfl, by decide +kernel, by decide +kernel⟩, rfl, rfl, fun Φ n X x C lv => w9 x C FO IA ID EO IQ⟩, fun _ => F9.binds fun _ _ _ _ _ _ us hl => by
        have h2 : us.length = 1 := hl
        obtain ⟨a0, rfl⟩ := lsN1 h2
        exact rfl⟩
      | n + 10, e => simp at e
    · have h : mtT c m = some f := h
      unfold mtT at h
      split at h
      · cases h
    · have h : iniT c = some f := h
      unfold iniT at h
      split at h
      · cases h
    · have h : exfT c = some f := h
      unfold exfT at h
      split at h
      · cases h; exact ⟨_, _, _, "field", rfl, X1, ein1, eit1, enf1, ex_ok XF1 ⟨rfl, rfl, rfl, by decide +kernel, rfl, by decide +kernel, by decide +kernel⟩ rfl (by decide +kernel) (.inl (by decide +kernel)) (.inl (by decide +kernel)) (PySem.W.mg_of X G aC0) KC (pl := _) (fun _ => rfl) (by decide) (by decide) base, XF1.binds fun _ _ _ _ _ _ us hl => match us, hl with | [_, _], _ => rfl, fun m ks pm h => by
          obtain ⟨rfl, rfl, rfl⟩ := kwx (c := 1) (m := m) (ks := ks) (pm := pm) (p := "field") rfl (show kwT (1000 + 1) m ks = some pm from h)
          exact fun s us ws _ h1 h2 => match us, ws, h1, h2 with | [_], [_], _, _ => .of_eq rfl⟩
      · cases h; exact ⟨_, _, _, "field", rfl, X2, ein2, eit2, enf2, ex_ok XF2 ⟨rfl, rfl, rfl, by decide +kernel, rfl, by decide +kernel, by decide +kernel⟩ rfl (by decide +kernel) (.inl (by decide +kernel)) (.inl (by decide +kernel)) (PySem.W.mg_of X G aC0) KC (pl := _) (fun _ => rfl) (by decide) (by decide) base, XF2.binds fun _ _ _ _ _ _ us hl => match us, hl with | [_, _], _ => rfl, fun m ks pm h => by
          obtain ⟨rfl, rfl, rfl⟩ := kwx (c := 2) (m := m) (ks := ks) (pm := pm) (p := "field") rfl (show kwT (1000 + 2) m ks = some pm from h)
          exact fun s us ws _ h1 h2 => match us, ws, h1, h2 with | [_], [_], _, _ => .of_eq rfl⟩
      · cases h; exact ⟨_, _, _, "move", rfl, X3, ein3, eit3, enf3, ex_ok XF3 ⟨rfl, rfl, rfl, by decide +kernel, rfl, by decide +kernel, by decide +kernel⟩ rfl (by decide +kernel) (.inl (by decide +kernel)) (.inl (by decide +kernel)) (PySem.W.mg_of X G aC0) KC (pl := _) (fun _ => rfl) (by decide) (by decide) base, XF3.binds fun _ _ _ _ _ _ us hl => match us, hl with | [_, _], _ => rfl, fun m ks pm h => by
          obtain ⟨rfl, rfl, rfl⟩ := kwx (c := 3) (m := m) (ks := ks) (pm := pm) (p := "move") rfl (show kwT (1000 + 3) m ks = some pm from h)
          exact fun s us ws _ h1 h2 => match us, ws, h1, h2 with | [_], [_], _, _ => .of_eq rfl⟩
      · cases h; exact ⟨_, _, _, "at", rfl, X4, ein4, eit4, enf4, ex_ok XF4 ⟨rfl, rfl, rfl, by decide +kernel, rfl, by decide +kernel, by decide +kernel⟩ rfl (by decide +kernel) (.inl (by decide +kernel)) (.inl (by decide +kernel)) (PySem.W.mg_of X G aC0) KC (pl := _) (fun _ => rfl) (by decide) (by decide) base, XF4.binds fun _ _ _ _ _ _ us hl => match us, hl with | [_, _], _ => rfl, fun m ks pm h => by
          obtain ⟨rfl, rfl, rfl⟩ := kwx (c := 4) (m := m) (ks := ks) (pm := pm) (p := "at") rfl (show kwT (1000 + 4) m ks = some pm from h)
          exact fun s us ws _ h1 h2 => match us, ws, h1, h2 with | [_], [_], _, _ => .of_eq rfl⟩
      · cases h; exact ⟨_, _, _, "row", rfl, X5, ein5, eit5, enf5, ex_ok XF5 ⟨rfl, rfl, rfl, by decide +kernel, rfl, by decide +kernel, by decide +kernel⟩ rfl (by decide +kernel) (.inl (by decide +kernel)) (.inl (by decide +kernel)) (PySem.W.mg_of X G aC0) KC (pl := _) (fun _ => rfl) (by decide) (by decide) base, XF5.binds fun _ _ _ _ _ _ us hl => match us, hl with | [_, _], _ => rfl, fun m ks pm h => by
          obtain ⟨rfl, rfl, rfl⟩ := kwx (c := 5) (m := m) (ks := ks) (pm := pm) (p := "row") rfl (show kwT (1000 + 5) m ks = some pm from h)
          exact fun s us ws _ h1 h2 => match us, ws, h1, h2 with | [_], [_], _, _ => .of_eq rfl⟩
      · cases h; exact ⟨_, _, _, "moves", rfl, X6, ein6, eit6, enf6, ex_ok XF6 ⟨rfl, rfl, rfl, by decide +kernel, rfl, by decide +kernel, by decide +kernel⟩ rfl (by decide +kernel) (.inl (by decide +kernel)) (.inl (by decide +kernel)) (PySem.W.mg_of X G aC0) KC (pl := _) (fun _ => rfl) (by decide) (by decide) base, XF6.binds fun _ _ _ _ _ _ us hl => match us, hl with | [_, _], _ => rfl, fun m ks pm h => by
          obtain ⟨rfl, rfl, rfl⟩ := kwx (c := 6) (m := m) (ks := ks) (pm := pm) (p := "moves") rfl (show kwT (1000 + 6) m ks = some pm from h)
          exact fun s us ws _ h1 h2 => match us, ws, h1, h2 with | [_], [_], _, _ => .of_eq rfl⟩
      · cases h; exact ⟨_, _, _, "many", rfl, X7, ein7, eit7, enf7, ex_ok XF7 ⟨rfl, rfl, rfl, by decide +kernel, rfl, by decide +kernel, by decide +kernel⟩ rfl (by decide +kernel) (.inl (by decide +kernel)) (.inl (by decide +kernel)) (PySem.W.mg_of X G aC0) KC (pl := _) (fun _ => rfl) (by decide) (by decide) base, XF7.binds fun _ _ _ _ _ _ us hl => match us, hl with | [_, _], _ => rfl, fun m ks pm h => by
          obtain ⟨rfl, rfl, rfl⟩ := kwx (c := 7) (m := m) (ks := ks) (pm := pm) (p := "many") rfl (show kwT (1000 + 7) m ks = some pm from h)
          exact fun s us ws _ h1 h2 => match us, ws, h1, h2 with | [_], [_], _, _ => .of_eq rfl⟩
      · cases h; exact ⟨_, _, _, "row", rfl, X8, ein8, eit8, enf8, ex_ok XF8 ⟨rfl, rfl, rfl, by decide +kernel, rfl, by decide +kernel, by decide +kernel⟩ rfl (by decide +kernel) (.inl (by decide +kernel)) (.inl (by decide +kernel)) (PySem.W.mg_of X G aC0) KC (pl := _) (fun _ => rfl) (by decide) (by decide) base, XF8.binds fun _ _ _ _ _ _ us hl => match us, hl with | [_, _], _ => rfl, fun m ks pm h => by
          obtain ⟨rfl, rfl, rfl⟩ := kwx (c := 8) (m := m) (ks := ks) (pm := pm) (p := "row") rfl (show kwT (1000 + 8) m ks = some pm from h)
          exact fun s us ws _ h1 h2 => match us, ws, h1, h2 with | [_], [_], _, _ => .of_eq rfl⟩
      · cases h; exact ⟨_, _, _, "line", rfl, X9, ein9, eit9, enf9, ex_ok XF9 ⟨rfl, rfl, rfl, by decide +kernel, rfl, by decide +kernel, by decide +kernel⟩ rfl (by decide +kernel) (.inl (by decide +kernel)) (.inl (by decide +kernel)) (PySem.W.mg_of X G aC0) KC (pl := _) (fun _ => rfl) (by decide) (by decide) base, XF9.binds fun _ _ _ _ _ _ us hl => match us, hl with | [_, _], _ => rfl, fun m ks pm h => by
          obtain ⟨rfl, rfl, rfl⟩ := kwx (c := 9) (m := m) (ks := ks) (pm := pm) (p := "line") rfl (show kwT (1000 + 9) m ks = some pm from h)
          exact fun s us ws _ h1 h2 => match us, ws, h1, h2 with | [_], [_], _, _ => .of_eq rfl⟩
      · cases h
    · have h : subT c d = some b := h
      unfold subT at h
      split at h
      · cases h; exact ⟨_, _, rfl, rfl, PySem.W.exm_ref dbx0 dhd0 dty0 sb1_0⟩
      · cases h; exact ⟨_, _, rfl, rfl, PySem.W.exm_ref dbx0 dhd0 dty0 sb2_0⟩
      · cases h; exact ⟨_, _, rfl, rfl, PySem.W.exm_ref dbx0 dhd0 dty0 sb3_0⟩
      · cases h; exact ⟨_, _, rfl, rfl, PySem.W.exm_ref dbx0 dhd0 dty0 sb4_0⟩
      · cases h; exact ⟨_, _, rfl, rfl, PySem.W.exm_ref dbx0 dhd0 dty0 sb5_0⟩
      · cases h; exact ⟨_, _, rfl, rfl, PySem.W.exm_ref dbx0 dhd0 dty0 sb6_0⟩
      · cases h; exact ⟨_, _, rfl, rfl, PySem.W.exm_ref dbx0 dhd0 dty0 sb7_0⟩
      · cases h; exact ⟨_, _, rfl, rfl, PySem.W.exm_ref dbx0 dhd0 dty0 sb8_0⟩
      · cases h; exact ⟨_, _, rfl, rfl, PySem.W.exm_ref dbx0 dhd0 dty0 sb9_0⟩
      · cases h; exact ⟨_, _, rfl, rfl, PySem.W.exm_ref dbx0 dhd0 dty0 sb10_0⟩
      · cases h; exact ⟨_, _, rfl, rfl, PySem.W.exm_ref dbx0 dhd0 dty0 sb11_0⟩
      · cases h; exact ⟨_, _, rfl, rfl, PySem.W.exm_ref dbx0 dhd0 dty0 sb12_0⟩
      · cases h; exact ⟨_, _, rfl, rfl, PySem.W.exm_ref dbx0 dhd0 dty0 sb13_0⟩
      · cases h; exact ⟨_, _, rfl, rfl, PySem.W.exm_ref dbx0 dhd0 dty0 sb14_0⟩
      · cases h; exact ⟨_, _, rfl, rfl, PySem.W.exm_ref dbx0 dhd0 dty0 sb15_0⟩
      · cases h; exact ⟨_, _, rfl, rfl, PySem.W.exm_ref dbx0 dhd0 dty0 sb16_0⟩
      · cases h
    · have h : kwT f m ks = some pm := h
      unfold kwT at h
      split at h
      · rename_i z
        have e2 : ([some f0, some f1, some f2, some f3, some f4, some f5, some f6, some f7, some f8, some f9] : List (Option Addr)).getD f none = some a := e
        rw [List.getD_eq_getElem?_getD, List.getElem?_eq_none (show 10 ≤ f by omega)] at e2
        cases e2
      cases h
    · have h : ex0T c = true := h
      unfold ex0T at h
      split at h
      · cases h; exact ⟨_, _, _, rfl, X10, ein10, eit10, ex_ok0 XF10 ⟨rfl, rfl, rfl, by decide +kernel, rfl, by decide +kernel, by decide +kernel⟩ rfl (by decide +kernel) (.inl (by decide +kernel)) (PySem.W.mg_of X G aC0) KC (pl := _) (fun _ => rfl) base, XF10.binds fun _ _ _ _ _ _ us hl => by
        have h2 : us.length = 1 := hl
        obtain ⟨a0, rfl⟩ := lsN1 h2
        exact rfl⟩
      · cases h; exact ⟨_, _, _, rfl, X11, ein11, eit11, ex_ok0 XF11 ⟨rfl, rfl, rfl, by decide +kernel, rfl, by decide +kernel, by decide +kernel⟩ rfl (by decide +kernel) (.inl (by decide +kernel)) (PySem.W.mg_of X G aC0) KC (pl := _) (fun _ => rfl) base, XF11.binds fun _ _ _ _ _ _ us hl => by
        have h2 : us.length = 1 := hl
        obtain ⟨a0, rfl⟩ := lsN1 h2
        exact rfl⟩
      · cases h; exact ⟨_, _, _, rfl, X12, ein12, eit12, ex_ok0 XF12 ⟨rfl, rfl, rfl, by decide +kernel, rfl, by decide +kernel, by decide +kernel⟩ rfl (by decide +kernel) (.inl (by decide +kernel)) (PySem.W.mg_of X G aC0) KC (pl := _) (fun _ => rfl) base, XF12.binds fun _ _ _ _ _ _ us hl => by
        have h2 : us.length = 1 := hl
        obtain ⟨a0, rfl⟩ := lsN1 h2
        exact rfl⟩
      · cases h; exact ⟨_, _, _, rfl, X13, ein13, eit13, ex_ok0 XF13 ⟨rfl, rfl, rfl, by decide +kernel, rfl, by decide +kernel, by decide +kernel⟩ rfl (by decide +kernel) (.inl (by decide +kernel)) (PySem.W.mg_of X G aC0) KC (pl := _) (fun _ => rfl) base, XF13.binds fun _ _ _ _ _ _ us hl => by
        have h2 : us.length = 1 := hl
        obtain ⟨a0, rfl⟩ := lsN1 h2
        exact rfl⟩
      · cases h; exact ⟨_, _, _, rfl, X14, ein14, eit14, ex_ok0 XF14 ⟨rfl, rfl, rfl, by decide +kernel, rfl, by decide +kernel, by decide +kernel⟩ rfl (by decide +kernel) (.inl (by decide +kernel)) (PySem.W.mg_of X G aC0) KC (pl := _) (fun _ => rfl) base, XF14.binds fun _ _ _ _ _ _ us hl => by
        have h2 : us.length = 1 := hl
        obtain ⟨a0, rfl⟩ := lsN1 h2
        exact rfl⟩
      · cases h; exact ⟨_, _, _, rfl, X15, ein15, eit15, ex_ok0 XF15 ⟨rfl, rfl, rfl, by decide +kernel, rfl, by decide +kernel, by decide +kernel⟩ rfl (by decide +kernel) (.inl (by decide +kernel)) (PySem.W.mg_of X G aC0) KC (pl := _) (fun _ => rfl) base, XF15.binds fun _ _ _ _ _ _ us hl => by
        have h2 : us.length = 1 := hl
        obtain ⟨a0, rfl⟩ := lsN1 h2
        exact rfl⟩
      · cases h; exact ⟨_, _, _, rfl, X16, ein16, eit16, ex_ok0 XF16 ⟨rfl, rfl, rfl, by decide +kernel, rfl, by decide +kernel, by decide +kernel⟩ rfl (by decide +kernel) (.inl (by decide +kernel)) (PySem.W.mg_of X G aC0) KC (pl := _) (fun _ => rfl) base, XF16.binds fun _ _ _ _ _ _ us hl => by
        have h2 : us.length = 1 := hl
        obtain ⟨a0, rfl⟩ := lsN1 h2
        exact rfl⟩
      · cases h
    · have h : mtT c m = some f := h
      unfold mtT at h
      split at h <;> first | (cases h; rfl) | cases h
    · have h : iniT c = some f := h
      unfold iniT at h
      split at h <;> first | (cases h; rfl) | cases h
    · have h : kwcT f m = some j := h
      unfold kwcT at h
      cases h
  refine ⟨PySem.W.fnOf "law" "law" (defArgs t9) (defBody t9) (defScope t9) .none kV9 dc9 pm9 an9 cd9 ct9, fun s v => .of_eq rfl, fun base _ _ => FnG.imp (sem_ok (base := base) PO 30 9 f9 rfl) (spL_of (G := (AA l.prog w K (fun i => ([some f0, some f1, some f2, some f3, some f4, some f5, some f6, some f7, some f8, some f9] : List (Option Addr)).getD i none) (fun i => ([some C0, some C1, some C2, some C3, some C4, some C5, some C6, some C7, some C8, some C9, some C10, some C11, some C12, some C13, some C14, some C15, some C16] : List (Option Addr)).getD i none)).toGx) plain)⟩
end KW.P
open PySem PySem.W PyProof.Rows
set_option maxRecDepth 100000 in
set_option maxHeartbeats 0 in
theorem PySem.Challenge.cw_knockamid_k50_refusals_by_their_classes_holds : PySem.Challenge.rw_knockamid_k50_refusals_by_their_classes.Holds := by
  w_on; o_law; k_head; (case hw => w_witness2)
  k_fill
  refine KW.walk (x := "_law_script") (k := 62) (l := PySem.Challenge.rw_knockamid_k50_refusals_by_their_classes) rfl rfl ⟨rfl, by decide, by decide⟩ (fun w h Y => PySem.W.kIn_of Y) ?F
  case F =>
    intro w mg fa h KX G hmg
    refine' KW.P.all_mk KX G hmg ?aC0 ?aC1 ?aC2 ?aC3 ?aC4 ?aC5 ?aC6 ?aC7 ?aC8 ?aC9 ?aC10 ?aC11 ?aC12 ?aC13 ?aC14 ?aC15 ?aC16 ?a0_0 ?l0 ?c0 ?k0 ?a1_0 ?l1 ?c1 ?k1 ?a2_0 ?l2 ?c2 ?k2 ?a3_0 ?l3 ?c3 ?k3 ?a4_0 ?l4 ?c4 ?k4 ?a5_0 ?l5 ?c5 ?k5 ?a6_0 ?l6 ?c6 ?k6 ?a7_0 ?l7 ?c7 ?k7 ?a8_0 ?l8 ?c8 ?k8 ?a9_0 ?l9 ?c9 ?k9 ?ex1 ?esa1 ?ebx1 ?ety1 ?ekp1 ?ein1 ?eit1 ?enf1 ?el1 ?eco1 ?ekf1 ?ex2 ?esa2 ?ebx2 ?ety2 ?ekp2 ?ein2 ?eit2 ?enf2 ?el2 ?eco2 ?ekf2 ?ex3 ?esa3 ?ebx3 ?ety3 ?ekp3 ?ein3 ?eit3 ?enf3 ?el3 ?eco3 ?ekf3 ?ex4 ?esa4 ?ebx4 ?ety4 ?ekp4 ?ein4 ?eit4 ?enf4 ?el4 ?eco4 ?ekf4 ?ex5 ?esa5 ?ebx5 ?ety5 ?ekp5 ?ein5 ?eit5 ?enf5 ?el5 ?eco5 ?ekf5 ?ex6 ?esa6 ?ebx6 ?ety6 ?ekp6 ?ein6 ?eit6 ?enf6 ?el6 ?eco6 ?ekf6 ?ex7 ?esa7 ?ebx7 ?ety7 ?ekp7 ?ein7 ?eit7 ?enf7 ?el7 ?eco7 ?ekf7 ?ex8 ?esa8 ?ebx8 ?ety8 ?ekp8 ?ein8 ?eit8 ?enf8 ?el8 ?eco8 ?ekf8 ?ex9 ?esa9 ?ebx9 ?ety9 ?ekp9 ?ein9 ?eit9 ?enf9 ?el9 ?eco9 ?ekf9 ?ex10 ?esa10 ?ebx10 ?ety10 ?ekp10 ?ein10 ?eit10 ?el10 ?eco10 ?ekf10 ?ex11 ?esa11 ?ebx11 ?ety11 ?ekp11 ?ein11 ?eit11 ?el11 ?eco11 ?ekf11 ?ex12 ?esa12 ?ebx12 ?ety12 ?ekp12 ?ein12 ?eit12 ?el12 ?eco12 ?ekf12 ?ex13 ?esa13 ?ebx13 ?ety13 ?ekp13 ?ein13 ?eit13 ?el13 ?eco13 ?ekf13 ?ex14 ?esa14 ?ebx14 ?ety14 ?ekp14 ?ein14 ?eit14 ?el14 ?eco14 ?ekf14 ?ex15 ?esa15 ?ebx15 ?ety15 ?ekp15 ?ein15 ?eit15 ?el15 ?eco15 ?ekf15 ?ex16 ?esa16 ?ebx16 ?ety16 ?ekp16 ?ein16 ?eit16 ?el16 ?eco16 ?ekf16 ?kga ?krd ?kfi ?dbx0 ?dhd0 ?dty0 ?sb1_0 ?sb2_0 ?sb3_0 ?sb4_0 ?sb5_0 ?sb6_0 ?sb7_0 ?sb8_0 ?sb9_0 ?sb10_0 ?sb11_0 ?sb12_0 ?sb13_0 ?sb14_0 ?sb15_0 ?sb16_0 ?idl ?qg1 ?qk1 ?qd1 ?qa1 ?qm1 ?qn1_0 ?qn1_1 ?qn1_2 ?qn1_3 ?qn1_4 ?qn1_5 ?qn1_6 ?qg2 ?qk2 ?qd2 ?qa2 ?qm2 ?qn2_0 ?qn2_1 ?qn2_2 ?qn2_3 ?qn2_4 ?qn2_5 ?qn2_6 ?qg3 ?qk3 ?qd3 ?qa3 ?qm3 ?qn3_0 ?qn3_1 ?qn3_2 ?qn3_3 ?qn3_4 ?qn3_5 ?qn3_6 ?qg4 ?qk4 ?qd4 ?qa4 ?qm4 ?qn4_0 ?qn4_1 ?qn4_2 ?qn4_3 ?qn4_4 ?qn4_5 ?qn4_6 ?qg5 ?qk5 ?qd5 ?qa5 ?qm5 ?qn5_0 ?qn5_1 ?qn5_2 ?qn5_3 ?qn5_4 ?qn5_5 ?qn5_6 ?qg6 ?qk6 ?qd6 ?qa6 ?qm6 ?qn6_0 ?qn6_1 ?qn6_2 ?qn6_3 ?qn6_4 ?qn6_5 ?qn6_6 ?qg7 ?qk7 ?qd7 ?qa7 ?qm7 ?qn7_0 ?qn7_1 ?qn7_2 ?qn7_3 ?qn7_4 ?qn7_5 ?qn7_6 ?qg8 ?qk8 ?qd8 ?qa8 ?qm8 ?qn8_0 ?qn8_1 ?qn8_2 ?qn8_3 ?qn8_4 ?qn8_5 ?qn8_6 ?qg9 ?qk9 ?qd9 ?qa9 ?qm9 ?qn9_0 ?qn9_1 ?qn9_2 ?qn9_3 ?qn9_4 ?qn9_5 ?qn9_6 ?qg10 ?qk10 ?qd10 ?qa10 ?qm10 ?qn10_0 ?qn10_1 ?qn10_2 ?qn10_3 ?qn10_4 ?qn10_5 ?qn10_6 ?qg11 ?qk11 ?qd11 ?qa11 ?qm11 ?qn11_0 ?qn11_1 ?qn11_2 ?qn11_3 ?qn11_4 ?qn11_5 ?qn11_6 ?qg12 ?qk12 ?qd12 ?qa12 ?qm12 ?qn12_0 ?qn12_1 ?qn12_2 ?qn12_3 ?qn12_4 ?qn12_5 ?qn12_6 ?qg13 ?qk13 ?qd13 ?qa13 ?qm13 ?qn13_0 ?qn13_1 ?qn13_2 ?qn13_3 ?qn13_4 ?qn13_5 ?qn13_6 ?qg14 ?qk14 ?qd14 ?qa14 ?qm14 ?qn14_0 ?qn14_1 ?qn14_2 ?qn14_3 ?qn14_4 ?qn14_5 ?qn14_6 ?qg15 ?qk15 ?qd15 ?qa15 ?qm15 ?qn15_0 ?qn15_1 ?qn15_2 ?qn15_3 ?qn15_4 ?qn15_5 ?qn15_6 ?qg16 ?qk16 ?qd16 ?qa16 ?qm16 ?qn16_0 ?qn16_1 ?qn16_2 ?qn16_3 ?qn16_4 ?qn16_5 ?qn16_6 ?ihn ?iht ?ki_q1_0 ?ki_q1_1 ?ki_q1_2 ?ki_q1_3 ?ki_q1_4 ?ki_q1_5 ?ki_q1_6 ?ki_q1_7 ?ki_q1_8 ?ki_q1_9 ?ki_q1_10 ?ki_q1_11 ?ki_q1_12 ?ki_q1_13 ?ki_q1_14 ?ki_q1_15 ?ki_q1_16 ?ki_q2_0 ?ki_q2_1 ?ki_q2_2 ?ki_q2_3 ?ki_q2_4 ?ki_q2_5 ?ki_q2_6 ?ki_q2_7 ?ki_q2_8 ?ki_q2_9 ?ki_q2_10 ?ki_q2_11 ?ki_q2_12 ?ki_q2_13 ?ki_q2_14 ?ki_q2_15 ?ki_q2_16 ?ki_q3_0 ?ki_q3_1 ?ki_q3_2 ?ki_q3_3 ?ki_q3_4 ?ki_q3_5 ?ki_q3_6 ?ki_q3_7 ?ki_q3_8 ?ki_q3_9 ?ki_q3_10 ?ki_q3_11 ?ki_q3_12 ?ki_q3_13 ?ki_q3_14 ?ki_q3_15 ?ki_q3_16 ?ki_q4_0 ?ki_q4_1 ?ki_q4_2 ?ki_q4_3 ?ki_q4_4 ?ki_q4_5 ?ki_q4_6 ?ki_q4_7 ?ki_q4_8 ?ki_q4_9 ?ki_q4_10 ?ki_q4_11 ?ki_q4_12 ?ki_q4_13 ?ki_q4_14 ?ki_q4_15 ?ki_q4_16 ?ki_q5_0 ?ki_q5_1 ?ki_q5_2 ?ki_q5_3 ?ki_q5_4 ?ki_q5_5 ?ki_q5_6 ?ki_q5_7 ?ki_q5_8 ?ki_q5_9 ?ki_q5_10 ?ki_q5_11 ?ki_q5_12 ?ki_q5_13 ?ki_q5_14 ?ki_q5_15 ?ki_q5_16 ?ki_q6_0 ?ki_q6_1 ?ki_q6_2 ?ki_q6_3 ?ki_q6_4 ?ki_q6_5 ?ki_q6_6 ?ki_q6_7 ?ki_q6_8 ?ki_q6_9 ?ki_q6_10 ?ki_q6_11 ?ki_q6_12 ?ki_q6_13 ?ki_q6_14 ?ki_q6_15 ?ki_q6_16 ?ki_q7_0 ?ki_q7_1 ?ki_q7_2 ?ki_q7_3 ?ki_q7_4 ?ki_q7_5 ?ki_q7_6 ?ki_q7_7 ?ki_q7_8 ?ki_q7_9 ?ki_q7_10 ?ki_q7_11 ?ki_q7_12 ?ki_q7_13 ?ki_q7_14 ?ki_q7_15 ?ki_q7_16 ?ki_q8_0 ?ki_q8_1 ?ki_q8_2 ?ki_q8_3 ?ki_q8_4 ?ki_q8_5 ?ki_q8_6 ?ki_q8_7 ?ki_q8_8 ?ki_q8_9 ?ki_q8_10 ?ki_q8_11 ?ki_q8_12 ?ki_q8_13 ?ki_q8_14 ?ki_q8_15 ?ki_q8_16 ?ki_q9_0 ?ki_q9_1 ?ki_q9_2 ?ki_q9_3 ?ki_q9_4 ?ki_q9_5 ?ki_q9_6 ?ki_q9_7 ?ki_q9_8 ?ki_q9_9 ?ki_q9_10 ?ki_q9_11 ?ki_q9_12 ?ki_q9_13 ?ki_q9_14 ?ki_q9_15 ?ki_q9_16 ?ki_q10_0 ?ki_q10_1 ?ki_q10_2 ?ki_q10_3 ?ki_q10_4 ?ki_q10_5 ?ki_q10_6 ?ki_q10_7 ?ki_q10_8 ?ki_q10_9 ?ki_q10_10 ?ki_q10_11 ?ki_q10_12 ?ki_q10_13 ?ki_q10_14 ?ki_q10_15 ?ki_q10_16 ?ki_q11_0 ?ki_q11_1 ?ki_q11_2 ?ki_q11_3 ?ki_q11_4 ?ki_q11_5 ?ki_q11_6 ?ki_q11_7 ?ki_q11_8 ?ki_q11_9 ?ki_q11_10 ?ki_q11_11 ?ki_q11_12 ?ki_q11_13 ?ki_q11_14 ?ki_q11_15 ?ki_q11_16 ?ki_q12_0 ?ki_q12_1 ?ki_q12_2 ?ki_q12_3 ?ki_q12_4 ?ki_q12_5 ?ki_q12_6 ?ki_q12_7 ?ki_q12_8 ?ki_q12_9 ?ki_q12_10 ?ki_q12_11 ?ki_q12_12 ?ki_q12_13 ?ki_q12_14 ?ki_q12_15 ?ki_q12_16 ?ki_q13_0 ?ki_q13_1 ?ki_q13_2 ?ki_q13_3 ?ki_q13_4 ?ki_q13_5 ?ki_q13_6 ?ki_q13_7 ?ki_q13_8 ?ki_q13_9 ?ki_q13_10 ?ki_q13_11 ?ki_q13_12 ?ki_q13_13 ?ki_q13_14 ?ki_q13_15 ?ki_q13_16 ?ki_q14_0 ?ki_q14_1 ?ki_q14_2 ?ki_q14_3 ?ki_q14_4 ?ki_q14_5 ?ki_q14_6 ?ki_q14_7 ?ki_q14_8 ?ki_q14_9 ?ki_q14_10 ?ki_q14_11 ?ki_q14_12 ?ki_q14_13 ?ki_q14_14 ?ki_q14_15 ?ki_q14_16 ?ki_q15_0 ?ki_q15_1 ?ki_q15_2 ?ki_q15_3 ?ki_q15_4 ?ki_q15_5 ?ki_q15_6 ?ki_q15_7 ?ki_q15_8 ?ki_q15_9 ?ki_q15_10 ?ki_q15_11 ?ki_q15_12 ?ki_q15_13 ?ki_q15_14 ?ki_q15_15 ?ki_q15_16 ?ki_q16_0 ?ki_q16_1 ?ki_q16_2 ?ki_q16_3 ?ki_q16_4 ?ki_q16_5 ?ki_q16_6 ?ki_q16_7 ?ki_q16_8 ?ki_q16_9 ?ki_q16_10 ?ki_q16_11 ?ki_q16_12 ?ki_q16_13 ?ki_q16_14 ?ki_q16_15 ?ki_q16_16 ?ki_q1_ValueError ?ki_q2_ValueError ?ki_q3_ValueError ?ki_q4_ValueError ?ki_q5_ValueError ?ki_q6_ValueError ?ki_q7_ValueError ?ki_q8_ValueError ?ki_q9_ValueError ?ki_q10_ValueError ?ki_q11_ValueError ?ki_q12_ValueError ?ki_q13_ValueError ?ki_q14_ValueError ?ki_q15_ValueError ?ki_q16_ValueError ?z0 ?z1 ?z2 ?z3 ?z4 ?z5 ?z6 ?z7 ?z8 ?z9 ?z10 ?z11 ?z12
    (case aC0 => k_is)
    (case aC1 => k_is)
    (case aC2 => k_is)
    (case aC3 => k_is)
    (case aC4 => k_is)
    (case aC5 => k_is)
    (case aC6 => k_is)
    (case aC7 => k_is)
    (case aC8 => k_is)
    (case aC9 => k_is)
    (case aC10 => k_is)
    (case aC11 => k_is)
    (case aC12 => k_is)
    (case aC13 => k_is)
    (case aC14 => k_is)
    (case aC15 => k_is)
    (case aC16 => k_is)
    (case a0_0 => k_is)
    (case l0 => k_is)
    (case c0 => k_is)
    (case k0 => k_is)
    (case a1_0 => k_is)
    (case l1 => k_is)
    (case c1 => k_is)
    (case k1 => k_is)
    (case a2_0 => k_is)
    (case l2 => k_is)
    (case c2 => k_is)
    (case k2 => k_is)
    (case a3_0 => k_is)
    (case l3 => k_is)
    (case c3 => k_is)
    (case k3 => k_is)
    (case a4_0 => k_is)
    (case l4 => k_is)
    (case c4 => k_is)
    (case k4 => k_is)
    (case a5_0 => k_is)
    (case l5 => k_is)
    (case c5 => k_is)
    (case k5 => k_is)
    (case a6_0 => k_is)
    (case l6 => k_is)
    (case c6 => k_is)
    (case k6 => k_is)
    (case a7_0 => k_is)
    (case l7 => k_is)
    (case c7 => k_is)
    (case k7 => k_is)
    (case a8_0 => k_is)
    (case l8 => k_is)
    (case c8 => k_is)
    (case k8 => k_is)
    (case a9_0 => k_is)
    (case l9 => k_is)
    (case c9 => k_is)
    (case k9 => k_is)
    (case ex1 => k_is)
    (case esa1 => k_is)
    (case ebx1 => k_is)
    (case ety1 => k_is)
    (case ekp1 => k_is)
    (case ein1 => k_is)
    (case eit1 => k_is)
    (case enf1 => k_is)
    (case el1 => k_is)
    (case eco1 => k_is)
    (case ekf1 => k_is)
    (case ex2 => k_is)
    (case esa2 => k_is)
    (case ebx2 => k_is)
    (case ety2 => k_is)
    (case ekp2 => k_is)
    (case ein2 => k_is)
    (case eit2 => k_is)
    (case enf2 => k_is)
    (case el2 => k_is)
    (case eco2 => k_is)
    (case ekf2 => k_is)
    (case ex3 => k_is)
    (case esa3 => k_is)
    (case ebx3 => k_is)
    (case ety3 => k_is)
    (case ekp3 => k_is)
    (case ein3 => k_is)
    (case eit3 => k_is)
    (case enf3 => k_is)
    (case el3 => k_is)
    (case eco3 => k_is)
    (case ekf3 => k_is)
    (case ex4 => k_is)
    (case esa4 => k_is)
    (case ebx4 => k_is)
    (case ety4 => k_is)
    (case ekp4 => k_is)
    (case ein4 => k_is)
    (case eit4 => k_is)
    (case enf4 => k_is)
    (case el4 => k_is)
    (case eco4 => k_is)
    (case ekf4 => k_is)
    (case ex5 => k_is)
    (case esa5 => k_is)
    (case ebx5 => k_is)
    (case ety5 => k_is)
    (case ekp5 => k_is)
    (case ein5 => k_is)
    (case eit5 => k_is)
    (case enf5 => k_is)
    (case el5 => k_is)
    (case eco5 => k_is)
    (case ekf5 => k_is)
    (case ex6 => k_is)
    (case esa6 => k_is)
    (case ebx6 => k_is)
    (case ety6 => k_is)
    (case ekp6 => k_is)
    (case ein6 => k_is)
    (case eit6 => k_is)
    (case enf6 => k_is)
    (case el6 => k_is)
    (case eco6 => k_is)
    (case ekf6 => k_is)
    (case ex7 => k_is)
    (case esa7 => k_is)
    (case ebx7 => k_is)
    (case ety7 => k_is)
    (case ekp7 => k_is)
    (case ein7 => k_is)
    (case eit7 => k_is)
    (case enf7 => k_is)
    (case el7 => k_is)
    (case eco7 => k_is)
    (case ekf7 => k_is)
    (case ex8 => k_is)
    (case esa8 => k_is)
    (case ebx8 => k_is)
    (case ety8 => k_is)
    (case ekp8 => k_is)
    (case ein8 => k_is)
    (case eit8 => k_is)
    (case enf8 => k_is)
    (case el8 => k_is)
    (case eco8 => k_is)
    (case ekf8 => k_is)
    (case ex9 => k_is)
    (case esa9 => k_is)
    (case ebx9 => k_is)
    (case ety9 => k_is)
    (case ekp9 => k_is)
    (case ein9 => k_is)
    (case eit9 => k_is)
    (case enf9 => k_is)
    (case el9 => k_is)
    (case eco9 => k_is)
    (case ekf9 => k_is)
    (case ex10 => k_is)
    (case esa10 => k_is)
    (case ebx10 => k_is)
    (case ety10 => k_is)
    (case ekp10 => k_is)
    (case ein10 => k_is)
    (case eit10 => k_is)
    (case el10 => k_is)
    (case eco10 => k_is)
    (case ekf10 => k_is)
    (case ex11 => k_is)
    (case esa11 => k_is)
    (case ebx11 => k_is)
    (case ety11 => k_is)
    (case ekp11 => k_is)
    (case ein11 => k_is)
    (case eit11 => k_is)
    (case el11 => k_is)
    (case eco11 => k_is)
    (case ekf11 => k_is)
    (case ex12 => k_is)
    (case esa12 => k_is)
    (case ebx12 => k_is)
    (case ety12 => k_is)
    (case ekp12 => k_is)
    (case ein12 => k_is)
    (case eit12 => k_is)
    (case el12 => k_is)
    (case eco12 => k_is)
    (case ekf12 => k_is)
    (case ex13 => k_is)
    (case esa13 => k_is)
    (case ebx13 => k_is)
    (case ety13 => k_is)
    (case ekp13 => k_is)
    (case ein13 => k_is)
    (case eit13 => k_is)
    (case el13 => k_is)
    (case eco13 => k_is)
    (case ekf13 => k_is)
    (case ex14 => k_is)
    (case esa14 => k_is)
    (case ebx14 => k_is)
    (case ety14 => k_is)
    (case ekp14 => k_is)
    (case ein14 => k_is)
    (case eit14 => k_is)
    (case el14 => k_is)
    (case eco14 => k_is)
    (case ekf14 => k_is)
    (case ex15 => k_is)
    (case esa15 => k_is)
    (case ebx15 => k_is)
    (case ety15 => k_is)
    (case ekp15 => k_is)
    (case ein15 => k_is)
    (case eit15 => k_is)
    (case el15 => k_is)
    (case eco15 => k_is)
    (case ekf15 => k_is)
    (case ex16 => k_is)
    (case esa16 => k_is)
    (case ebx16 => k_is)
    (case ety16 => k_is)
    (case ekp16 => k_is)
    (case ein16 => k_is)
    (case eit16 => k_is)
    (case el16 => k_is)
    (case eco16 => k_is)
    (case ekf16 => k_is)
    (case kga => k_is)
    (case krd => k_is)
    (case kfi => k_is)
    (case dbx0 => k_is)
    (case dhd0 => k_is)
    (case dty0 => k_is)
    (case sb1_0 => k_is)
    (case sb2_0 => k_is)
    (case sb3_0 => k_is)
    (case sb4_0 => k_is)
    (case sb5_0 => k_is)
    (case sb6_0 => k_is)
    (case sb7_0 => k_is)
    (case sb8_0 => k_is)
    (case sb9_0 => k_is)
    (case sb10_0 => k_is)
    (case sb11_0 => k_is)
    (case sb12_0 => k_is)
    (case sb13_0 => k_is)
    (case sb14_0 => k_is)
    (case sb15_0 => k_is)
    (case sb16_0 => k_is)
    (case idl => k_is)
    (case qg1 => k_is)
    (case qk1 => k_is)
    (case qd1 => k_is)
    (case qa1 => k_is)
    (case qm1 => k_is)
    (case qn1_0 => k_is)
    (case qn1_1 => k_is)
    (case qn1_2 => k_is)
    (case qn1_3 => k_is)
    (case qn1_4 => k_is)
    (case qn1_5 => k_is)
    (case qn1_6 => k_is)
    (case qg2 => k_is)
    (case qk2 => k_is)
    (case qd2 => k_is)
    (case qa2 => k_is)
    (case qm2 => k_is)
    (case qn2_0 => k_is)
    (case qn2_1 => k_is)
    (case qn2_2 => k_is)
    (case qn2_3 => k_is)
    (case qn2_4 => k_is)
    (case qn2_5 => k_is)
    (case qn2_6 => k_is)
    (case qg3 => k_is)
    (case qk3 => k_is)
    (case qd3 => k_is)
    (case qa3 => k_is)
    (case qm3 => k_is)
    (case qn3_0 => k_is)
    (case qn3_1 => k_is)
    (case qn3_2 => k_is)
    (case qn3_3 => k_is)
    (case qn3_4 => k_is)
    (case qn3_5 => k_is)
    (case qn3_6 => k_is)
    (case qg4 => k_is)
    (case qk4 => k_is)
    (case qd4 => k_is)
    (case qa4 => k_is)
    (case qm4 => k_is)
    (case qn4_0 => k_is)
    (case qn4_1 => k_is)
    (case qn4_2 => k_is)
    (case qn4_3 => k_is)
    (case qn4_4 => k_is)
    (case qn4_5 => k_is)
    (case qn4_6 => k_is)
    (case qg5 => k_is)
    (case qk5 => k_is)
    (case qd5 => k_is)
    (case qa5 => k_is)
    (case qm5 => k_is)
    (case qn5_0 => k_is)
    (case qn5_1 => k_is)
    (case qn5_2 => k_is)
    (case qn5_3 => k_is)
    (case qn5_4 => k_is)
    (case qn5_5 => k_is)
    (case qn5_6 => k_is)
    (case qg6 => k_is)
    (case qk6 => k_is)
    (case qd6 => k_is)
    (case qa6 => k_is)
    (case qm6 => k_is)
    (case qn6_0 => k_is)
    (case qn6_1 => k_is)
    (case qn6_2 => k_is)
    (case qn6_3 => k_is)
    (case qn6_4 => k_is)
    (case qn6_5 => k_is)
    (case qn6_6 => k_is)
    (case qg7 => k_is)
    (case qk7 => k_is)
    (case qd7 => k_is)
    (case qa7 => k_is)
    (case qm7 => k_is)
    (case qn7_0 => k_is)
    (case qn7_1 => k_is)
    (case qn7_2 => k_is)
    (case qn7_3 => k_is)
    (case qn7_4 => k_is)
    (case qn7_5 => k_is)
    (case qn7_6 => k_is)
    (case qg8 => k_is)
    (case qk8 => k_is)
    (case qd8 => k_is)
    (case qa8 => k_is)
    (case qm8 => k_is)
    (case qn8_0 => k_is)
    (case qn8_1 => k_is)
    (case qn8_2 => k_is)
    (case qn8_3 => k_is)
    (case qn8_4 => k_is)
    (case qn8_5 => k_is)
    (case qn8_6 => k_is)
    (case qg9 => k_is)
    (case qk9 => k_is)
    (case qd9 => k_is)
    (case qa9 => k_is)
    (case qm9 => k_is)
    (case qn9_0 => k_is)
    (case qn9_1 => k_is)
    (case qn9_2 => k_is)
    (case qn9_3 => k_is)
    (case qn9_4 => k_is)
    (case qn9_5 => k_is)
    (case qn9_6 => k_is)
    (case qg10 => k_is)
    (case qk10 => k_is)
    (case qd10 => k_is)
    (case qa10 => k_is)
    (case qm10 => k_is)
    (case qn10_0 => k_is)
    (case qn10_1 => k_is)
    (case qn10_2 => k_is)
    (case qn10_3 => k_is)
    (case qn10_4 => k_is)
    (case qn10_5 => k_is)
    (case qn10_6 => k_is)
    (case qg11 => k_is)
    (case qk11 => k_is)
    (case qd11 => k_is)
    (case qa11 => k_is)
    (case qm11 => k_is)
    (case qn11_0 => k_is)
    (case qn11_1 => k_is)
    (case qn11_2 => k_is)
    (case qn11_3 => k_is)
    (case qn11_4 => k_is)
    (case qn11_5 => k_is)
    (case qn11_6 => k_is)
    (case qg12 => k_is)
    (case qk12 => k_is)
    (case qd12 => k_is)
    (case qa12 => k_is)
    (case qm12 => k_is)
    (case qn12_0 => k_is)
    (case qn12_1 => k_is)
    (case qn12_2 => k_is)
    (case qn12_3 => k_is)
    (case qn12_4 => k_is)
    (case qn12_5 => k_is)
    (case qn12_6 => k_is)
    (case qg13 => k_is)
    (case qk13 => k_is)
    (case qd13 => k_is)
    (case qa13 => k_is)
    (case qm13 => k_is)
    (case qn13_0 => k_is)
    (case qn13_1 => k_is)
    (case qn13_2 => k_is)
    (case qn13_3 => k_is)
    (case qn13_4 => k_is)
    (case qn13_5 => k_is)
    (case qn13_6 => k_is)
    (case qg14 => k_is)
    (case qk14 => k_is)
    (case qd14 => k_is)
    (case qa14 => k_is)
    (case qm14 => k_is)
    (case qn14_0 => k_is)
    (case qn14_1 => k_is)
    (case qn14_2 => k_is)
    (case qn14_3 => k_is)
    (case qn14_4 => k_is)
    (case qn14_5 => k_is)
    (case qn14_6 => k_is)
    (case qg15 => k_is)
    (case qk15 => k_is)
    (case qd15 => k_is)
    (case qa15 => k_is)
    (case qm15 => k_is)
    (case qn15_0 => k_is)
    (case qn15_1 => k_is)
    (case qn15_2 => k_is)
    (case qn15_3 => k_is)
    (case qn15_4 => k_is)
    (case qn15_5 => k_is)
    (case qn15_6 => k_is)
    (case qg16 => k_is)
    (case qk16 => k_is)
    (case qd16 => k_is)
    (case qa16 => k_is)
    (case qm16 => k_is)
    (case qn16_0 => k_is)
    (case qn16_1 => k_is)
    (case qn16_2 => k_is)
    (case qn16_3 => k_is)
    (case qn16_4 => k_is)
    (case qn16_5 => k_is)
    (case qn16_6 => k_is)
    (case ihn => k_is)
    (case iht => k_is)
    (case ki_q1_0 => kit_is)
    (case ki_q1_1 => kit_is)
    (case ki_q1_2 => kit_is)
    (case ki_q1_3 => kit_is)
    (case ki_q1_4 => kit_is)
    (case ki_q1_5 => kit_is)
    (case ki_q1_6 => kit_is)
    (case ki_q1_7 => kit_is)
    (case ki_q1_8 => kit_is)
    (case ki_q1_9 => kit_is)
    (case ki_q1_10 => kit_is)
    (case ki_q1_11 => kit_is)
    (case ki_q1_12 => kit_is)
    (case ki_q1_13 => kit_is)
    (case ki_q1_14 => kit_is)
    (case ki_q1_15 => kit_is)
    (case ki_q1_16 => kit_is)
    (case ki_q2_0 => kit_is)
    (case ki_q2_1 => kit_is)
    (case ki_q2_2 => kit_is)
    (case ki_q2_3 => kit_is)
    (case ki_q2_4 => kit_is)
    (case ki_q2_5 => kit_is)
    (case ki_q2_6 => kit_is)
    (case ki_q2_7 => kit_is)
    (case ki_q2_8 => kit_is)
    (case ki_q2_9 => kit_is)
    (case ki_q2_10 => kit_is)
    (case ki_q2_11 => kit_is)
    (case ki_q2_12 => kit_is)
    (case ki_q2_13 => kit_is)
    (case ki_q2_14 => kit_is)
    (case ki_q2_15 => kit_is)
    (case ki_q2_16 => kit_is)
    (case ki_q3_0 => kit_is)
    (case ki_q3_1 => kit_is)
    (case ki_q3_2 => kit_is)
    (case ki_q3_3 => kit_is)
    (case ki_q3_4 => kit_is)
    (case ki_q3_5 => kit_is)
    (case ki_q3_6 => kit_is)
    (case ki_q3_7 => kit_is)
    (case ki_q3_8 => kit_is)
    (case ki_q3_9 => kit_is)
    (case ki_q3_10 => kit_is)
    (case ki_q3_11 => kit_is)
    (case ki_q3_12 => kit_is)
    (case ki_q3_13 => kit_is)
    (case ki_q3_14 => kit_is)
    (case ki_q3_15 => kit_is)
    (case ki_q3_16 => kit_is)
    (case ki_q4_0 => kit_is)
    (case ki_q4_1 => kit_is)
    (case ki_q4_2 => kit_is)
    (case ki_q4_3 => kit_is)
    (case ki_q4_4 => kit_is)
    (case ki_q4_5 => kit_is)
    (case ki_q4_6 => kit_is)
    (case ki_q4_7 => kit_is)
    (case ki_q4_8 => kit_is)
    (case ki_q4_9 => kit_is)
    (case ki_q4_10 => kit_is)
    (case ki_q4_11 => kit_is)
    (case ki_q4_12 => kit_is)
    (case ki_q4_13 => kit_is)
    (case ki_q4_14 => kit_is)
    (case ki_q4_15 => kit_is)
    (case ki_q4_16 => kit_is)
    (case ki_q5_0 => kit_is)
    (case ki_q5_1 => kit_is)
    (case ki_q5_2 => kit_is)
    (case ki_q5_3 => kit_is)
    (case ki_q5_4 => kit_is)
    (case ki_q5_5 => kit_is)
    (case ki_q5_6 => kit_is)
    (case ki_q5_7 => kit_is)
    (case ki_q5_8 => kit_is)
    (case ki_q5_9 => kit_is)
    (case ki_q5_10 => kit_is)
    (case ki_q5_11 => kit_is)
    (case ki_q5_12 => kit_is)
    (case ki_q5_13 => kit_is)
    (case ki_q5_14 => kit_is)
    (case ki_q5_15 => kit_is)
    (case ki_q5_16 => kit_is)
    (case ki_q6_0 => kit_is)
    (case ki_q6_1 => kit_is)
    (case ki_q6_2 => kit_is)
    (case ki_q6_3 => kit_is)
    (case ki_q6_4 => kit_is)
    (case ki_q6_5 => kit_is)
    (case ki_q6_6 => kit_is)
    (case ki_q6_7 => kit_is)
    (case ki_q6_8 => kit_is)
    (case ki_q6_9 => kit_is)
    (case ki_q6_10 => kit_is)
    (case ki_q6_11 => kit_is)
    (case ki_q6_12 => kit_is)
    (case ki_q6_13 => kit_is)
    (case ki_q6_14 => kit_is)
    (case ki_q6_15 => kit_is)
    (case ki_q6_16 => kit_is)
    (case ki_q7_0 => kit_is)
    (case ki_q7_1 => kit_is)
    (case ki_q7_2 => kit_is)
    (case ki_q7_3 => kit_is)
    (case ki_q7_4 => kit_is)
    (case ki_q7_5 => kit_is)
    (case ki_q7_6 => kit_is)
    (case ki_q7_7 => kit_is)
    (case ki_q7_8 => kit_is)
    (case ki_q7_9 => kit_is)
    (case ki_q7_10 => kit_is)
    (case ki_q7_11 => kit_is)
    (case ki_q7_12 => kit_is)
    (case ki_q7_13 => kit_is)
    (case ki_q7_14 => kit_is)
    (case ki_q7_15 => kit_is)
    (case ki_q7_16 => kit_is)
    (case ki_q8_0 => kit_is)
    (case ki_q8_1 => kit_is)
    (case ki_q8_2 => kit_is)
    (case ki_q8_3 => kit_is)
    (case ki_q8_4 => kit_is)
    (case ki_q8_5 => kit_is)
    (case ki_q8_6 => kit_is)
    (case ki_q8_7 => kit_is)
    (case ki_q8_8 => kit_is)
    (case ki_q8_9 => kit_is)
    (case ki_q8_10 => kit_is)
    (case ki_q8_11 => kit_is)
    (case ki_q8_12 => kit_is)
    (case ki_q8_13 => kit_is)
    (case ki_q8_14 => kit_is)
    (case ki_q8_15 => kit_is)
    (case ki_q8_16 => kit_is)
    (case ki_q9_0 => kit_is)
    (case ki_q9_1 => kit_is)
    (case ki_q9_2 => kit_is)
    (case ki_q9_3 => kit_is)
    (case ki_q9_4 => kit_is)
    (case ki_q9_5 => kit_is)
    (case ki_q9_6 => kit_is)
    (case ki_q9_7 => kit_is)
    (case ki_q9_8 => kit_is)
    (case ki_q9_9 => kit_is)
    (case ki_q9_10 => kit_is)
    (case ki_q9_11 => kit_is)
    (case ki_q9_12 => kit_is)
    (case ki_q9_13 => kit_is)
    (case ki_q9_14 => kit_is)
    (case ki_q9_15 => kit_is)
    (case ki_q9_16 => kit_is)
    (case ki_q10_0 => kit_is)
    (case ki_q10_1 => kit_is)
    (case ki_q10_2 => kit_is)
    (case ki_q10_3 => kit_is)
    (case ki_q10_4 => kit_is)
    (case ki_q10_5 => kit_is)
    (case ki_q10_6 => kit_is)
    (case ki_q10_7 => kit_is)
    (case ki_q10_8 => kit_is)
    (case ki_q10_9 => kit_is)
    (case ki_q10_10 => kit_is)
    (case ki_q10_11 => kit_is)
    (case ki_q10_12 => kit_is)
    (case ki_q10_13 => kit_is)
    (case ki_q10_14 => kit_is)
    (case ki_q10_15 => kit_is)
    (case ki_q10_16 => kit_is)
    (case ki_q11_0 => kit_is)
    (case ki_q11_1 => kit_is)
    (case ki_q11_2 => kit_is)
    (case ki_q11_3 => kit_is)
    (case ki_q11_4 => kit_is)
    (case ki_q11_5 => kit_is)
    (case ki_q11_6 => kit_is)
    (case ki_q11_7 => kit_is)
    (case ki_q11_8 => kit_is)
    (case ki_q11_9 => kit_is)
    (case ki_q11_10 => kit_is)
    (case ki_q11_11 => kit_is)
    (case ki_q11_12 => kit_is)
    (case ki_q11_13 => kit_is)
    (case ki_q11_14 => kit_is)
    (case ki_q11_15 => kit_is)
    (case ki_q11_16 => kit_is)
    (case ki_q12_0 => kit_is)
    (case ki_q12_1 => kit_is)
    (case ki_q12_2 => kit_is)
    (case ki_q12_3 => kit_is)
    (case ki_q12_4 => kit_is)
    (case ki_q12_5 => kit_is)
    (case ki_q12_6 => kit_is)
    (case ki_q12_7 => kit_is)
    (case ki_q12_8 => kit_is)
    (case ki_q12_9 => kit_is)
    (case ki_q12_10 => kit_is)
    (case ki_q12_11 => kit_is)
    (case ki_q12_12 => kit_is)
    (case ki_q12_13 => kit_is)
    (case ki_q12_14 => kit_is)
    (case ki_q12_15 => kit_is)
    (case ki_q12_16 => kit_is)
    (case ki_q13_0 => kit_is)
    (case ki_q13_1 => kit_is)
    (case ki_q13_2 => kit_is)
    (case ki_q13_3 => kit_is)
    (case ki_q13_4 => kit_is)
    (case ki_q13_5 => kit_is)
    (case ki_q13_6 => kit_is)
    (case ki_q13_7 => kit_is)
    (case ki_q13_8 => kit_is)
    (case ki_q13_9 => kit_is)
    (case ki_q13_10 => kit_is)
    (case ki_q13_11 => kit_is)
    (case ki_q13_12 => kit_is)
    (case ki_q13_13 => kit_is)
    (case ki_q13_14 => kit_is)
    (case ki_q13_15 => kit_is)
    (case ki_q13_16 => kit_is)
    (case ki_q14_0 => kit_is)
    (case ki_q14_1 => kit_is)
    (case ki_q14_2 => kit_is)
    (case ki_q14_3 => kit_is)
    (case ki_q14_4 => kit_is)
    (case ki_q14_5 => kit_is)
    (case ki_q14_6 => kit_is)
    (case ki_q14_7 => kit_is)
    (case ki_q14_8 => kit_is)
    (case ki_q14_9 => kit_is)
    (case ki_q14_10 => kit_is)
    (case ki_q14_11 => kit_is)
    (case ki_q14_12 => kit_is)
    (case ki_q14_13 => kit_is)
    (case ki_q14_14 => kit_is)
    (case ki_q14_15 => kit_is)
    (case ki_q14_16 => kit_is)
    (case ki_q15_0 => kit_is)
    (case ki_q15_1 => kit_is)
    (case ki_q15_2 => kit_is)
    (case ki_q15_3 => kit_is)
    (case ki_q15_4 => kit_is)
    (case ki_q15_5 => kit_is)
    (case ki_q15_6 => kit_is)
    (case ki_q15_7 => kit_is)
    (case ki_q15_8 => kit_is)
    (case ki_q15_9 => kit_is)
    (case ki_q15_10 => kit_is)
    (case ki_q15_11 => kit_is)
    (case ki_q15_12 => kit_is)
    (case ki_q15_13 => kit_is)
    (case ki_q15_14 => kit_is)
    (case ki_q15_15 => kit_is)
    (case ki_q15_16 => kit_is)
    (case ki_q16_0 => kit_is)
    (case ki_q16_1 => kit_is)
    (case ki_q16_2 => kit_is)
    (case ki_q16_3 => kit_is)
    (case ki_q16_4 => kit_is)
    (case ki_q16_5 => kit_is)
    (case ki_q16_6 => kit_is)
    (case ki_q16_7 => kit_is)
    (case ki_q16_8 => kit_is)
    (case ki_q16_9 => kit_is)
    (case ki_q16_10 => kit_is)
    (case ki_q16_11 => kit_is)
    (case ki_q16_12 => kit_is)
    (case ki_q16_13 => kit_is)
    (case ki_q16_14 => kit_is)
    (case ki_q16_15 => kit_is)
    (case ki_q16_16 => kit_is)
    (case ki_q1_ValueError => kit_is)
    (case ki_q2_ValueError => kit_is)
    (case ki_q3_ValueError => kit_is)
    (case ki_q4_ValueError => kit_is)
    (case ki_q5_ValueError => kit_is)
    (case ki_q6_ValueError => kit_is)
    (case ki_q7_ValueError => kit_is)
    (case ki_q8_ValueError => kit_is)
    (case ki_q9_ValueError => kit_is)
    (case ki_q10_ValueError => kit_is)
    (case ki_q11_ValueError => kit_is)
    (case ki_q12_ValueError => kit_is)
    (case ki_q13_ValueError => kit_is)
    (case ki_q14_ValueError => kit_is)
    (case ki_q15_ValueError => kit_is)
    (case ki_q16_ValueError => kit_is)
    (case z0 => k_is)
    (case z1 => k_is)
    (case z2 => k_is)
    (case z3 => k_is)
    (case z4 => k_is)
    (case z5 => k_is)
    (case z6 => k_is)
    (case z7 => k_is)
    (case z8 => k_is)
    (case z9 => k_is)
    (case z10 => k_is)
    (case z11 => k_is)
    (case z12 => k_is)
    all_goals exact none
