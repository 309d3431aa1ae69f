import PyProof.Rows.All
import HandS.ForMost
import HandS.ForExc
import HandS.ExcInit
import HandS.WordsExc
import OpenK.KCls
import HandS.ExcValue
import PyProof.CollectIter
import KE.KDictKeyed
import HandS.Ends
import HandS.CallSlots
import HandS.Deep
import HandS.TupAny
import HandS.Wide
import HandS.IsInst
import HandS.Codes
import HandS.Flow
import HandS.Style
import PyProof.StrOps2
import HandS.Zip
import HandS.Rev
import KE.GoesEnum
import KE.GoesMore
import HandS.Strs
import HandS.SetFor
import HandS.TryOnly
import HandS.ExcField
import HandS.DictComp
import PyProof.ReprRoads
import PyProof.CallFns
import HandS.ExcIs
import KE.RegKIsAll
import PyProof.StrLawsRepr
import PyProof.Rows.RegStrFacts
import PyProof.P3Eq
import PySem.Challenge.RW_knockamid_k05_rings_are_told_late
set_option Elab.async false
set_option linter.all false
set_option maxRecDepth 100000
set_option maxHeartbeats 4000000
/-! own exceptions whose __init__ calls their own base's, then keeps one thing -/
namespace KW
open PySem L2
/-- what the own base class must say, so that Base.__init__ is ValueError's -/
structure KiC (K : PySem.W.Frag) (D : Addr) : Prop where
  ga : PySem.W.specialIn K (.ref D) "__getattribute__" = some (some (.builtin "type.__getattribute__"))
  rd : PySem.W.readsIn K D (.type "type") = true
  fi : PySem.W.findCls K (.ref D) (.type "type") "__init__" = some (.val (.builtin "ValueError.__init__"))
section
variable {X : Cx} {e : Expr} {es : List Expr} {ta : TA} {p1 p2 pos : Pos} {nm : Str} {D : Addr}
theorem pe_kinit {pl : Sem Bool} (hg : Gl X nm) (hm : X.mg nm = some (.ref D)) (S : KiC X.K D) (ha : PA X (e :: es) ta) (hdb : (nm == ("__debug__" : Str)) = false)
    (hc : eval (.Call (.Attribute (.Name nm p1) "__init__" p2) (e :: es) [] pos) X.env = (do
      let ov ← eval (.Name nm p1) X.env
      standAt p2.atName
      let (f, first) ← holding [ov] (getMethod ov "__init__" pl)
      callWith pos f first (backTo pos (starEach (e :: es) X.env)) (backToKw pos (keywordEach [] X.env))) := by rfl)
    (he : starEach (e :: es) X.env = (false, eval e X.env) :: starEach es X.env := by rfl) (hpl : (backTo pos (starEach es X.env)).any (·.1) = false := by rfl) :
    PE X (.Call (.Attribute (.Name nm p1) "__init__" p2) (e :: es) [] pos) (tVeI X.K ta) := by
  refine ⟨fun pins s σ H Q I h => ?_⟩
  refine PySem.W.methodCall_KW (ld_glob I hg hm ?_ hdb) hc
  refine PySem.W.method_cls I.kIn S.ga (PySem.W.cls_value I.kIn S.rd S.fi (by decide +kernel) ?_)
  show wpAny _ _ (callWith pos (Value.builtin "ValueError.__init__") [] (backTo pos (starEach (e :: es) X.env)) []) _ _ _
  refine PyProof.Rows.callWith_method1 (thn (ha.run pos pins _ σ H _ (I.tok _) h) fun us s1 ⟨vs, H1, I1, r1, a, C, ws, ev, hl, T, ea, q⟩ => ?_) he hpl
  subst ev
  cases r1 with
  | @cons _ u0 _ ur ra rw' =>
    obtain rfl : u0 = Value.ref a := ra
    have hlen : ur.length ≤ sizeLine := by
      rw [← Paired.length rw', sizeLine_eq]
      omega
    exact oinit_ok T I1 ea hlen fun s' J => ⟨.non, H1, J, rfl, q⟩
end
/-- an own exception's __init__: what it keeps -/
def spX (K : PySem.W.Frag) (f : Str) : Sp := fun vs H Q _ => ∃ (a C : Addr) (y : V), vs = [.ref a, y] ∧ OexC K C ∧ PySem.W.findIn K (.ref C) f = some none ∧ H a = some (exo a C none) ∧
  ∀ dx, H dx = none → dx ≠ a → Q .non (upd (upd H dx (exd dx [(f, y)])) a (exo a C (some dx)))
section
variable {prog : Program} {w : World} {K : PySem.W.Frag} {mg : Str → Option Value} {x qual p1 fl msg : Str} {st : Stmt} {f D : Addr} {fd : FuncData}
theorem ex_ok {q1 q2 q3 q5 q6 q7 q8 q9 q10 q11 : Pos} {q4 : Nat} (F : Fun K x qual st f fd) (S : FnScope ["self", p1] ["self", p1] (defScope st))
    (hb : defBody st = [.Expr (.Call (.Attribute (.Name "KnockError" q1) "__init__" q2) [.Name "self" q3, .Constant (.str msg) q4 q5] [] q6) q7, .Assign [.Attribute (.Name "self" q8) fl q9] (.Name p1 q10) q11])
    (hs : (defScope st).names.lookup ("KnockError" : Str) = some .globalImplicit) (hv : Vis (defScope st) "self") (hv1 : Vis (defScope st) p1) (hm : mg "KnockError" = some (.ref D)) (Kc : KiC K D)
    {pl : Env → Sem Bool} (hc : ∀ env : Env, eval (.Call (.Attribute (.Name "KnockError" q1) "__init__" q2) [.Name "self" q3, .Constant (.str msg) q4 q5] [] q6) env = (do
      let ov ← eval (.Name "KnockError" q1) env
      standAt q2.atName
      let (f, first) ← holding [ov] (getMethod ov "__init__" (pl env))
      callWith q6 f first (backTo q6 (starEach [.Name "self" q3, .Constant (.str msg) q4 q5] env)) (backToKw q6 (keywordEach [] env))))
    (hd1 : (p1 == ("__debug__" : Str)) = false) (hd2 : (p1 == ("__classdict__" : Str)) = false) (base : Heap) :
    FnOk prog w K mg base (L2.CX prog w) 1 f fd ["self", p1] (spX K fl) :=
  F.okX S (fun vs H Q E ⟨_, _, _, e, _⟩ => by rw [e]; rfl) fun cdv Ar outer s H vs Q E hr ⟨a, C, y, e, T, hno, hH, hQ⟩ => by
    subst e
    rw [hb]
    refine ⟨_, pss_cons (ps_expr (pe_kinit (X := cxOf (L2.CX prog w) prog w K mg base ["self", p1] qual (defScope st) f cdv Ar outer s H E) hs hm Kc (pa_cons (pe_var (i := 0) rfl hv) (pa_cons pe_str pa_nil)) (by decide) (hc _))) (pss_one (ps_ost (pe_var (i := 0) rfl hv) (pe_var (i := 1) rfl hv1 hd1 hd2))), ?_⟩
    refine ⟨_, rfl, a, C, [.str msg], rfl, by show 1 ≤ 1000; decide, T, hH, ?_⟩
    refine ⟨y, rfl, .ref a, rfl, a, C, rfl, T, hno, .inl ⟨hH, fun dx n1 n2 => hQ dx n1 n2⟩⟩
end
end KW

set_option Elab.async false
set_option linter.all false
set_option maxRecDepth 100000
set_option maxHeartbeats 4000000
/-! a, *b = a tuple -/
namespace KW
open PySem L2 PyProof.Rows
section
variable {prog : Program} {w : World} {A : Around} {E : Value → Shared → Prop} {s : Shared}
/-- a tuple's iterator from the place c on -/
theorem walks_from {it t : Addr} {items : Array Value} (hne : t ≠ it) (hh : A.handled = none) (c : Nat) (hc : c ≤ items.size) :
    WalksS prog w A it [it, t] [it] (fun a b => a = b) (items.size - c) (fun i v => items[c + i]? = some v) (fun i s => IsTupIter s.heap it t (c + i) ∧ IsTup s.heap t items) where
  sub := fun b hb => by simp at hb; simp [hb]
  grefl := fun _ => rfl
  gtrans := fun _ _ _ a b => a.trans b
  frame := fun i s h' tk ⟨⟨o, ho, r⟩, ⟨u, hu, r2⟩⟩ _ k => ⟨⟨o, k it (by simp) o ho, r⟩, ⟨u, k t (by simp) u hu, r2⟩⟩
  item := fun i s Q E hi ⟨h1, h2⟩ hQ => by
    have hx : items[c + i]? = some (items[c + i]'(by omega)) := Array.getElem?_eq_getElem _
    refine next_tuple_item h1 h2 hx fun h' h3 sb => hQ _ _ hx ⟨by rw [← Nat.add_assoc]; exact h3, h2.extBut sb.extBut hne⟩ ⟨fun b o hb e => sb.extBut b o (by simpa using hb) e, rfl, rfl, rfl, Nat.le_refl _⟩
  done := fun s Q E ⟨h1, h2⟩ hQ => by
    have hx : items[c + (items.size - c)]? = none := Array.getElem?_eq_none (by omega)
    refine next_tuple_end hh h1 h2 hx fun h' sb => hQ _ ⟨fun b o hb e => sb b o (by simpa using hb) e, rfl, rfl, rfl, Nat.le_refl _⟩
  self := fun i s Q E ⟨h1, h2⟩ q => wpAny_pyIter_tupleiter h1 q
theorem unpackItems_star {t : Addr} {items : Array Value} {Q : List Value → Shared → Prop} (hh : A.handled = none) (ht : IsTup s.heap t items) (h1 : 1 ≤ items.size) (hz : items.size ≤ sizeLine)
    (hQ : ∀ h' l tk, s.heap.get? l = none → (∀ b u, s.heap.get? b = some u → h'.get? b = some u) → h'.get? l = some { cls := .type "list", data := .seq (items.toList.drop 1).toArray } → Q (items[0] :: [.ref l]) { s with heap := h', toks := tk }) :
    wpAny (model prog w) A (unpackItems (.ref t) 2 (some 1)) Q E s := by
  have hlt : t ≠ s.heap.objs.size := by obtain ⟨o, ho, _⟩ := ht; exact Nat.ne_of_lt (Heap.lt_size ho)
  unfold unpackItems
  refine wpAny_bind ?_
  unfold notIterableAtAll
  refine wpAny_bind (wpAny_specialOf ht.typeIs slot_tuple_iter.lookup ?_)
  refine wpAny_pure ?_
  simp only [Bool.false_eq_true, if_false]
  refine wpAny_bind (wpAny_holding (iter_tuple ht ?_))
  refine wpAny_bind (wpAny_holding (draw_tuple hlt 1 0 _ _ ⟨_, Heap.get?_push_size _ rfl, rfl, rfl⟩ (ht.push _) (by omega) fun g hit sb => ?_))
  have ht1 : IsTup g t items := (ht.push _).extBut sb.extBut hlt
  have e0 : (items.toList.drop 0).take 1 = [items[0]] := by
    obtain ⟨l⟩ := items
    cases l with
    | nil => simp at h1
    | cons x l => rfl
  rw [e0, if_neg (by simp)]
  have W := walks_from (prog := prog) (w := w) (A := A.in1) hlt (show A.in1.handled = none from hh) 1 h1
  refine wpAny_bind (wpAny_holding (wpAny_collect_iter (T := "tuple_iterator") (.inr (.inr (.inr rfl))) W (fun i s' (st : IsTupIter s'.heap s.heap.objs.size t (1 + i) ∧ IsTup s'.heap t items) => by obtain ⟨o, ho, hc, _⟩ := st.1; exact ⟨o, ho, hc⟩) ⟨hit, ht1⟩ (fun b hb => ?_) (by simp) (fun s2 acc mv io => ?_) (by omega)))
  · simp only [List.mem_cons, List.not_mem_nil, or_false] at hb
    rcases hb with rfl | rfl
    · obtain ⟨o, ho, _⟩ := hit; exact Heap.lt_size ho
    · obtain ⟨o, ho, _⟩ := ht1; exact Heap.lt_size ho
  · have ea : acc.toList = items.toList.drop 1 := by
      refine List.ext_getElem? fun i => ?_
      rw [List.getElem?_drop]
      by_cases hi : i < acc.size
      · have := io.2 i acc[i] (Array.getElem?_eq_getElem hi)
        rw [Array.getElem?_toList, Array.getElem?_toList, Array.getElem?_eq_getElem hi, this]
      · have q := io.1
        rw [Array.getElem?_toList, Array.getElem?_toList, Array.getElem?_eq_none (by omega), Array.getElem?_eq_none (by omega)]
    rw [ea]
    rw [if_neg (by simp)]
    have el : List.take ((items.toList.drop 1).length - (2 - 1 - 1)) (items.toList.drop 1) = items.toList.drop 1 := List.take_of_length_le (by simp)
    have ed : List.drop ((items.toList.drop 1).length - (2 - 1 - 1)) (items.toList.drop 1) = [] := List.drop_eq_nil_of_le (by simp)
    simp only [el, ed]
    refine wpAny_bind (wpAny_newObj_type ?_ (show (items.toList.drop 1).toArray.size ≤ sizeLine by simp; omega))
    refine wpAny_pure ?_
    obtain ⟨hp2, g2, d2, t2, o2⟩ := s2
    obtain ⟨m1, m2, m3, m4, m5⟩ := mv
    dsimp only at m1 m2 m3 m4 m5 ⊢
    subst m2; subst m3; subst m4
    have up : ∀ b u, s.heap.get? b = some u → hp2.get? b = some u := fun b u e => by
      have nb : b ≠ s.heap.objs.size := fun z => by rw [z] at e; exact absurd (Heap.lt_size e) (Nat.lt_irrefl _)
      exact m1 b u (by simpa using nb) (sb.extBut b u nb (Heap.get?_push_of_some _ e))
    refine hQ _ hp2.objs.size _ ?_ (fun b u e => Heap.get?_push_of_some _ (up b u e)) (Heap.get?_push_size _ rfl)
    cases z : s.heap.get? hp2.objs.size with
    | none => rfl
    | some u => exact absurd (Heap.lt_size (up _ _ z)) (Nat.lt_irrefl _)
end
section
variable {P : Program} {w : World} {H : Hp} {h : Heap} {a : Addr} {o : HO}
theorem objOk_ex (x : ObjOk P w H h a o) : ∃ u, h.get? a = some u := by
  cases o with
  | lst xs => obtain ⟨_, _, _, _, e⟩ := x; exact ⟨_, e⟩
  | tup xs => obtain ⟨_, _, _, o, e, _⟩ := x; exact ⟨o, e⟩
  | dK kvs => obtain ⟨_, _, _, _, o, _, _, e, _⟩ := x; exact ⟨o, e⟩
  | dT kvs => obtain ⟨_, _, _, _, o, _, _, e, _⟩ := x; exact ⟨o, e⟩
  | set S n => obtain ⟨o, _, _, _, e, _⟩ := x; exact ⟨o, e⟩
  | ins C dx fs => obtain ⟨_, _, _, e, _⟩ := x; exact ⟨_, e⟩
  | own y => exact x
  | xd fs => obtain ⟨_, ⟨o, _, _, e, _⟩, _⟩ := x; exact ⟨o, e⟩
  | rng lo hi => obtain ⟨_, _, _, e⟩ := x; exact ⟨_, e⟩
  | frz ob u => exact ⟨_, x.1⟩
  | tbl ps => exact ⟨_, x⟩
  | met f y => exact ⟨_, x⟩
  | ext φ => exact x.2.1
theorem hok_none (x : HOk P w H h) (e : h.get? a = none) : H a = none := by
  cases z : H a with
  | none => rfl
  | some o =>
    obtain ⟨u, q⟩ := objOk_ex (x a o z)
    rw [e] at q; cases q
end
/-- a, *b = x, by values -/
def gStar (K : PySem.W.Frag) (t : TGs) : TG := fun v σ H Q => ∃ a x rest, v = .ref a ∧ SqT K H a (x :: rest) ∧ ∀ l, H l = none → t [x, .ref l] σ (upd H l (.lst rest)) Q
section
variable {X : Cx} {e1 e2 : Expr} {k : Nat} {pos p : Pos} {t : TGs}
theorem pg_star (hc : X.calm = true) (h : PGs X [e1, e2] t) (hs : assignEach [e1, .Starred e2 p] X.env = [(false, assign e1 X.env), (true, assign e2 X.env)]) (hs2 : (assignEach [e1, e2] X.env).map (·.2) = [assign e1 X.env, assign e2 X.env]) :
    PG X (.Tuple [e1, .Starred e2 p] k pos) (gStar X.K t) := by
  refine ⟨fun pins s σ H v u Q I r hw => ?_⟩
  obtain ⟨a, x, rest, e, hq, hw⟩ := hw
  subst e
  cases r
  obtain ⟨its, rv, ht, hz⟩ := I.tuple hq
  have hl : its.length = rest.length + 1 := by rw [← rv.length]; rfl
  rw [assign_Tuple, hs]
  refine wpAny_bind (wpAny_standAt ?_)
  unfold unpack
  refine wpAny_bind (wpAny_holding ?_)
  show wpAny _ _ (unpackItems (.ref a) 2 (some 1)) _ _ _
  cases rv with
  | @cons _ y _ ys r1 r2 =>
    refine unpackItems_star (I.ok.hd hc) ht (by simp) (by have q := r2.length; simp at hz ⊢; omega) fun h' l tk hl0 up hn => ?_
    have hn0 : H l = none := hok_none I.hok hl0
    have J := I.laidN (t' := tk) (o := .lst rest) up hl0 hn0 ⟨by have := r2.length; simp at hl hz; omega, ys, 0, r2, by simpa using hn⟩
    have := h.run pins _ σ _ [x, .ref l] [y, .ref l] Q J (.cons r1 (.cons rfl .nil)) (hw l hn0)
    rw [hs2] at this
    exact this
end
end KW

set_option Elab.async false
set_option linter.all false
set_option maxRecDepth 100000
set_option maxHeartbeats 4000000
/-! dicts whose keys are nested tuples -/
namespace KW
open PySem L2
mutual
/-- a value that is the key k -/
inductive NkV (K : PySem.W.Frag) (H : Hp) : NestedKey → V → Prop
  | non : NkV K H .none .non
  | bl (b : Bool) : NkV K H (.num (if b = true then 1 else 0)) (.bl b)
  | int (i : Int) : NkV K H (.num i) (.int i)
  | str (x : Str) : NkV K H (.text x) (.str x)
  | tup {a : Addr} {xs : List V} {ks : List NestedKey} : SqT K H a xs → NkVs K H ks xs → NkV K H (.tup ks) (.ref a)
inductive NkVs (K : PySem.W.Frag) (H : Hp) : List NestedKey → List V → Prop
  | nil : NkVs K H [] []
  | cons {k : NestedKey} {ks : List NestedKey} {v : V} {vs : List V} : NkV K H k v → NkVs K H ks vs → NkVs K H (k :: ks) (v :: vs)
end
section
variable {X : Cx} {pins : List (Addr × Obj)} {σ : St} {H : Hp} {s : Shared}
mutual
theorem NkV.is (I : Inv X pins σ H s) : ∀ (k : NestedKey) (v : V) (u : Value), NkV X.K H k v → RelV v u → NestedIs s.heap k u
  | .none, _, _, h, r => by cases h; cases r; exact .none
  | .num i, _, _, h, r => by
    cases h with
    | bl b => cases r; exact .bool rfl
    | int i => obtain ⟨t, rfl⟩ := r; exact .int i t
  | .text x, _, _, h, r => by cases h; obtain ⟨t, rfl⟩ := r; exact .text x t
  | .tup ks, _, _, h, r => by
    cases h with
    | tup hs ha =>
      cases r
      obtain ⟨its, rv, ⟨o, ho, hc, n, hd⟩, _⟩ := I.tuple hs
      exact .tup ho hc hd (by simpa using NkVs.is I ks _ its ha rv)
theorem NkVs.is (I : Inv X pins σ H s) : ∀ (ks : List NestedKey) (vs : List V) (us : List Value), NkVs X.K H ks vs → Vals vs us → NestedAll s.heap ks us
  | [], _, _, h, r => by cases h; cases r; exact .nil
  | k :: ks, _, _, h, r => by
    cases h with
    | cons h1 h2 =>
      cases r with
      | cons r1 r2 => exact .cons (NkV.is I k _ _ h1 r1) (NkVs.is I ks _ _ h2 r2)
end
end
/-- a dict of nested keys: each with where its tuple stands -/
def NkP (p : NestedKey × Addr × V) (q : NestedKey × Addr × Value) : Prop := p.1 = q.1 ∧ p.2.1 = q.2.1 ∧ RelV p.2.2 q.2.2
def dnH (P : Program) (w : World) (d : Addr) (xs : List (NestedKey × Addr × V)) : HO := .ext fun h => (d == sysModules) = false ∧ xs.length ≤ sizeLine ∧ ∃ ys : List (NestedKey × Addr × Value), Paired NkP xs ys ∧
  ∃ o es ep, h.get? d = some o ∧ o.ExactDict ∧ o.data = .dict es ep ∧ es.toList = ys.map (entryOfKey (nestedKind P w)) ∧ (ys.map (·.1)).Nodup
def getN (xs : List (NestedKey × Addr × V)) (k : NestedKey) : Option V := (xs.find? fun x => decide (x.1 = k)).map (·.2.2)
def putN (xs : List (NestedKey × Addr × V)) (k : NestedKey) (b : Addr) (v : V) : List (NestedKey × Addr × V) :=
  if (getN xs k).isSome then xs.map (fun x => if x.1 = k then (x.1, x.2.1, v) else x) else xs ++ [(k, b, v)]
theorem atKey_paired {k : NestedKey} : ∀ {xs : List (NestedKey × Addr × V)} {ys : List (NestedKey × Addr × Value)}, Paired NkP xs ys → RelO (getN xs k) ((atKey ys k).map (·.2))
  | _, _, .nil => True.intro
  | _, _, .cons (a := a) (b := b) r t => by
    have ih := atKey_paired (k := k) t
    unfold getN atKey at ih ⊢
    simp only [List.find?_cons, ← r.1]
    by_cases e : a.1 = k
    · simp only [e, decide_true, Option.map_some]; exact r.2.2
    · simp only [e, decide_false]; exact ih
theorem putN_paired {k : NestedKey} {b : Addr} {v : V} {u : Value} {xs : List (NestedKey × Addr × V)} {ys : List (NestedKey × Addr × Value)} (h : Paired NkP xs ys) (r : RelV v u) : Paired NkP (putN xs k b v) (storedH ys k b u) := by
  have q := (atKey_paired (k := k) h).isSome_eq
  rw [Option.isSome_map] at q
  unfold putN storedH
  rw [q]
  split
  · rename_i hs
    clear q hs
    induction h with
    | nil => exact .nil
    | @cons a c as cs r1 t ih =>
      refine .cons ?_ ih
      show NkP (if a.1 = k then (a.1, a.2.1, v) else a) (putAt k u c)
      unfold putAt
      rw [← r1.1]
      by_cases e : a.1 = k
      · rw [if_pos e, if_pos e]; exact ⟨rfl, r1.2.1, r⟩
      · rw [if_neg e, if_neg e]; exact r1
  · exact Paired.snoc h ⟨rfl, rfl, r⟩
section
variable {P : Program} {w : World} {H H' : Hp} {h h' : Heap} {a : Addr} {xs : List (NestedKey × Addr × V)}
theorem dn_rd (x : ObjOk P w H h a (dnH P w a xs)) : (a == sysModules) = false ∧ xs.length ≤ sizeLine ∧ ∃ ys : List (NestedKey × Addr × Value), Paired NkP xs ys ∧
    ∃ o es ep, h.get? a = some o ∧ o.ExactDict ∧ o.data = .dict es ep ∧ es.toList = ys.map (entryOfKey (nestedKind P w)) ∧ (ys.map (·.1)).Nodup := x.1
theorem dn_mk (h0 : (a == sysModules) = false) (hl : xs.length ≤ sizeLine) {ys : List (NestedKey × Addr × Value)} (hp : Paired NkP xs ys) {o : Obj} {es : Array DictEntry} {ep : Nat} (e1 : h.get? a = some o) (e2 : o.ExactDict) (e3 : o.data = .dict es ep)
    (e4 : es.toList = ys.map (entryOfKey (nestedKind P w))) (e5 : (ys.map (·.1)).Nodup) : ObjOk P w H h a (dnH P w a xs) :=
  ⟨⟨h0, hl, ys, hp, o, es, ep, e1, e2, e3, e4, e5⟩, ⟨o, e1⟩, fun h1 h2 ⟨z0, z1, zs, z2, q, fs, fp, f1, f2, f3, f4, f5⟩ k => ⟨z0, z1, zs, z2, q, fs, fp, k _ f1, f2, f3, f4, f5⟩⟩
/-- all keys stand -/
def NkAll (K : PySem.W.Frag) (H : Hp) (xs : List (NestedKey × Addr × V)) : Prop := ∀ x ∈ xs, NkV K H x.1 (.ref x.2.1) ∧ x.1.depth ≤ 8
theorem dn_dict {X : Cx} {pins : List (Addr × Obj)} {σ : St} {s : Shared} (I : Inv X pins σ H s) (e : H a = some (dnH X.prog X.w a xs)) (ka : NkAll X.K H xs) :
    (a == sysModules) = false ∧ xs.length ≤ sizeLine ∧ ∃ ys, Paired NkP xs ys ∧ s.heap.DictOfH (nestedKind X.prog X.w) a ys := by
  obtain ⟨h0, hl, ys, hp, o, es, ep, e1, e2, e3, e4, e5⟩ := dn_rd (I.hok a _ e)
  refine ⟨h0, hl, ys, hp, o, es, ep, e1, e2, e3, e4, fun y hy => ?_, e5⟩
  have : ∀ {xs : List (NestedKey × Addr × V)} {ys : List (NestedKey × Addr × Value)}, Paired NkP xs ys → NkAll X.K H xs → ∀ y ∈ ys, NestedIs s.heap y.1 (.ref y.2.1) ∧ y.1.depth ≤ 8 := by
    intro xs ys hp
    induction hp with
    | nil => intro _ y hy; cases hy
    | @cons p q ps qs r t ih =>
      intro ka y hy
      rcases List.mem_cons.mp hy with rfl | hy
      · obtain ⟨n1, n2⟩ := ka p (List.mem_cons_self ..)
        rw [r.1, r.2.1] at n1
        rw [r.1] at n2
        exact ⟨NkV.is I _ _ _ n1 rfl, n2⟩
      · exact ih (fun x hx => ka x (List.mem_cons_of_mem _ hx)) y hy
  exact this hp ka y hy
end
section
variable {X : Cx} {pos : Pos}
def tDNewN (P : Program) (w : World) : TE := fun _ H Q => ∀ p, H p = none → Q (.ref p) (upd H p (dnH P w p []))
theorem pe_dnewN : PE X (.Dict [] [] pos) (tDNewN X.prog X.w) := ⟨fun pins s σ H Q I h =>
  wpAny_Dict_empty ⟨.ref s.heap.objs.size, _, I.laid (a := s.heap.objs.size) (o := dnH X.prog X.w s.heap.objs.size []) (t' := s.toks) (fun _ _ q => Heap.get?_push_of_some _ q) (Nat.le_refl _)
    (dn_mk (beq_eq_false_iff_ne.mpr (Ne.symm (Nat.ne_of_lt I.big))) (Nat.zero_le _) .nil (Heap.get?_push_size _ rfl) ⟨rfl, rfl, rfl⟩ rfl rfl List.nodup_nil), rfl, h _ (I.hok.fresh (Nat.le_refl _))⟩⟩
/-- y in d -/
def rInN (K : PySem.W.Frag) (P : Program) (w : World) (neg : Bool) : R2 := fun y x H Q => ∃ a b k xs, x = .ref a ∧ y = .ref b ∧ H a = some (dnH P w a xs) ∧ NkAll K H xs ∧ NkV K H k (.ref b) ∧ k.depth ≤ 8 ∧ Q (.bl ((getN xs k).isSome != neg)) H
theorem op_inN (hu : X.A.units + 9 < cLine) : OpR X (compareOp .In) (rInN X.K X.prog X.w false) := by
  intro pins s σ H x y v u Q I rx ry h
  obtain ⟨a, b, k, xs, rfl, rfl, e, ka, kb, kd, q⟩ := h
  cases rx; cases ry
  obtain ⟨h0, hl, ys, hp, dd⟩ := dn_dict I e ka
  refine wpAny_in_heap (knd := nestedKind X.prog X.w) (show X.A.units + 1 + 8 < cLine by omega) ⟨NkV.is I _ _ _ kb rfl, kd⟩ h0 dd ?_
  have z := (atKey_paired (k := k) hp).isSome_eq
  rw [Option.isSome_map] at z
  rw [← z]
  exact ⟨.bl _, H, I.tok _, rfl, by simpa using q⟩
theorem op_notInN (hu : X.A.units + 9 < cLine) : OpR X (compareOp .NotIn) (rInN X.K X.prog X.w true) := by
  intro pins s σ H x y v u Q I rx ry h
  obtain ⟨a, b, k, xs, rfl, rfl, e, ka, kb, kd, q⟩ := h
  cases rx; cases ry
  obtain ⟨h0, hl, ys, hp, dd⟩ := dn_dict I e ka
  refine PyProof.Rows.wpAny_notIn_heap (knd := nestedKind X.prog X.w) (show X.A.units + 1 + 8 < cLine by omega) ⟨NkV.is I _ _ _ kb rfl, kd⟩ h0 dd ?_
  have z := (atKey_paired (k := k) hp).isSome_eq
  rw [Option.isSome_map] at z
  rw [← z]
  exact ⟨.bl _, H, I.tok _, rfl, by simpa using q⟩
/-- d[y] -/
theorem n_getItem {pins : List (Addr × Obj)} {σ : St} {H : Hp} {s : Shared} {a b : Addr} {k : NestedKey} {xs : List (NestedKey × Addr × V)} {v : V} {Q : Value → Shared → Prop} {E : Value → Shared → Prop} (hu : X.A.units + 9 < cLine) (I : Inv X pins σ H s)
    (e : H a = some (dnH X.prog X.w a xs)) (ka : NkAll X.K H xs) (kb : NkV X.K H k (.ref b)) (kd : k.depth ≤ 8) (hv : getN xs k = some v) (h : ∀ u s', Inv X pins σ H s' → RelV v u → Q u s') : wpAny (model X.prog X.w) X.A (getItem (.ref a) (.ref b)) Q E s := by
  obtain ⟨h0, hl, ys, hp, dd⟩ := dn_dict I e ka
  obtain ⟨u, hu', ru⟩ := RelO.some_of (v := v) (o := (atKey ys k).map (·.2)) (by rw [← hv]; exact atKey_paired hp)
  obtain ⟨p, hp1, hp2⟩ := Option.map_eq_some_iff.mp hu'
  refine wpAny_getItem_heap (knd := nestedKind X.prog X.w) (show X.A.units + 1 + 8 < cLine by omega) ⟨NkV.is I _ _ _ kb rfl, kd⟩ dd hp1 ?_
  rw [hp2]
  exact h u _ (I.tok _) ru
/-- d[y] = v -/
theorem n_setItem {pins : List (Addr × Obj)} {σ : St} {H : Hp} {s : Shared} {a b : Addr} {k : NestedKey} {xs : List (NestedKey × Addr × V)} {v : V} {r : Value} {Q : Unit → Shared → Prop} {E : Value → Shared → Prop} (hu : X.A.units + 9 < cLine) (I : Inv X pins σ H s)
    (e : H a = some (dnH X.prog X.w a xs)) (ka : NkAll X.K H xs) (kb : NkV X.K H k (.ref b)) (kd : k.depth ≤ 8) (hz : xs.length < sizeLine) (rv : RelV v r) (h : ∀ s', Inv X pins σ (upd H a (dnH X.prog X.w a (putN xs k b v))) s' → Q () s') :
    wpAny (model X.prog X.w) X.A (setItem (.ref a) (.ref b) r) Q E s := by
  obtain ⟨h0, hl, ys, hp, dd⟩ := dn_dict I e ka
  refine wpAny_setItem_heap (knd := nestedKind X.prog X.w) (hsz := by rw [← Paired.length hp]; exact hl) (show X.A.units + 1 + 8 < cLine by omega) ⟨NkV.is I _ _ _ kb rfl, kd⟩ dd fun h' dd' hs => h _ ?_
  obtain ⟨q, es, ep, hq, h2, h3, h4, _, h5⟩ := dd'
  refine d_write I (by rw [e]; exact True.intro) hs ⟨q, hq⟩ (dn_mk h0 ?_ (putN_paired hp rv) hq h2 h3 h4 h5)
  unfold putN
  split
  · rw [List.length_map]; exact hl
  · simp; omega
end
end KW

set_option Elab.async false
set_option linter.all false
set_option maxRecDepth 100000
set_option maxHeartbeats 4000000
/-! dicts, by values -/
namespace KW
open PySem L2
section
variable {X : Cx}
/-- d[k], d a dict of ints and texts -/
def rDkI : R2 := fun x y H Q => ∃ a kvs k v, x = .ref a ∧ y = kV k ∧ Rd H a (.dK kvs) ∧ valV kvs k = some v ∧ Q v H
theorem ix_dk (hu : X.A.units + 9 < cLine) : IxR X rDkI := by
  intro value slice pins s σ H x y v u Q I rx ry h hs
  obtain ⟨a, kvs, k, z, rfl, rfl, e, ev, q⟩ := h
  obtain rfl : v = Value.ref a := rx
  obtain ⟨h0, hd, vs, rel, dd⟩ := dk_rd I.hok e
  obtain ⟨r, hw, rr⟩ := RelO.some_of (v := z) (o := valueAt vs k) (by rw [← ev]; exact rel.val k)
  exact PyProof.Rows.subscriptTail_builtinR (x := r) dd.typeIs PySem.F.slot_dict_getitem.lookup (wpAny_getItem_of (kV_is ry) dd.mapOf hw ⟨rfl, z, H, I.tok _, rr, q⟩) hs
def rTdI (K : PySem.W.Frag) (P : Program) (w : World) : R2 := fun x y H Q => ∃ a b k xs v, x = .ref a ∧ y = .ref b ∧ H a = some (dnH P w a xs) ∧ NkAll K H xs ∧ NkV K H k (.ref b) ∧ k.depth ≤ 8 ∧ getN xs k = some v ∧ Q v H
theorem ix_td (hu : X.A.units + 9 < cLine) : IxR X (rTdI X.K X.prog X.w) := by
  intro value slice pins s σ H x y v u Q I rx ry h hs
  obtain ⟨a, b, k, xs, z, rfl, rfl, e, ka, kb, kd, ev, q⟩ := h
  obtain rfl : v = Value.ref a := rx
  obtain rfl : u = Value.ref b := ry
  obtain ⟨h0, hl, ys, hp, dd⟩ := dn_dict I e ka
  obtain ⟨r, hu', rr⟩ := RelO.some_of (v := z) (o := (atKey ys k).map (·.2)) (by rw [← ev]; exact atKey_paired hp)
  obtain ⟨p, hp1, hp2⟩ := Option.map_eq_some_iff.mp hu'
  exact PyProof.Rows.subscriptTail_builtinR (x := r) dd.typeIs PySem.F.slot_dict_getitem.lookup
    (wpAny_getItem_heap (knd := nestedKind X.prog X.w) (show X.A.units + 1 + 8 < cLine by omega) ⟨NkV.is I _ _ _ kb rfl, kd⟩ dd hp1 ⟨hp2, z, H, I.tok _, by rw [hp2]; exact rr, q⟩) hs
/-- k in d -/
def rDkIn (neg : Bool) : R2 := fun y x H Q => ∃ a kvs k, x = .ref a ∧ y = kV k ∧ Rd H a (.dK kvs) ∧ Q (.bl ((valV kvs k).isSome != neg)) H
theorem op_dkIn (hu : X.A.units + 9 < cLine) : OpR X (compareOp .In) (rDkIn false) := by
  intro pins s σ H y x u v Q I ry rx h
  obtain ⟨a, kvs, k, rfl, rfl, e, q⟩ := h
  obtain rfl : v = Value.ref a := rx
  exact d_in (by omega) I (.inl ⟨kvs, k, e, rfl, rfl⟩) ry fun s1 I1 => ⟨.bl _, H, I1, rfl, by simpa using q⟩
theorem op_dkNotIn (hu : X.A.units + 9 < cLine) : OpR X (compareOp .NotIn) (rDkIn true) := by
  intro pins s σ H y x u v Q I ry rx h
  obtain ⟨a, kvs, k, rfl, rfl, e, q⟩ := h
  obtain rfl : v = Value.ref a := rx
  exact d_notIn (by omega) I (.inl ⟨kvs, k, e, rfl, rfl⟩) ry fun s1 I1 => ⟨.bl _, H, I1, rfl, by simpa using q⟩
/-- d[k] = v -/
theorem pset_or {t u : TSet} (h : PSet X t) (h' : PSet X u) : PSet X (fun o i v H R => t o i v H R ∨ u o i v H R) := by
  intro pins s σ H o i v ov iv r Q I ro ri rv q
  rcases q with q | q
  · exact h pins s σ H o i v ov iv r Q I ro ri rv q
  · exact h' pins s σ H o i v ov iv r Q I ro ri rv q
def rDkS : TSet := fun o i v H R => ∃ a kvs k, o = .ref a ∧ i = kV k ∧ H a = some (.dK kvs) ∧ kvs.length < sizeLine ∧ R (upd H a (.dK (putK kvs k v)))
theorem set_dk (hu : X.A.units + 9 < cLine) : PSet X rDkS := by
  intro pins s σ H o i v ov iv u Q I ro ri rv h
  obtain ⟨a, kvs, k, rfl, rfl, e, hl, q⟩ := h
  obtain rfl : ov = Value.ref a := ro
  exact d_setItem (by omega) I (DPut.k e hl) ri rv fun s1 I1 => ⟨_, I1, q⟩
def rTdS (K : PySem.W.Frag) (P : Program) (w : World) : TSet := fun o i v H R => ∃ a b k xs, o = .ref a ∧ i = .ref b ∧ H a = some (dnH P w a xs) ∧ NkAll K H xs ∧ NkV K H k (.ref b) ∧ k.depth ≤ 8 ∧ xs.length < sizeLine ∧ R (upd H a (dnH P w a (putN xs k b v)))
theorem set_td (hu : X.A.units + 9 < cLine) : PSet X (rTdS X.K X.prog X.w) := by
  intro pins s σ H o i v ov iv u Q I ro ri rv h
  obtain ⟨a, b, k, xs, rfl, rfl, e, ka, kb, kd, hl, q⟩ := h
  obtain rfl : ov = Value.ref a := ro
  obtain rfl : iv = Value.ref b := ri
  exact n_setItem hu I e ka kb kd hl rv fun s1 I1 => ⟨_, I1, q⟩
end
end KW

set_option Elab.async false
set_option linter.all false
set_option maxRecDepth 100000
set_option maxHeartbeats 4000000
/-! defs run where nothing is being shown (repr asks that) -/
namespace KW
open PySem PySem.Spec PyProof.Rows L2
/-- the def's promise, where no repr is under way -/
structure FnG (P : Program) (w : World) (K : PySem.W.Frag) (mg : Str → Option Value) (base : Heap) (cx : CXT) (k : Nat) (f : Addr) (fd : FuncData) (ps : List Str) (sp : Sp) : Prop where
  len : ∀ vs H Q E, sp vs H Q E → vs.length = ps.length
  run : ∀ (B : Around) (out : List Env) (s : Shared) (H : Hp) (as : Args) (us : List Value) (vs : List V) (Q : VK) (E : XK), B.guards = some [] → Room k B → Env0 P w K mg base B out s H → BindsTo s fd as (ps.zip us) → Vals vs us → sp vs H Q E →
    codeAny (model P w) B (.call (.ref f) as) (CR cx out P w H s Q E) s
section
variable {P : Program} {w : World} {K : PySem.W.Frag} {mg : Str → Option Value} {base : Heap} {cx : CXT} {k j : Nat} {f : Addr} {fd : FuncData} {ps : List Str} {sp sp' : Sp}
theorem FnG.imp (F : FnG P w K mg base cx k f fd ps sp) (i : ∀ vs H Q E, sp' vs H Q E → sp vs H Q E) : FnG P w K mg base cx k f fd ps sp' :=
  ⟨fun vs H Q E q => F.len vs H Q E (i _ _ _ _ q), fun B out s H as us vs Q E g r e b v q => F.run B out s H as us vs Q E g r e b v (i _ _ _ _ q)⟩
theorem deeper_guards {B : Around} {env : Env} (h : B.guards = some []) : (B.deeper env).guards = some [] := h
theorem make_guards {B : Around} {C : Addr} {us : List Value} {kw : List (Str × Value)} (h : B.guards = some []) : (B.under (.builtin "type.__call__" ⟨.ref C :: us, kw⟩)).guards = some [] := by
  have e : (Code.builtin "type.__call__" ⟨Value.ref C :: us, kw⟩).guards = [] := by
    have g : (Code.builtin "type.__call__" ⟨Value.ref C :: us, kw⟩).isGuard = false := by
      show guardIds.contains "type.__call__" = false
      decide +kernel
    unfold Code.guards
    rw [g]; rfl
  unfold Around.under
  rw [e, h]; rfl
/-- a def of the text, by its body -/
theorem fnG_of {nm qual : Str} {pars : Arguments} {body : List Stmt} {scope : Scope} {dV kV doc pm cdv ct oc : Value} {an od : Option Addr} {osl : Array (Option Value)} {N : List Str}
    (hl : K.lookup f = some ⟨oc, od, .func (PySem.W.fnOf nm qual pars body scope dV kV doc pm an cdv ct), osl⟩) (hc : PySem.W.codeIn K cdv qual = true) (S : FnScope N ps scope) (hn : ∀ vs H Q E, sp vs H Q E → vs.length = ps.length)
    (hb : ∀ (B : Around) (out : List Env) (s : Shared) (H : Hp) (vs : List V) (Q : VK) (E : XK), B.guards = some [] → Room k (B.deeper (envOfC qual scope s.heap.objs.size f cdv)) → sp vs H Q E →
      ∃ t, PSs (cxOf cx P w K mg base N qual scope f cdv B out s H E) body t ∧ t { nx := fun _ H' => Q .non H', rt := Q } (L2.start N vs) H) :
    FnG P w K mg base cx (k + 1) f (PySem.W.fnOf nm qual pars body scope dV kV doc pm an cdv ct) ps sp := by
  refine ⟨hn, fun B out s H as us vs Q E hg room env0 bt rel hsp => ?_⟩
  have kin : K.In s.heap := env0.mod.kin.keeps fun b o e => (env0.bs b o e).1
  have nolim : s.heap.NoLimit := env0.mod.nolimit.keeps fun b o e => (env0.bs b o e).1
  have kinds : ∀ y ∈ ps.zip us, scope.names.lookup y.1 = some .local ∨ (scope.names.lookup y.1 = some .cell ∧ ((cellsFrom (s.heap.objs.size + 1) scope.names []).lookup y.1).isSome = true) := by
    rintro ⟨n, v⟩ hy
    exact (S.par n (List.of_mem_zip hy).1).imp id fun q => ⟨q, PySem.W.cellsFrom_some _ _ _ (.inl q)⟩
  refine codeAny_call_function room.depth (kin _ _ hl) rfl S.co S.gen rfl (PySem.W.codeRec_of kin hc) (bt _ _ _ _ ?_)
  refine wpAny_newFunctionEnv_cells S.kind kinds fun env ee s1 nw => ?_
  subst ee
  refine ⟨nolim.keeps nw.toInCall.keep, codeAny_func ?_⟩
  obtain ⟨t, pt, tq⟩ := hb B out s H vs Q E hg (room.deeper _) hsp
  have J : Inv (cxOf cx P w K mg base N qual scope f cdv B out s H E) [] (L2.start N vs) H s1 := inv_start S room.hd env0 (hn _ _ _ _ hsp) rel nw
  have done : ∀ {τ : L2.St} {H2 : Hp} {v : V} {u : Value} {s2 : Shared}, Inv (cxOf cx P w K mg base N qual scope f cdv B out s H E) [] τ H2 s2 → RelV v u → Q v H2 → CE out P w H s Q u s2 :=
    fun {τ H2 v u s2} I2 rv q => ⟨v, H2, I2.os, I2.bare, I2.base, I2.hok, rv, q⟩
  refine wpAny_mono (pt.run [] s1 (L2.start N vs) H _ J tq) (fun fl s2 z => ?_) fun e s2 z => z
  cases fl with
  | next => obtain ⟨τ, H2, I2, q⟩ := z; exact done (v := V.non) (u := Value.none) I2 rfl q
  | ret u => obtain ⟨v, τ, H2, I2, rv, q⟩ := z; exact done I2 rv q
  | brk => obtain ⟨_, _, _, q⟩ := z; exact q.elim
  | cont => obtain ⟨_, _, _, q⟩ := z; exact q.elim
theorem funG {x qual : Str} {st : Stmt} {N : List Str} (F : Fun K x qual st f fd) (S : FnScope N ps (defScope st)) (hn : ∀ vs H Q E, sp vs H Q E → vs.length = ps.length)
    (hb : ∀ (cdv : Value) (B : Around) (out : List Env) (s : Shared) (H : Hp) (vs : List V) (Q : VK) (E : XK), B.guards = some [] → Room k (B.deeper (envOfC qual (defScope st) s.heap.objs.size f cdv)) → sp vs H Q E →
      ∃ t, PSs (cxOf (L2.CX P w) P w K mg base N qual (defScope st) f cdv B out s H E) (defBody st) t ∧ t { nx := fun _ H' => Q .non H', rt := Q } (L2.start N vs) H) : FnG P w K mg base (L2.CX P w) (k + 1) f fd ps sp := by
  obtain ⟨oc, od, kV, doc, pm, an, cdv, ct, osl, rfl, lk, hcd⟩ := F.ex
  exact fnG_of lk hcd S hn fun B out s H vs Q E hg hr hsp => hb cdv B out s H vs Q E hg hr hsp
end
section
variable {X : Cx} {cx : CXT} {k : Nat} {f : Addr} {fd : FuncData} {ps : List Str} {sp : Sp} {E : L2.St → XK}
theorem run_fnG {pins : List (Addr × Obj)} {σ : L2.St} {H : Hp} {s : Shared} {Q : VK} {us : List Value} {vs : List V} (F : FnG X.prog X.w X.K X.mg X.base cx k f fd ps sp) (hg : X.A.guards = some []) (hr : Room k X.A) (hb : Binds X.K fd ps []) (hx : PassesAt cx X σ (E σ))
    (I : Inv X pins σ H s) (rel : Vals vs us) (q : sp vs H Q (E σ)) : wpAny (model X.prog X.w) X.A (call (.ref f) us) (EP X pins σ Q) X.xe s := by
  have n : us.length = ps.length := rel.length ▸ F.len _ _ _ _ q
  have bt := hb s us I.kIn (by simpa using n)
  simp only [List.append_nil] at bt
  refine wpAny_call (codeAny_mono (F.run X.A X.stack s H ⟨us, []⟩ us vs Q (E σ) hg hr I.env0 bt rel q) fun res s2 z => ?_)
  match res, z with
  | .error e, z => exact hx pins H s e s2 I z
  | .ok (.ret u), z => exact I.after z
  | .ok .next, z => exact z.elim
  | .ok .brk, z => exact z.elim
  | .ok .cont, z => exact z.elim
end
/-! the law's call -/
theorem law_callG {P : Program} {w : World} {K : PySem.W.Frag} {mg mb : Str → Option Value} {cx : CXT} {k : Nat} {fa a : Addr} {fd : FuncData} {x : Str} {sp : Sp} {s1 : Shared} {vs : List Value} {ns : List Int}
    (kin : K.In s1.heap) (hm : s1.heap.Ns mainGlobals mg) (hbl : s1.heap.Ns builtinsNs mb) (hbb : ∀ x : Str, x ≠ "__name__" → mb x = bootBuiltins x) (nolim : s1.heap.NoLimit) (gens : s1.gens = #[])
    (hs : s1.heap.get? a = some { cls := .type "list", data := .seq vs.toArray }) (are : IntsAre vs ns) (len : ns.length ≤ sizeLine) (room : Room k callerA)
    (F : ∀ base : Heap, K.In base → base.Ns mainGlobals mg → FnG P w K mg base cx k fa fd [x] sp) (bind : ∀ (s : Shared) (u : Value), BindsTo s fd ⟨[u], []⟩ [(x, u)])
    (asks : ∀ U : Hp, Only U → SqL K U a (ns.map V.int) → sp [.ref a] U (fun v _ => v = .bl true) fun _ _ _ => False)
    (noexc : ∀ U e s', cx [] U s1 (fun _ _ _ => False) e s' → False) :
    codeAny (model P w) callerA (.call (.ref fa) ⟨[.ref a], []⟩) (fun r s' => r = .ok (.ret (.bool true)) ∧ OldK s1.heap s'.heap ∧ s'.os = s1.os ∧ AllBare s'.gens) s1 := by
  have rel := vals_ints are
  have main : ∀ U : Hp, Only U → SqL K U a (ns.map V.int) → HOk P w U s1.heap → (∀ b, U b ≠ none → b = a) → (U a ≠ none → K.lookup a = none) →
      codeAny (model P w) callerA (.call (.ref fa) ⟨[.ref a], []⟩) (fun r s' => r = .ok (.ret (.bool true)) ∧ OldK s1.heap s'.heap ∧ s'.os = s1.os ∧ AllBare s'.gens) s1 := fun U only sq ok just hid => by
    have stays : ∀ {b : Addr} {o : Obj}, s1.heap.get? b = some o → U b = none → (hidT s1.heap U).get? b = some o := fun e n => hidT_get e n
    have free : ∀ {b : Addr} {o : Obj} {es : Array DictEntry} {ep : Nat}, s1.heap.get? b = some o → o.data = .dict es ep → U b = none := fun {b o es ep} e d => by
      cases z : U b with
      | none => rfl
      | some u =>
        obtain rfl : b = a := just b (by rw [z]; exact Option.some_ne_none u)
        rw [hs] at e
        obtain rfl := Option.some.inj e
        cases d
    have nsp : ∀ {b : Addr} {m : Str → Option Value}, s1.heap.Ns b m → (hidT s1.heap U).Ns b m := fun {b m} ⟨o, es, ep, e, d, r⟩ => ⟨o, es, ep, stays e (free e d), d, r⟩
    have kh : K.In (hidT s1.heap U) := fun b o e => stays (kin b o e) <| by
      cases z : U b with
      | none => rfl
      | some u =>
        obtain rfl : b = a := just b (by rw [z]; exact Option.some_ne_none u)
        have := hid (by rw [z]; exact Option.some_ne_none u)
        rw [this] at e; cases e
    obtain ⟨mc, l1, l2⟩ := id nolim
    have en : Env0 P w K mg (hidT s1.heap U) callerA [] s1 U :=
      ⟨rfl, ⟨kh, nsp hm, ⟨mb, nsp hbl, hbb⟩, ⟨mc, nsp l1, l2⟩⟩, fun b o e => of_hidT e, Nat.le_of_eq (hidT_size _ _), trivial, fun b hb => absurd (show b ∈ ([] : List Addr) from hb) (List.not_mem_nil), ok, .of_eq gens⟩
    refine codeAny_mono ((F _ kh (nsp hm)).run callerA [] s1 U ⟨[.ref a], []⟩ [.ref a] [.ref a] _ _ rfl room en (bind s1 (.ref a)) (.cons rfl .nil) (asks U only sq)) fun res s2 z => ?_
    match res, z with
    | .error e, z => exact (noexc U e s2 z).elim
    | .ok .next, z => exact z.elim
    | .ok .brk, z => exact z.elim
    | .ok .cont, z => exact z.elim
    | .ok (.ret u), z =>
      obtain ⟨v, U2, os, bare, un, ok2, rv, q⟩ := z
      have q : v = .bl true := q
      subst q
      obtain rfl : u = Value.bool true := rv
      refine ⟨rfl, OldK.of_keep fun b o e => ?_, os, bare⟩
      rcases only b with n | ⟨ob, xs, n⟩
      · exact un.keep b o e n (fun m => nomatch (show b ∈ ([] : List Addr) from m)) (fun m => nomatch m)
      · have e1 := (ok b _ n).1
        rw [e] at e1
        obtain rfl := Option.some.inj e1
        exact (ok2 b _ (un.frzs b o _ n)).1
  cases hk : K.lookup a with
  | some o =>
    have e := kin a o hk
    rw [hs] at e
    obtain rfl := Option.some.inj e
    exact main (fun _ => none) (fun _ => .inl rfl) (.inr ⟨_, vs.toArray, _, hk, rfl, rfl, rfl, by rw [List.size_toArray, are.length]; exact len, by simpa using rel⟩) (fun b u z => nomatch z) (fun b z => absurd rfl z) fun z => absurd rfl z
  | none =>
    have at1 : ∀ b, b ≠ a → (fun b => if b = a then some (HO.frz { cls := .type "list", data := .seq vs.toArray } (.lst (ns.map V.int))) else none : Hp) b = none := fun b hb => if_neg hb
    have at2 : (fun b => if b = a then some (HO.frz { cls := .type "list", data := .seq vs.toArray } (.lst (ns.map V.int))) else none : Hp) a = some (HO.frz { cls := .type "list", data := .seq vs.toArray } (.lst (ns.map V.int))) := if_pos rfl
    refine main (fun b => if b = a then some (HO.frz { cls := .type "list", data := .seq vs.toArray } (.lst (ns.map V.int))) else none) (fun b => ?_) (.inl (.inr ⟨_, at2⟩)) (fun b u z => ?_) (fun b z => ?_) fun _ => hk
    · by_cases hb : b = a
      · subst hb; exact .inr ⟨_, _, at2⟩
      · exact .inl (at1 b hb)
    · by_cases hb : b = a
      · subst hb
        rw [at2] at z
        obtain rfl := Option.some.inj z
        exact ⟨hs, by rw [List.length_map]; exact len, vs, _, rel, hs⟩
      · rw [at1 b hb] at z; cases z
    · exact Classical.byContradiction fun hb => z (at1 b hb)
theorem walk_ofG {l : PySem.W.OpenLaw} {n k : Nat} {q : Program} {loose : List Str} {XP : (Str → Option Value) → Heap → Prop} {YP : World → Heap → Prop} {d : DefRec} {K : Params → PySem.W.Frag} {cx : World → CXT} {sp : World → Sp} {x : Str}
    (hn : l.most = some n) (hn2 : n ≤ sizeLine) (hdf : d.params.defaults = []) (room : Room k callerA) (hY : ∀ (w : World) (h : Heap), YP w h → (K w.params).In h)
    (F : ∀ (w : World) (mg : Str → Option Value) (fa : Addr) (h : Heap), (K w.params).In h → h.Ns mainGlobals mg → mg d.name = some (.ref fa) →
      ∃ fd : FuncData, (∀ (s : Shared) (u : Value), BindsTo s fd ⟨[u], []⟩ [(x, u)]) ∧ ∀ base : Heap, (K w.params).In base → base.Ns mainGlobals mg → FnG l.prog w (K w.params) mg base (cx w) k fa fd [x] (sp w))
    (asks : ∀ (w : World) (H : Hp) (a : Addr) (ns : List Int), ns.length ≤ n → Only H → SqL (K w.params) H a (ns.map V.int) → sp w [.ref a] H (fun v _ => v = .bl true) fun _ _ _ => False)
    (noexc : ∀ (w : World) (H : Hp) (s : Shared) (e : Value) (s' : Shared), cx w [] H s (fun _ _ _ => False) e s' → False) : PySem.W.WalkO q loose XP YP l.row.toRowW d [] (fun f vs => PySem.call f vs) := by
  refine Att.attach_call hn hdf fun w s0 s1 mg mb fa o pm cd doc a vs ns G Y ho hd hcd hmg hobj hints hlen hg => ?_
  have kx := hY w _ Y
  obtain ⟨fd, hb, hF⟩ := F w mg fa _ kx G.T.g hmg
  exact law_callG kx G.T.g G.T.b G.T.builtins G.T.nolimit hg hobj hints (Nat.le_trans hlen hn2) room hF hb (fun U o1 o2 => asks w U a ns hlen o1 o2) fun U e s' => noexc w U s1 e s'
end KW

set_option Elab.async false
set_option linter.all false
set_option maxRecDepth 100000
set_option maxHeartbeats 4000000
/-! values, logical heap, results; how they are represented -/
namespace KW
open PySem L2

inductive W where
  | non
  | bl (b : Bool)
  | int (i : Int)
  | str (s : Str)
  | tup (ws : List W)
  | lst (ws : List W)
  | dct (ks vs : List W)
  | ins (c : Nat) (fs : List Nat) (vs : List W)
  | ref (a : Nat)
  | scr (ns : List Int)
  deriving Inhabited

mutual
def W.eqb : W → W → Bool
  | .non, .non => true
  | .bl b, .bl c => b == c
  | .int i, .int j => i == j
  | .str s, .str t => s == t
  | .tup ws, .tup us => W.eqbs ws us
  | .lst ws, .lst us => W.eqbs ws us
  | .dct ks vs, .dct ks' vs' => W.eqbs ks ks' && W.eqbs vs vs'
  | .ins c fs vs, .ins c' fs' vs' => c == c' && fs == fs' && W.eqbs vs vs'
  | .ref a, .ref b => a == b
  | .scr a, .scr b => a == b
  | _, _ => false
def W.eqbs : List W → List W → Bool
  | [], [] => true
  | w :: ws, u :: us => W.eqb w u && W.eqbs ws us
  | _, _ => false
end
mutual
theorem W.eqb_eq : ∀ {a b : W}, W.eqb a b = true → a = b
  | .non, b, h => by cases b <;> simp_all [W.eqb]
  | .bl x, b, h => by cases b <;> simp_all [W.eqb]
  | .int x, b, h => by cases b <;> simp_all [W.eqb]
  | .str x, b, h => by cases b <;> simp_all [W.eqb]
  | .tup ws, b, h => by
    cases b <;> simp only [W.eqb, Bool.false_eq_true] at h
    rw [W.eqbs_eq h]
  | .lst ws, b, h => by
    cases b <;> simp only [W.eqb, Bool.false_eq_true] at h
    rw [W.eqbs_eq h]
  | .dct ks vs, b, h => by
    cases b <;> simp only [W.eqb, Bool.false_eq_true, Bool.and_eq_true] at h
    rw [W.eqbs_eq h.1, W.eqbs_eq h.2]
  | .ins c fs vs, b, h => by
    cases b <;> simp only [W.eqb, Bool.false_eq_true, Bool.and_eq_true, beq_iff_eq] at h
    rw [h.1.1, h.1.2, W.eqbs_eq h.2]
  | .ref x, b, h => by cases b <;> simp_all [W.eqb]
  | .scr x, b, h => by cases b <;> simp_all [W.eqb]
theorem W.eqbs_eq : ∀ {a b : List W}, W.eqbs a b = true → a = b
  | [], b, h => by cases b <;> simp_all [W.eqbs]
  | w :: ws, b, h => by
    cases b <;> simp only [W.eqbs, Bool.false_eq_true, Bool.and_eq_true] at h
    rw [W.eqb_eq h.1, W.eqbs_eq h.2]
end
mutual
theorem W.eqb_refl : ∀ a : W, W.eqb a a = true
  | .non => by simp [W.eqb]
  | .bl x => by simp [W.eqb]
  | .int x => by simp [W.eqb]
  | .str x => by simp [W.eqb]
  | .tup ws => by simp [W.eqb, W.eqbs_refl ws]
  | .lst ws => by simp [W.eqb, W.eqbs_refl ws]
  | .dct ks vs => by simp [W.eqb, W.eqbs_refl ks, W.eqbs_refl vs]
  | .ins c fs vs => by simp [W.eqb, W.eqbs_refl vs]
  | .ref x => by simp [W.eqb]
  | .scr x => by simp [W.eqb]
theorem W.eqbs_refl : ∀ a : List W, W.eqbs a a = true
  | [] => by simp [W.eqbs]
  | w :: ws => by simp [W.eqbs, W.eqb_refl w, W.eqbs_refl ws]
end
instance : DecidableEq W := fun a b => if h : W.eqb a b = true then .isTrue (W.eqb_eq h) else .isFalse fun e => h (by rw [e]; exact W.eqb_refl b)

inductive Ob where
  | lst (ws : List W)
  | dct (ks vs : List W)
  | ins (c : Nat) (fs : List Nat) (vs : List W)
  /-- a dict whose keys are nested tuples -/
  | td (ks vs : List W)
  | dead
  deriving DecidableEq, Inhabited

abbrev WH := List Ob
abbrev WS := List (Option W)

inductive R (α : Type) where
  | ok (a : α) (h : WH)
  | exc (c : Nat) (fs : List Nat) (vs : List W) (h : WH)
  | no

def R.bind {α β : Type} (r : R α) (f : α → WH → R β) : R β := match r with
  | .ok a h => f a h
  | .exc c fs vs h => .exc c fs vs h
  | .no => .no

mutual
def W.lt (n : Nat) : W → Bool
  | .tup ws => W.lts n ws
  | .lst ws => W.lts n ws
  | .dct ks vs => W.lts n ks && W.lts n vs
  | .ins _ _ vs => W.lts n vs
  | .ref a => decide (a < n)
  | _ => true
def W.lts (n : Nat) : List W → Bool
  | [] => true
  | w :: ws => W.lt n w && W.lts n ws
end
def Ob.lt (n : Nat) : Ob → Bool
  | .lst ws => W.lts n ws
  | .dct ks vs => W.lts n ks && W.lts n vs
  | .ins _ _ vs => W.lts n vs
  | .td ks vs => W.lts n ks && W.lts n vs
  | .dead => true


/-! ### how values are represented -/
/-- the program's own: the written part, the classes' addresses, the attributes' names -/
structure Gx where
  P : Program
  w : World
  K : PySem.W.Frag
  cl : Nat → Option Addr
  fn : Nat → Str
  /-- the attributes that a class's instances may have -/
  lay : Nat → Nat → Bool

/-- frozen objects; where the logical objects stand -/
structure Ka where
  F : Hp
  mu : List Addr

def keyW : Key → W
  | .inl i => .int i
  | .inr s => .str s

mutual
def Rep (G : Gx) (k : Ka) : W → V → Prop
  | .non, v => v = .non
  | .bl b, v => v = .bl b
  | .int i, v => v = .int i
  | .str s, v => v = .str s
  | .tup ws, v => ∃ p vs, v = .ref p ∧ SqT G.K k.F p vs ∧ RepL G k ws vs
  | .lst ws, v => ∃ p vs, v = .ref p ∧ k.F p = some (.lst vs) ∧ RepL G k ws vs
  | .dct ks ws, v => ∃ p kvs, v = .ref p ∧ k.F p = some (.dK kvs) ∧ ks = kvs.map (fun x => keyW x.1) ∧ RepL G k ws (kvs.map (·.2))
  | .ins c fs ws, v => ∃ p C dx fvs, v = .ref p ∧ (G.cl c = some C ∧ fs.all (G.lay c) = true) ∧ k.F p = some (.ins C dx fvs) ∧ fvs.map (·.1) = fs.map G.fn ∧ RepL G k ws (fvs.map (·.2))
  | .ref a, v => ∃ p, v = .ref p ∧ k.mu[a]? = some p
  | .scr ns, v => ∃ p, v = .ref p ∧ SqL G.K k.F p (ns.map V.int)
def RepL (G : Gx) (k : Ka) : List W → List V → Prop
  | [], vs => vs = []
  | w :: ws, vs => ∃ v r, vs = v :: r ∧ Rep G k w v ∧ RepL G k ws r
end

theorem RepL.length {G : Gx} {k : Ka} : ∀ {ws : List W} {vs : List V}, RepL G k ws vs → vs.length = ws.length
  | [], vs, h => by simp only [RepL] at h; subst h; rfl
  | w :: ws, vs, h => by
    simp only [RepL] at h
    obtain ⟨v, r, rfl, _, h2⟩ := h
    simp [RepL.length h2]
theorem RepL.get {G : Gx} {k : Ka} : ∀ {ws : List W} {vs : List V} {i : Nat} {w : W}, RepL G k ws vs → ws[i]? = some w → ∃ v, vs[i]? = some v ∧ Rep G k w v
  | [], vs, i, w, h, e => by simp at e
  | w :: ws, vs, 0, w', h, e => by
    simp only [RepL] at h
    obtain ⟨v, r, rfl, h1, h2⟩ := h
    simp at e; subst e
    exact ⟨v, rfl, h1⟩
  | w :: ws, vs, i + 1, w', h, e => by
    simp only [RepL] at h
    obtain ⟨v, r, rfl, h1, h2⟩ := h
    simpa using RepL.get h2 (by simpa using e)
theorem RepL.append {G : Gx} {k : Ka} : ∀ {ws us : List W} {vs xs : List V}, RepL G k ws vs → RepL G k us xs → RepL G k (ws ++ us) (vs ++ xs)
  | [], us, vs, xs, h, h' => by simp only [RepL] at h; subst h; exact h'
  | w :: ws, us, vs, xs, h, h' => by
    simp only [RepL] at h
    obtain ⟨v, r, rfl, h1, h2⟩ := h
    simp only [List.cons_append, RepL]
    exact ⟨v, r ++ xs, rfl, h1, RepL.append h2 h'⟩
theorem RepL.one {G : Gx} {k : Ka} {w : W} {v : V} (h : Rep G k w v) : RepL G k [w] [v] := by
  simp only [RepL]; exact ⟨v, [], rfl, h, rfl⟩
theorem RepL.drop {G : Gx} {k : Ka} : ∀ {ws : List W} {vs : List V} (n : Nat), RepL G k ws vs → RepL G k (ws.drop n) (vs.drop n)
  | ws, vs, 0, h => by simpa using h
  | [], vs, n + 1, h => by simp only [RepL] at h; subst h; simp [RepL]
  | w :: ws, vs, n + 1, h => by
    simp only [RepL] at h
    obtain ⟨v, r, rfl, h1, h2⟩ := h
    simpa using RepL.drop n h2
theorem RepL.take {G : Gx} {k : Ka} : ∀ {ws : List W} {vs : List V} (n : Nat), RepL G k ws vs → RepL G k (ws.take n) (vs.take n)
  | ws, vs, 0, h => by simp [RepL]
  | [], vs, n + 1, h => by simp only [RepL] at h; subst h; simp [RepL]
  | w :: ws, vs, n + 1, h => by
    simp only [RepL] at h
    obtain ⟨v, r, rfl, h1, h2⟩ := h
    simp only [List.take_succ_cons, RepL]
    exact ⟨v, r.take n, rfl, h1, RepL.take n h2⟩
theorem RepL.set {G : Gx} {k : Ka} : ∀ {ws : List W} {vs : List V} {w : W} {v : V} (n : Nat), RepL G k ws vs → Rep G k w v → RepL G k (ws.set n w) (vs.set n v)
  | [], vs, w, v, n, h, _ => by simp only [RepL] at h; subst h; simp [RepL]
  | w' :: ws, vs, w, v, 0, h, hv => by
    simp only [RepL] at h
    obtain ⟨v', r, rfl, h1, h2⟩ := h
    simp only [List.set_cons_zero, RepL]
    exact ⟨v, r, rfl, hv, h2⟩
  | w' :: ws, vs, w, v, n + 1, h, hv => by
    simp only [RepL] at h
    obtain ⟨v', r, rfl, h1, h2⟩ := h
    simp only [List.set_cons_succ, RepL]
    exact ⟨v', r.set n v, rfl, h1, RepL.set n h2 hv⟩
theorem RepL.eraseIdx {G : Gx} {k : Ka} : ∀ {ws : List W} {vs : List V} (n : Nat), RepL G k ws vs → RepL G k (ws.eraseIdx n) (vs.eraseIdx n)
  | [], vs, n, h => by simp only [RepL] at h; subst h; simp [RepL]
  | w' :: ws, vs, 0, h => by
    simp only [RepL] at h
    obtain ⟨v', r, rfl, h1, h2⟩ := h
    simpa using h2
  | w' :: ws, vs, n + 1, h => by
    simp only [RepL] at h
    obtain ⟨v', r, rfl, h1, h2⟩ := h
    simp only [List.eraseIdx_cons_succ, RepL]
    exact ⟨v', r.eraseIdx n, rfl, h1, RepL.eraseIdx n h2⟩
theorem RepL.reverse {G : Gx} {k : Ka} : ∀ {ws : List W} {vs : List V}, RepL G k ws vs → RepL G k ws.reverse vs.reverse
  | [], vs, h => by simp only [RepL] at h; subst h; simp [RepL]
  | w' :: ws, vs, h => by
    simp only [RepL] at h
    obtain ⟨v', r, rfl, h1, h2⟩ := h
    simp only [List.reverse_cons]
    exact RepL.append (RepL.reverse h2) (RepL.one h1)

/-- more frozen objects, more logical ones -/
structure Ka.Le (k k' : Ka) : Prop where
  F : ∀ a o, k.F a = some o → k'.F a = some o
  mu : k.mu <+: k'.mu
theorem Ka.Le.refl (k : Ka) : k.Le k := ⟨fun _ _ h => h, List.prefix_refl _⟩
theorem Ka.Le.trans {k k1 k2 : Ka} (a : k.Le k1) (b : k1.Le k2) : k.Le k2 := ⟨fun x o h => b.F x o (a.F x o h), a.mu.trans b.mu⟩
theorem Ka.Le.seqT {K : PySem.W.Frag} {F F' : Hp} (h : ∀ a o, F a = some o → F' a = some o) {p : Addr} {vs : List V} (q : SqT K F p vs) : SqT K F' p vs := by
  rcases q with (q | ⟨o, q⟩) | q
  · exact .inl (.inl (h _ _ q))
  · exact .inl (.inr ⟨o, h _ _ q⟩)
  · exact .inr q
theorem Ka.Le.seqL {K : PySem.W.Frag} {F F' : Hp} (h : ∀ a o, F a = some o → F' a = some o) {p : Addr} {vs : List V} (q : SqL K F p vs) : SqL K F' p vs := by
  rcases q with (q | ⟨o, q⟩) | q
  · exact .inl (.inl (h _ _ q))
  · exact .inl (.inr ⟨o, h _ _ q⟩)
  · exact .inr q
theorem prefix_get {α : Type} {l l' : List α} (h : l <+: l') {i : Nat} {x : α} (e : l[i]? = some x) : l'[i]? = some x := by
  obtain ⟨r, rfl⟩ := h
  rw [List.getElem?_append_left (List.getElem?_eq_some_iff.mp e).1]
  exact e

mutual
theorem Rep.mono {G : Gx} {k k' : Ka} (l : k.Le k') : ∀ {w : W} {v : V}, Rep G k w v → Rep G k' w v
  | .non, v, h => by simpa only [Rep] using h
  | .bl _, v, h => by simpa only [Rep] using h
  | .int _, v, h => by simpa only [Rep] using h
  | .str _, v, h => by simpa only [Rep] using h
  | .tup ws, v, h => by
    simp only [Rep] at h ⊢
    obtain ⟨p, vs, e, q, r⟩ := h
    exact ⟨p, vs, e, Ka.Le.seqT l.F q, RepL.mono l r⟩
  | .lst ws, v, h => by
    simp only [Rep] at h ⊢
    obtain ⟨p, vs, e, q, r⟩ := h
    exact ⟨p, vs, e, l.F _ _ q, RepL.mono l r⟩
  | .dct ks ws, v, h => by
    simp only [Rep] at h ⊢
    obtain ⟨p, kvs, e, q, e2, r⟩ := h
    exact ⟨p, kvs, e, l.F _ _ q, e2, RepL.mono l r⟩
  | .ins c fs ws, v, h => by
    simp only [Rep] at h ⊢
    obtain ⟨p, C, dx, fvs, e, e1, q, e2, r⟩ := h
    exact ⟨p, C, dx, fvs, e, e1, l.F _ _ q, e2, RepL.mono l r⟩
  | .ref a, v, h => by
    simp only [Rep] at h ⊢
    obtain ⟨p, e, q⟩ := h
    exact ⟨p, e, prefix_get l.mu q⟩
  | .scr ns, v, h => by
    simp only [Rep] at h ⊢
    obtain ⟨p, e, q⟩ := h
    exact ⟨p, e, Ka.Le.seqL l.F q⟩
theorem RepL.mono {G : Gx} {k k' : Ka} (l : k.Le k') : ∀ {ws : List W} {vs : List V}, RepL G k ws vs → RepL G k' ws vs
  | [], vs, h => by simpa only [RepL] using h
  | w :: ws, vs, h => by
    simp only [RepL] at h ⊢
    obtain ⟨v, r, e, h1, h2⟩ := h
    exact ⟨v, r, e, Rep.mono l h1, RepL.mono l h2⟩
end

/-- fewer logical objects: what names the elder ones alone stays -/
def Ka.cut (k : Ka) (n : Nat) : Ka := ⟨k.F, k.mu.take n⟩
mutual
theorem Rep.cut {G : Gx} {k : Ka} {n : Nat} : ∀ {w : W} {v : V}, Rep G k w v → w.lt n = true → Rep G (k.cut n) w v
  | .non, v, h, _ => by simpa only [Rep] using h
  | .bl _, v, h, _ => by simpa only [Rep] using h
  | .int _, v, h, _ => by simpa only [Rep] using h
  | .str _, v, h, _ => by simpa only [Rep] using h
  | .tup ws, v, h, c => by
    simp only [Rep] at h ⊢
    obtain ⟨p, vs, e, q, r⟩ := h
    exact ⟨p, vs, e, q, RepL.cut r (by simpa only [W.lt] using c)⟩
  | .lst ws, v, h, c => by
    simp only [Rep] at h ⊢
    obtain ⟨p, vs, e, q, r⟩ := h
    exact ⟨p, vs, e, q, RepL.cut r (by simpa only [W.lt] using c)⟩
  | .dct ks ws, v, h, c => by
    simp only [Rep] at h ⊢
    obtain ⟨p, kvs, e, q, e2, r⟩ := h
    simp only [W.lt, Bool.and_eq_true] at c
    exact ⟨p, kvs, e, q, e2, RepL.cut r c.2⟩
  | .ins c fs ws, v, h, l => by
    simp only [Rep] at h ⊢
    obtain ⟨p, C, dx, fvs, e, e1, q, e2, r⟩ := h
    exact ⟨p, C, dx, fvs, e, e1, q, e2, RepL.cut r (by simpa only [W.lt] using l)⟩
  | .ref a, v, h, c => by
    simp only [Rep] at h ⊢
    obtain ⟨p, e, q⟩ := h
    simp only [W.lt, decide_eq_true_eq] at c
    refine ⟨p, e, ?_⟩
    show (k.mu.take n)[a]? = some p
    rw [List.getElem?_take, if_pos c]; exact q
  | .scr ns, v, h, _ => by
    simp only [Rep] at h ⊢
    obtain ⟨p, e, q⟩ := h
    exact ⟨p, e, q⟩
theorem RepL.cut {G : Gx} {k : Ka} {n : Nat} : ∀ {ws : List W} {vs : List V}, RepL G k ws vs → W.lts n ws = true → RepL G (k.cut n) ws vs
  | [], vs, h, _ => by simpa only [RepL] using h
  | w :: ws, vs, h, c => by
    simp only [RepL] at h ⊢
    simp only [W.lts, Bool.and_eq_true] at c
    obtain ⟨v, r, e, h1, h2⟩ := h
    exact ⟨v, r, e, Rep.cut h1 c.1, RepL.cut h2 c.2⟩
end
theorem keys_lt {n : Nat} : ∀ kvs : List (Key × V), W.lts n (kvs.map fun x => keyW x.1) = true
  | [] => by simp [W.lts]
  | (.inl i, v) :: r => by
    simp only [List.map_cons, W.lts, keys_lt r, Bool.and_true]; rfl
  | (.inr i, v) :: r => by
    simp only [List.map_cons, W.lts, keys_lt r, Bool.and_true]; rfl
mutual
theorem Rep.lt {G : Gx} {k : Ka} : ∀ {w : W} {v : V}, Rep G k w v → w.lt k.mu.length = true
  | .non, v, h => by simp [W.lt]
  | .bl _, v, h => by simp [W.lt]
  | .int _, v, h => by simp [W.lt]
  | .str _, v, h => by simp [W.lt]
  | .tup ws, v, h => by
    simp only [Rep] at h
    obtain ⟨p, vs, e, q, r⟩ := h
    simp only [W.lt]; exact RepL.lts r
  | .lst ws, v, h => by
    simp only [Rep] at h
    obtain ⟨p, vs, e, q, r⟩ := h
    simp only [W.lt]; exact RepL.lts r
  | .dct ks ws, v, h => by
    simp only [Rep] at h
    obtain ⟨p, kvs, e, q, e2, r⟩ := h
    simp only [W.lt, Bool.and_eq_true]
    exact ⟨by rw [e2]; exact keys_lt _, RepL.lts r⟩
  | .ins c fs ws, v, h => by
    simp only [Rep] at h
    obtain ⟨p, C, dx, fvs, e, e1, q, e2, r⟩ := h
    simp only [W.lt]; exact RepL.lts r
  | .ref a, v, h => by
    simp only [Rep] at h
    obtain ⟨p, e, q⟩ := h
    simp only [W.lt, decide_eq_true_eq]
    exact (List.getElem?_eq_some_iff.mp q).1
  | .scr ns, v, h => by simp [W.lt]
theorem RepL.lts {G : Gx} {k : Ka} : ∀ {ws : List W} {vs : List V}, RepL G k ws vs → W.lts k.mu.length ws = true
  | [], vs, h => by simp [W.lts]
  | w :: ws, vs, h => by
    simp only [RepL] at h
    obtain ⟨v, r, e, h1, h2⟩ := h
    simp only [W.lts, Bool.and_eq_true]
    exact ⟨Rep.lt h1, RepL.lts h2⟩
end

/-! ### keys that are nested tuples -/
mutual
def nkW : W → Option NestedKey
  | .non => some .none
  | .bl b => some (.num (if b = true then 1 else 0))
  | .int i => some (.num i)
  | .str s => some (.text s)
  | .tup ws => (nkWs ws).map .tup
  | _ => none
def nkWs : List W → Option (List NestedKey)
  | [] => some []
  | w :: ws => match nkW w, nkWs ws with | some k, some ks => some (k :: ks) | _, _ => none
end
mutual
theorem nk_of {G : Gx} {k : Ka} {H : Hp} (sub : ∀ a o, k.F a = some o → H a = some o) : ∀ {w : W} {v : V} {n : NestedKey}, Rep G k w v → nkW w = some n → NkV G.K H n v
  | .non, v, n, r, e => by simp only [Rep] at r; simp only [nkW] at e; cases e; subst r; exact .non
  | .bl _, v, n, r, e => by simp only [Rep] at r; simp only [nkW] at e; cases e; subst r; exact .bl _
  | .int _, v, n, r, e => by simp only [Rep] at r; simp only [nkW] at e; cases e; subst r; exact .int _
  | .str _, v, n, r, e => by simp only [Rep] at r; simp only [nkW] at e; cases e; subst r; exact .str _
  | .tup ws, v, n, r, e => by
    simp only [Rep] at r
    obtain ⟨p, vs, rfl, q, r⟩ := r
    simp only [nkW] at e
    obtain ⟨ns, e1, rfl⟩ := Option.map_eq_some_iff.mp e
    exact .tup (Ka.Le.seqT sub q) (nks_of sub r e1)
  | .lst _, v, n, r, e => by simp [nkW] at e
  | .dct _ _, v, n, r, e => by simp [nkW] at e
  | .ins _ _ _, v, n, r, e => by simp [nkW] at e
  | .ref _, v, n, r, e => by simp [nkW] at e
  | .scr _, v, n, r, e => by simp [nkW] at e
theorem nks_of {G : Gx} {k : Ka} {H : Hp} (sub : ∀ a o, k.F a = some o → H a = some o) : ∀ {ws : List W} {vs : List V} {ns : List NestedKey}, RepL G k ws vs → nkWs ws = some ns → NkVs G.K H ns vs
  | [], vs, ns, r, e => by simp only [RepL] at r; simp only [nkWs] at e; cases e; subst r; exact .nil
  | w :: ws, vs, ns, r, e => by
    simp only [RepL] at r
    obtain ⟨v, vs', rfl, r1, r2⟩ := r
    simp only [nkWs] at e
    split at e
    · rename_i e1 e2
      cases e
      exact .cons (nk_of sub r1 e1) (nks_of sub r2 e2)
    · cases e
end
/-- the pairs of such a dict -/
def TdR (G : Gx) (k : Ka) : List W → List W → List (NestedKey × Addr × V) → Prop
  | [], ws, xs => ws = [] ∧ xs = []
  | y :: ks, ws, xs => ∃ w us n b v r, ws = w :: us ∧ xs = (n, b, v) :: r ∧ nkW y = some n ∧ n.depth ≤ 8 ∧ Rep G k y (.ref b) ∧ Rep G k w v ∧ TdR G k ks us r
theorem TdR.mono {G : Gx} {k k' : Ka} (l : k.Le k') : ∀ {ks ws : List W} {xs : List (NestedKey × Addr × V)}, TdR G k ks ws xs → TdR G k' ks ws xs
  | [], ws, xs, h => h
  | y :: ks, ws, xs, h => by
    obtain ⟨w, us, n, b, v, r, e1, e2, e3, e4, r1, r2, t⟩ := h
    exact ⟨w, us, n, b, v, r, e1, e2, e3, e4, r1.mono l, r2.mono l, t.mono l⟩
theorem TdR.cut {G : Gx} {k : Ka} {n : Nat} : ∀ {ks ws : List W} {xs : List (NestedKey × Addr × V)}, TdR G k ks ws xs → W.lts n ks = true → W.lts n ws = true → TdR G (k.cut n) ks ws xs
  | [], ws, xs, h, _, _ => h
  | y :: ks, ws, xs, h, c1, c2 => by
    obtain ⟨w, us, m, b, v, r, rfl, e2, e3, e4, r1, r2, t⟩ := h
    simp only [W.lts, Bool.and_eq_true] at c1 c2
    exact ⟨w, us, m, b, v, r, rfl, e2, e3, e4, r1.cut c1.1, r2.cut c2.1, t.cut c1.2 c2.2⟩
theorem TdR.lt {G : Gx} {k : Ka} : ∀ {ks ws : List W} {xs : List (NestedKey × Addr × V)}, TdR G k ks ws xs → W.lts k.mu.length ks = true ∧ W.lts k.mu.length ws = true
  | [], ws, xs, h => by
    obtain ⟨rfl, rfl⟩ := h
    simp [W.lts]
  | y :: ks, ws, xs, h => by
    obtain ⟨w, us, m, b, v, r, rfl, e2, e3, e4, r1, r2, t⟩ := h
    simp only [W.lts, Bool.and_eq_true]
    exact ⟨⟨r1.lt, t.lt.1⟩, ⟨r2.lt, t.lt.2⟩⟩
theorem TdR.all {G : Gx} {k : Ka} {H : Hp} (sub : ∀ a o, k.F a = some o → H a = some o) : ∀ {ks ws : List W} {xs : List (NestedKey × Addr × V)}, TdR G k ks ws xs → NkAll G.K H xs
  | [], ws, xs, h => by
    obtain ⟨rfl, rfl⟩ := h
    exact fun x hx => nomatch hx
  | y :: ks, ws, xs, h => by
    obtain ⟨w, us, m, b, v, r, rfl, rfl, e3, e4, r1, r2, t⟩ := h
    intro x hx
    rcases List.mem_cons.mp hx with rfl | hx
    · exact ⟨nk_of sub r1 e3, e4⟩
    · exact t.all sub x hx
theorem TdR.length {G : Gx} {k : Ka} : ∀ {ks ws : List W} {xs : List (NestedKey × Addr × V)}, TdR G k ks ws xs → xs.length = ks.length
  | [], ws, xs, h => by
    obtain ⟨rfl, rfl⟩ := h
    rfl
  | y :: ks, ws, xs, h => by
    obtain ⟨w, us, m, b, v, r, rfl, rfl, e3, e4, r1, r2, t⟩ := h
    simp [t.length]
/-- what stands at a key -/
def getT (n : NestedKey) : List W → List W → Option W
  | y :: ks, w :: ws => if nkW y = some n then some w else getT n ks ws
  | _, _ => none
def putT (n : NestedKey) (y w : W) : List W → List W → List W × List W
  | z :: ks, u :: ws => if nkW z = some n then (z :: ks, w :: ws) else let r := putT n y w ks ws; (z :: r.1, u :: r.2)
  | _, _ => ([y], [w])
theorem TdR.get {G : Gx} {k : Ka} {n : NestedKey} : ∀ {ks ws : List W} {xs : List (NestedKey × Addr × V)}, TdR G k ks ws xs → (getT n ks ws = none ∧ getN xs n = none) ∨ ∃ w v, getT n ks ws = some w ∧ getN xs n = some v ∧ Rep G k w v
  | [], ws, xs, h => by
    obtain ⟨rfl, rfl⟩ := h
    exact .inl ⟨rfl, rfl⟩
  | y :: ks, ws, xs, h => by
    obtain ⟨w, us, m, b, v, r, rfl, rfl, e3, e4, r1, r2, t⟩ := h
    unfold getT
    by_cases z : m = n
    · subst z
      exact .inr ⟨w, v, by rw [if_pos e3], by simp [getN], r2⟩
    · rw [if_neg (by rw [e3]; simpa using z)]
      have q : getN ((m, b, v) :: r) n = getN r n := by simp [getN, z]
      rw [q]
      exact t.get
theorem getN_cons {m n : NestedKey} {b : Addr} {v : V} {r : List (NestedKey × Addr × V)} (z : ¬ m = n) : getN ((m, b, v) :: r) n = getN r n := by simp [getN, z]
theorem getN_none {n : NestedKey} : ∀ {xs : List (NestedKey × Addr × V)}, getN xs n = none → n ∉ xs.map (·.1)
  | [], _, hm => nomatch hm
  | (m, b, v) :: r, h, hm => by
    by_cases z : m = n
    · subst z; simp [getN] at h
    · rw [getN_cons z] at h
      rcases List.mem_cons.mp hm with e | e
      · exact z e.symm
      · exact getN_none h e
theorem putN_keys {n : NestedKey} {b : Addr} {v : V} {xs : List (NestedKey × Addr × V)} (nd : (xs.map (·.1)).Nodup) : ((putN xs n b v).map (·.1)).Nodup := by
  unfold putN
  split
  · have e : (xs.map fun x => if x.1 = n then (x.1, x.2.1, v) else x).map (·.1) = xs.map (·.1) := by
      rw [List.map_map]
      refine List.map_congr_left fun x _ => ?_
      by_cases z : x.1 = n <;> simp [z]
    rw [e]; exact nd
  · rename_i h
    rw [List.map_append]
    refine List.nodup_append.mpr ⟨nd, by simp, fun a ha c hc => ?_⟩
    simp at hc; subst hc
    intro z; subst z
    exact getN_none (by simpa using h) ha
theorem TdR.put {G : Gx} {k : Ka} {n : NestedKey} {y w : W} {b : Addr} {v : V} (hy : nkW y = some n) (hd : n.depth ≤ 8) (ry : Rep G k y (.ref b)) (rw' : Rep G k w v) : ∀ {ks ws : List W} {xs : List (NestedKey × Addr × V)}, TdR G k ks ws xs → (xs.map (·.1)).Nodup →
    TdR G k (putT n y w ks ws).1 (putT n y w ks ws).2 (putN xs n b v)
  | [], ws, xs, h, _ => by
    obtain ⟨rfl, rfl⟩ := h
    exact ⟨w, [], n, b, v, [], rfl, rfl, hy, hd, ry, rw', rfl, rfl⟩
  | z :: ks, ws, xs, h, nd => by
    obtain ⟨u, us, m, b0, v0, r, rfl, rfl, e3, e4, r1, r2, t⟩ := h
    rw [List.map_cons, List.nodup_cons] at nd
    unfold putT
    by_cases q : m = n
    · subst q
      rw [if_pos e3]
      have e : putN ((m, b0, v0) :: r) m b v = (m, b0, v) :: r := by
        unfold putN
        rw [if_pos (by simp [getN])]
        rw [List.map_cons, if_pos rfl]
        congr 1
        conv => rhs; rw [← List.map_id r]
        refine List.map_congr_left fun x hx => ?_
        rw [if_neg fun z => nd.1 (List.mem_map.mpr ⟨x, hx, z⟩)]; rfl
      rw [e]
      exact ⟨w, us, m, b0, v, r, rfl, rfl, e3, e4, r1, rw', t⟩
    · rw [if_neg (by rw [e3]; simpa using q)]
      have e : putN ((m, b0, v0) :: r) n b v = (m, b0, v0) :: putN r n b v := by
        unfold putN
        rw [getN_cons q]
        split
        · rw [List.map_cons, if_neg q]
        · rfl
      rw [e]
      exact ⟨u, _, m, b0, v0, _, rfl, rfl, e3, e4, r1, r2, t.put hy hd ry rw' nd.2⟩

/-! ### the heap -/
def ORep (G : Gx) (k : Ka) (H : Hp) (p : Addr) : Ob → Prop
  | .lst ws => ∃ vs, H p = some (.lst vs) ∧ RepL G k ws vs
  | .dct ks ws => ∃ kvs, H p = some (.dK kvs) ∧ (kvs.map (·.1)).Nodup ∧ ks = kvs.map (fun x => keyW x.1) ∧ RepL G k ws (kvs.map (·.2))
  | .ins c fs ws => ∃ C dx fvs, (G.cl c = some C ∧ fs.all (G.lay c) = true) ∧ H p = some (.ins C dx fvs) ∧ fvs.map (·.1) = fs.map G.fn ∧ RepL G k ws (fvs.map (·.2))
  | .td ks ws => ∃ xs, H p = some (dnH G.P G.w p xs) ∧ (xs.map (·.1)).Nodup ∧ TdR G k ks ws xs
  | .dead => True
theorem ORep.mono {G : Gx} {k k' : Ka} {H H' : Hp} {p : Addr} (l : k.Le k') (e : H' p = H p) : ∀ {o : Ob}, ORep G k H p o → ORep G k' H' p o
  | .lst ws, ⟨vs, q, r⟩ => ⟨vs, e.trans q, r.mono l⟩
  | .dct ks ws, ⟨kvs, q, nd, e2, r⟩ => ⟨kvs, e.trans q, nd, e2, r.mono l⟩
  | .ins c fs ws, ⟨C, dx, fvs, e1, q, e2, r⟩ => ⟨C, dx, fvs, e1, e.trans q, e2, r.mono l⟩
  | .td ks ws, ⟨xs, q, nd, r⟩ => ⟨xs, e.trans q, nd, r.mono l⟩
  | .dead, _ => trivial
theorem ORep.cut {G : Gx} {k : Ka} {H : Hp} {p : Addr} {n : Nat} : ∀ {o : Ob}, ORep G k H p o → o.lt n = true → ORep G (k.cut n) H p o
  | .lst ws, ⟨vs, q, r⟩, c => ⟨vs, q, r.cut c⟩
  | .dct ks ws, ⟨kvs, q, nd, e2, r⟩, c => ⟨kvs, q, nd, e2, r.cut (by simp only [Ob.lt, Bool.and_eq_true] at c; exact c.2)⟩
  | .ins c fs ws, ⟨C, dx, fvs, e1, q, e2, r⟩, l => ⟨C, dx, fvs, e1, q, e2, r.cut l⟩
  | .td ks ws, ⟨xs, q, nd, r⟩, c => ⟨xs, q, nd, by simp only [Ob.lt, Bool.and_eq_true] at c; exact r.cut c.1 c.2⟩
  | .dead, _, _ => trivial
theorem ORep.lt {G : Gx} {k : Ka} {H : Hp} {p : Addr} : ∀ {o : Ob}, ORep G k H p o → o.lt k.mu.length = true
  | .lst ws, ⟨vs, q, r⟩ => r.lts
  | .dct ks ws, ⟨kvs, q, nd, e2, r⟩ => by simp only [Ob.lt, Bool.and_eq_true]; exact ⟨by rw [e2]; exact keys_lt _, r.lts⟩
  | .ins c fs ws, ⟨C, dx, fvs, e1, q, e2, r⟩ => r.lts
  | .td ks ws, ⟨xs, q, nd, r⟩ => by simp only [Ob.lt, Bool.and_eq_true]; exact r.lt
  | .dead, _ => rfl

structure HRep (G : Gx) (k : Ka) (H : Hp) (h : WH) : Prop where
  sub : ∀ a o, k.F a = some o → H a = some o
  len : k.mu.length = h.length
  nd : k.mu.Nodup
  trk : ∀ a ∈ k.mu, H a ≠ none
  ob : ∀ (i : Nat) o p, h[i]? = some o → k.mu[i]? = some p → ORep G k H p o ∧ (o ≠ .dead → k.F p = none ∧ Mut (H p))

/-- from one state to a later one -/
structure Nxt (k : Ka) (H : Hp) (k' : Ka) (H' : Hp) : Prop where
  le : k.Le k'
  oth : ∀ a, H a ≠ none → a ∉ k.mu → H' a = H a
  fro : ∀ a o, k'.F a = some o → k.F a = some o ∨ H a = none ∨ a ∈ k.mu
  new : ∀ a ∈ k'.mu, a ∈ k.mu ∨ H a = none
  trk : ∀ a, H a ≠ none → H' a ≠ none
theorem Nxt.refl (k : Ka) (H : Hp) : Nxt k H k H := ⟨.refl k, fun _ _ _ => rfl, fun _ _ h => .inl h, fun _ h => .inl h, fun _ h => h⟩
theorem Nxt.trans {k k1 k2 : Ka} {H H1 H2 : Hp} (a : Nxt k H k1 H1) (b : Nxt k1 H1 k2 H2) : Nxt k H k2 H2 where
  le := a.le.trans b.le
  oth := fun x hx nx => by
    have h1 : x ∉ k1.mu := fun hm => (a.new x hm).elim nx hx
    rw [b.oth x (a.trk x hx) h1, a.oth x hx nx]
  fro := fun x o hx => by
    rcases b.fro x o hx with h | h | h
    · exact a.fro x o h
    · exact .inr (.inl (Classical.byContradiction fun c => a.trk x c h))
    · rcases a.new x h with h | h
      · exact .inr (.inr h)
      · exact .inr (.inl h)
  new := fun x hx => by
    rcases b.new x hx with h | h
    · exact a.new x h
    · exact .inr (Classical.byContradiction fun c => a.trk x c h)
  trk := fun x hx => b.trk x (a.trk x hx)

/-- a new object, tracked, frozen -/
def Ka.froz (k : Ka) (p : Addr) (o : HO) : Ka := ⟨upd k.F p o, k.mu⟩
def Ka.more (k : Ka) (p : Addr) : Ka := ⟨k.F, k.mu ++ [p]⟩
section
variable {G : Gx} {k : Ka} {H : Hp} {h : WH} {p : Addr} {o : HO}
theorem HRep.noF (x : HRep G k H h) (hp : H p = none) : k.F p = none := by
  cases e : k.F p with
  | none => rfl
  | some o => rw [x.sub p o e] at hp; cases hp
theorem HRep.noMu (x : HRep G k H h) (hp : H p = none) : p ∉ k.mu := fun hm => x.trk p hm hp
theorem le_froz (hp : k.F p = none) : k.Le (k.froz p o) := ⟨fun a u e => by
  show upd k.F p o a = some u
  rw [upd_ne (fun z => by rw [z, hp] at e; cases e)]; exact e, List.prefix_refl _⟩
theorem le_more : k.Le (k.more p) := ⟨fun _ _ e => e, List.prefix_append _ _⟩
theorem HRep.froz (x : HRep G k H h) (hp : H p = none) : HRep G (k.froz p o) (upd H p o) h where
  sub := fun a u e => by
    by_cases z : a = p
    · subst z
      have e' : upd k.F a o a = some u := e
      rw [upd_same] at e' ⊢; exact e'
    · have e' : upd k.F p o a = some u := e
      rw [upd_ne z] at e' ⊢; exact x.sub a u e'
  len := x.len
  nd := x.nd
  trk := fun a ha => by
    have z : a ≠ p := fun z => x.noMu hp (by rw [← z]; exact ha)
    rw [upd_ne z]; exact x.trk a ha
  ob := fun i u q e1 e2 => by
    obtain ⟨r, n⟩ := x.ob i u q e1 e2
    have z : q ≠ p := fun z => x.noMu hp (z ▸ List.mem_of_getElem? e2)
    refine ⟨r.mono (le_froz (x.noF hp)) (upd_ne z), fun d => ?_⟩
    obtain ⟨n1, n2⟩ := n d
    exact ⟨(upd_ne z).trans n1, by rw [upd_ne z]; exact n2⟩
theorem Nxt.froz (x : HRep G k H h) (hp : H p = none) : Nxt k H (k.froz p o) (upd H p o) where
  le := le_froz (x.noF hp)
  oth := fun a ha _ => upd_ne fun z => ha (z ▸ hp)
  fro := fun a u e => by
    by_cases z : a = p
    · subst z; exact .inr (.inl hp)
    · have e' : upd k.F p o a = some u := e
      rw [upd_ne z] at e'; exact .inl e'
  new := fun a ha => .inl ha
  trk := fun a ha => by
    have z : a ≠ p := fun z => ha (by rw [z]; exact hp)
    rw [upd_ne z]; exact ha
theorem HRep.more {ob : Ob} (x : HRep G k H h) (hp : H p = none) (r : ORep G (k.more p) (upd H p o) p ob) (m : Mut (some o)) : HRep G (k.more p) (upd H p o) (h ++ [ob]) where
  sub := fun a u e => by
    have z : a ≠ p := fun z => by
      have := x.sub a u e
      rw [z, hp] at this; cases this
    rw [upd_ne z]; exact x.sub a u e
  len := by show (k.mu ++ [p]).length = _; simp [x.len]
  nd := by
    show (k.mu ++ [p]).Nodup
    rw [List.nodup_append]
    refine ⟨x.nd, by simp, fun a ha b hb => ?_⟩
    simp at hb; subst hb
    exact fun z => x.noMu hp (z ▸ ha)
  trk := fun a ha => by
    have ha' : a ∈ k.mu ++ [p] := ha
    rcases List.mem_append.mp ha' with ha | ha
    · have z : a ≠ p := fun z => x.noMu hp (by rw [← z]; exact ha)
      rw [upd_ne z]; exact x.trk a ha
    · simp at ha; subst ha; rw [upd_same]; simp
  ob := fun i u q e1 e2 => by
    have e2' : (k.mu ++ [p])[i]? = some q := e2
    by_cases hi : i < h.length
    · rw [List.getElem?_append_left hi] at e1
      rw [List.getElem?_append_left (by rw [x.len]; exact hi)] at e2'
      obtain ⟨r', n⟩ := x.ob i u q e1 e2'
      have z : q ≠ p := fun z => x.noMu hp (z ▸ List.mem_of_getElem? e2')
      refine ⟨r'.mono le_more (upd_ne z), fun d => ?_⟩
      obtain ⟨n1, n2⟩ := n d
      exact ⟨n1, by rw [upd_ne z]; exact n2⟩
    · rw [List.getElem?_append_right (by omega)] at e1
      rw [List.getElem?_append_right (by rw [x.len]; omega)] at e2'
      have hi0 : i - h.length = 0 := by
        have := (List.getElem?_eq_some_iff.mp e1).1
        simp at this; omega
      rw [hi0] at e1
      rw [x.len, hi0] at e2'
      simp at e1 e2'
      subst e1; subst e2'
      exact ⟨r, fun _ => ⟨x.noF hp, by rw [upd_same]; exact m⟩⟩
theorem Nxt.more (x : HRep G k H h) (hp : H p = none) : Nxt k H (k.more p) (upd H p o) where
  le := le_more
  oth := fun a ha _ => upd_ne fun z => ha (z ▸ hp)
  fro := fun a u e => .inl e
  new := fun a ha => by
    have ha' : a ∈ k.mu ++ [p] := ha
    rcases List.mem_append.mp ha' with ha | ha
    · exact .inl ha
    · simp at ha; subst ha; exact .inr hp
  trk := fun a ha => by
    have z : a ≠ p := fun z => ha (by rw [z]; exact hp)
    rw [upd_ne z]; exact ha
/-- a logical object is written -/
theorem HRep.put {i : Nat} {ob' : Ob} (x : HRep G k H h) (e2 : k.mu[i]? = some p) (hF : k.F p = none) (r : ORep G k (upd H p o) p ob') (m : Mut (some o)) : HRep G k (upd H p o) (h.set i ob') where
  sub := fun a u e => by
    have z : a ≠ p := fun z => by rw [z, hF] at e; cases e
    rw [upd_ne z]; exact x.sub a u e
  len := by rw [List.length_set]; exact x.len
  nd := x.nd
  trk := fun a ha => by
    by_cases z : a = p
    · rw [z, upd_same]; simp
    · rw [upd_ne z]; exact x.trk a ha
  ob := fun j u q e1 e3 => by
    by_cases hj : i = j
    · subst hj
      rw [e2] at e3; cases e3
      rw [List.getElem?_set_self (by rw [← x.len]; exact (List.getElem?_eq_some_iff.mp e2).1)] at e1
      cases e1
      exact ⟨r, fun _ => ⟨hF, by rw [upd_same]; exact m⟩⟩
    · rw [List.getElem?_set_ne hj] at e1
      obtain ⟨r', n⟩ := x.ob j u q e1 e3
      have z : q ≠ p := fun z => hj (nd_ix x.nd (z ▸ e2) e3)
      refine ⟨r'.mono (.refl k) (upd_ne z), fun d => ?_⟩
      obtain ⟨n1, n2⟩ := n d
      exact ⟨n1, by rw [upd_ne z]; exact n2⟩
theorem Nxt.put {i : Nat} (x : HRep G k H h) (e2 : k.mu[i]? = some p) : Nxt k H k (upd H p o) where
  le := .refl k
  oth := fun a ha na => upd_ne fun z => na (z ▸ List.mem_of_getElem? e2)
  fro := fun a u e => .inl e
  new := fun a ha => .inl ha
  trk := fun a ha => by
    by_cases z : a = p
    · rw [z, upd_same]; simp
    · rw [upd_ne z]; exact ha
/-- a logical object is frozen as it stands -/
theorem HRep.kill {i : Nat} {u : HO} (x : HRep G k H h) (e2 : k.mu[i]? = some p) (hF : k.F p = none) (hH : H p = some u) : HRep G (k.froz p u) H (h.set i .dead) where
  sub := fun a o e => by
    by_cases z : a = p
    · subst z
      have e' : upd k.F a u a = some o := e
      rw [upd_same] at e'; cases e'; exact hH
    · have e' : upd k.F p u a = some o := e
      rw [upd_ne z] at e'; exact x.sub a o e'
  len := by rw [List.length_set]; exact x.len
  nd := x.nd
  trk := x.trk
  ob := fun j o q e1 e3 => by
    by_cases hj : i = j
    · subst hj
      rw [List.getElem?_set_self (by rw [← x.len]; exact (List.getElem?_eq_some_iff.mp e2).1)] at e1
      cases e1
      exact ⟨trivial, fun d => absurd rfl d⟩
    · rw [List.getElem?_set_ne hj] at e1
      obtain ⟨r', n⟩ := x.ob j o q e1 e3
      have z : q ≠ p := fun z => hj (nd_ix x.nd (z ▸ e2) e3)
      refine ⟨r'.mono (le_froz hF) rfl, fun d => ?_⟩
      obtain ⟨n1, n2⟩ := n d
      exact ⟨(upd_ne z).trans n1, n2⟩
theorem Nxt.kill {i : Nat} {u : HO} (x : HRep G k H h) (e2 : k.mu[i]? = some p) (hF : k.F p = none) : Nxt k H (k.froz p u) H where
  le := le_froz hF
  oth := fun a ha na => rfl
  fro := fun a o e => by
    by_cases z : a = p
    · subst z; exact .inr (.inr (List.mem_of_getElem? e2))
    · have e' : upd k.F p u a = some o := e
      rw [upd_ne z] at e'; exact .inl e'
  new := fun a ha => .inl ha
  trk := fun a ha => ha
end

/-- what a call leaves of the heap: the new objects go, where nothing names them -/
def gc (n : Nat) (w : W) (h : WH) (h' : WH) : WH :=
  if w.lt n && ((List.range n).all fun i => decide (h'[i]? = h[i]?) || (match h'[i]? with | some o => o.lt n | none => true)) then h'.take n else h'
theorem HRep.gc {G : Gx} {k k' : Ka} {H H' : Hp} {h h' : WH} {w : W} {v : V} (x : HRep G k H h) (y : HRep G k' H' h') (n : Nxt k H k' H') (r : Rep G k' w v) :
    ∃ k2, Nxt k H k2 H' ∧ HRep G k2 H' (gc h.length w h h') ∧ Rep G k2 w v := by
  unfold KW.gc
  split
  · rename_i c
    simp only [Bool.and_eq_true, List.all_eq_true, List.mem_range, Bool.or_eq_true, decide_eq_true_eq] at c
    obtain ⟨c1, c2⟩ := c
    have em : k'.mu.take h.length = k.mu := by
      obtain ⟨t, ht⟩ := n.le.mu
      rw [← ht, ← x.len]; simp
    have lh : h.length ≤ h'.length := by
      rw [← x.len, ← y.len]
      exact n.le.mu.length_le
    refine ⟨k'.cut h.length, ⟨⟨n.le.F, by show k.mu <+: k'.mu.take h.length; rw [em]; exact List.prefix_refl _⟩, n.oth, n.fro, fun a ha => ?_, n.trk⟩, ⟨y.sub, ?_, ?_, fun a ha => ?_, fun i o p e1 e2 => ?_⟩, r.cut c1⟩
    · have ha' : a ∈ k'.mu.take h.length := ha
      rw [em] at ha'; exact .inl ha'
    · show (k'.mu.take h.length).length = _
      rw [em, List.length_take, x.len]; omega
    · show (k'.mu.take h.length).Nodup
      rw [em]; exact x.nd
    · have ha' : a ∈ k'.mu.take h.length := ha
      rw [em] at ha'; exact n.trk a (x.trk a ha')
    · have e2' : (k'.mu.take h.length)[i]? = some p := e2
      have hi : i < h.length := by
        have := (List.getElem?_eq_some_iff.mp e1).1
        rw [List.length_take] at this; omega
      rw [List.getElem?_take, if_pos hi] at e1 e2'
      obtain ⟨r', d⟩ := y.ob i o p e1 e2'
      refine ⟨r'.cut ?_, d⟩
      rcases c2 i hi with q | q
      · rw [e1] at q
        obtain ⟨p0, hp0⟩ : ∃ p0, k.mu[i]? = some p0 := ⟨_, List.getElem?_eq_getElem (by rw [x.len]; exact hi)⟩
        have := (x.ob i o p0 q.symm hp0).1.lt
        rwa [x.len] at this
      · rw [e1] at q; exact q
  · exact ⟨k', n, y, r⟩

end KW

set_option Elab.async false
set_option linter.all false
set_option maxRecDepth 100000
set_option maxHeartbeats 4000000
/-! readings by results: what a piece of code gives, said of values -/
namespace KW
open PySem L2

/-- slots -/
def SRep (G : Gx) (k : Ka) (sw : WS) (σ : St) : Prop := sw.length = σ.length ∧ ∀ (i : Nat) w, sw[i]? = some (some w) → ∃ v, σ[i]? = some (some v) ∧ Rep G k w v
theorem SRep.mono {G : Gx} {k k' : Ka} {sw : WS} {σ : St} (l : k.Le k') (h : SRep G k sw σ) : SRep G k' sw σ :=
  ⟨h.1, fun i w e => let ⟨v, e1, r⟩ := h.2 i w e; ⟨v, e1, r.mono l⟩⟩
theorem SRep.set {G : Gx} {k : Ka} {sw : WS} {σ : St} {w : W} {v : V} (i : Nat) (h : SRep G k sw σ) (r : Rep G k w v) : SRep G k (sw.set i (some w)) (σ.set i (some v)) := by
  refine ⟨by rw [List.length_set, List.length_set]; exact h.1, fun j u e => ?_⟩
  by_cases hj : i = j
  · subst hj
    by_cases hl : i < sw.length
    · rw [List.getElem?_set_self hl] at e
      cases e
      exact ⟨v, List.getElem?_set_self (by rw [← h.1]; exact hl), r⟩
    · rw [List.getElem?_eq_none (by simpa using hl)] at e; cases e
  · rw [List.getElem?_set_ne hj] at e
    obtain ⟨v', e1, r'⟩ := h.2 j u e
    exact ⟨v', by rw [List.getElem?_set_ne hj]; exact e1, r'⟩
theorem SRep.drop {G : Gx} {k : Ka} {sw : WS} {σ : St} (i : Nat) (h : SRep G k sw σ) : SRep G k (sw.set i none) σ := by
  refine ⟨by rw [List.length_set]; exact h.1, fun j u e => ?_⟩
  by_cases hj : i = j
  · subst hj
    by_cases hl : i < sw.length
    · rw [List.getElem?_set_self hl] at e; cases e
    · rw [List.getElem?_eq_none (by simpa using hl)] at e; cases e
  · rw [List.getElem?_set_ne hj] at e
    exact h.2 j u e
theorem SRep.unset {G : Gx} {k : Ka} {sw : WS} {σ : St} (i : Nat) (h : SRep G k sw σ) : SRep G k (sw.set i none) (σ.set i none) := by
  refine ⟨by rw [List.length_set, List.length_set]; exact h.1, fun j u e => ?_⟩
  by_cases hj : i = j
  · subst hj
    by_cases hl : i < sw.length
    · rw [List.getElem?_set_self hl] at e; cases e
    · rw [List.getElem?_eq_none (by simpa using hl)] at e; cases e
  · rw [List.getElem?_set_ne hj] at e
    obtain ⟨v', e1, r'⟩ := h.2 j u e
    exact ⟨v', by rw [List.getElem?_set_ne hj]; exact e1, r'⟩

/-- an exception as it flies -/
def XRep (G : Gx) (k : Ka) (H : Hp) (c : Nat) (fs : List Nat) (ws : List W) (C : Addr) (d : Option Addr) : Prop :=
  G.cl c = some C ∧ match d with
    | none => fs = [] ∧ ws = []
    | some dx => ∃ fvs, H dx = some (.xd fvs) ∧ fvs.map (·.1) = fs.map G.fn ∧ RepL G k ws (fvs.map (·.2))

section
variable {α β : Type}
/-- what a result promises -/
def Den (G : Gx) (rp : Ka → α → β → Prop) (wx : WX) (k : Ka) (H : Hp) (σ : St) (r : R α) (Q : β → Hp → Prop) : Prop := match r with
  | .ok w h' => ∀ v k' H', Nxt k H k' H' → HRep G k' H' h' → rp k' w v → Q v H'
  | .exc c fs vs h' => ∀ C d k' H', Nxt k H k' H' → HRep G k' H' h' → XRep G k' H' c fs vs C d → wx (.ref C) d σ H'
  | .no => False
theorem Den.imp {G : Gx} {rp : Ka → α → β → Prop} {wx : WX} {k : Ka} {H : Hp} {σ : St} {r : R α} {Q Q' : β → Hp → Prop} (h : Den G rp wx k H σ r Q) (hQ : ∀ v H', Q v H' → Q' v H') : Den G rp wx k H σ r Q' := by
  cases r with
  | ok w h' => exact fun v k' H' n x r => hQ v H' (h v k' H' n x r)
  | exc c fs vs h' => exact h
  | no => exact h
/-- one thing after another -/
theorem Den.bind {γ δ : Type} {G : Gx} {rp : Ka → α → β → Prop} {rq : Ka → γ → δ → Prop} {wx : WX} {k : Ka} {H : Hp} {σ : St} {r : R α} {f : α → WH → R γ} {Q : δ → Hp → Prop} (h : Den G rq wx k H σ (r.bind f) Q) :
    Den G rp wx k H σ r fun v H' => ∃ k' w h', Nxt k H k' H' ∧ HRep G k' H' h' ∧ rp k' w v ∧ Den G rq wx k' H' σ (f w h') Q := by
  cases r with
  | ok w h' =>
    refine fun v k' H' n x r => ⟨k', w, h', n, x, r, ?_⟩
    have h1 : Den G rq wx k H σ (f w h') Q := h
    cases e : f w h' with
    | ok w2 h2 =>
      rw [e] at h1
      exact fun v2 k2 H2 n2 x2 r2 => h1 v2 k2 H2 (n.trans n2) x2 r2
    | exc c fs vs h2 =>
      rw [e] at h1
      exact fun C d k2 H2 n2 x2 r2 => h1 C d k2 H2 (n.trans n2) x2 r2
    | no => rw [e] at h1; exact h1
  | exc c fs vs h' => exact h
  | no => exact h
end

abbrev EV := WS → WH → R W
abbrev EA := WS → WH → R (List W)
abbrev EB := WS → WH → R Bool
/-- readings of expressions, of arguments, of tests -/
def TEx (G : Gx) (wx : WX) (ev : EV) : TE := fun σ H Q => ∃ k sw h, SRep G k sw σ ∧ HRep G k H h ∧ Den G (Rep G) wx k H σ (ev sw h) Q
def TAx (G : Gx) (wx : WX) (ev : EA) : TA := fun σ H Q => ∃ k sw h, SRep G k sw σ ∧ HRep G k H h ∧ Den G (RepL G) wx k H σ (ev sw h) Q
def TTx (G : Gx) (wx : WX) (ev : EB) : TT := fun σ H Q => ∃ k sw h, SRep G k sw σ ∧ HRep G k H h ∧ Den G (fun _ a b => a = b) wx k H σ (ev sw h) Q

inductive Fl where
  | next (s : WS) | ret (w : W) | brk (s : WS) | cont (s : WS)
inductive RS where
  | ok (f : Fl) (h : WH)
  | exc (s : WS) (c : Nat) (fs : List Nat) (vs : List W) (h : WH)
  | no
abbrev EW := WS → WH → RS
def DenS (G : Gx) (wx : WX) (k : Ka) (H : Hp) (r : RS) (D : Ends) : Prop := match r with
  | .ok (.next s') h' => ∀ σ' k' H', Nxt k H k' H' → HRep G k' H' h' → SRep G k' s' σ' → D.nx σ' H'
  | .ok (.brk s') h' => ∀ σ' k' H', Nxt k H k' H' → HRep G k' H' h' → SRep G k' s' σ' → D.bk σ' H'
  | .ok (.cont s') h' => ∀ σ' k' H', Nxt k H k' H' → HRep G k' H' h' → SRep G k' s' σ' → D.ct σ' H'
  | .ok (.ret w) h' => ∀ v k' H', Nxt k H k' H' → HRep G k' H' h' → Rep G k' w v → D.rt v H'
  | .exc s' c fs vs h' => ∀ σ' C d k' H', Nxt k H k' H' → HRep G k' H' h' → SRep G k' s' σ' → XRep G k' H' c fs vs C d → wx (.ref C) d σ' H'
  | .no => False
def TSx (G : Gx) (wx : WX) (ev : EW) : TS := fun D σ H => ∃ k sw h, SRep G k sw σ ∧ HRep G k H h ∧ DenS G wx k H (ev sw h) D
theorem DenS.nxt {G : Gx} {wx : WX} {k k1 : Ka} {H H1 : Hp} {r : RS} {D : Ends} (n : Nxt k H k1 H1) (h : DenS G wx k H r D) : DenS G wx k1 H1 r D := by
  cases r with
  | ok f h' => cases f <;> exact fun a k' H' n' => h a k' H' (n.trans n')
  | exc s c fs vs h' => exact fun a C d k' H' n' => h a C d k' H' (n.trans n')
  | no => exact h
theorem Den.nxt {α β : Type} {G : Gx} {rp : Ka → α → β → Prop} {wx : WX} {k k1 : Ka} {H H1 : Hp} {σ : St} {r : R α} {Q : β → Hp → Prop} (n : Nxt k H k1 H1) (h : Den G rp wx k H σ r Q) : Den G rp wx k1 H1 σ r Q := by
  cases r with
  | ok f h' => exact fun a k' H' n' => h a k' H' (n.trans n')
  | exc c fs vs h' => exact fun C d k' H' n' => h C d k' H' (n.trans n')
  | no => exact h

/-! ### judgements: code and what it gives -/
theorem PE_imp {X : Cx} {e : Expr} {t t' : TE} (h : PE X e t) (i : ∀ σ H Q, t' σ H Q → t σ H Q) : PE X e t' := ⟨fun pins s σ H Q I q => h.run pins s σ H Q I (i σ H Q q)⟩
theorem PT_imp {X : Cx} {e : Expr} {t t' : TT} (h : PT X e t) (i : ∀ σ H Q, t' σ H Q → t σ H Q) : PT X e t' := ⟨fun pins s σ H Q I q => h.run pins s σ H Q I (i σ H Q q)⟩
theorem PA_imp {X : Cx} {e : List Expr} {t t' : TA} (h : PA X e t) (i : ∀ σ H Q, t' σ H Q → t σ H Q) : PA X e t' := ⟨fun pos pins s σ H Q I q => h.run pos pins s σ H Q I (i σ H Q q)⟩
theorem PS_imp {X : Cx} {e : Stmt} {t t' : TS} (h : PS X e t) (i : ∀ D σ H, t' D σ H → t D σ H) : PS X e t' := ⟨fun pins s σ H D I q => h.run pins s σ H D I (i D σ H q)⟩
theorem PSs_imp {X : Cx} {e : List Stmt} {t t' : TS} (h : PSs X e t) (i : ∀ D σ H, t' D σ H → t D σ H) : PSs X e t' := ⟨fun pins s σ H D I q => h.run pins s σ H D I (i D σ H q)⟩

/-- the code's surroundings, told once -/
inductive Gk where
  | fn (f : Nat) | cls (c : Nat) | cst (w : W) | blt

structure Ax extends Gx where
  /-- the names of the module -/
  gt : List (Str × Gk)
  /-- functions' addresses -/
  fa : Nat → Option Addr
  /-- a class's methods; their names; its __init__; is it told by value? -/
  mt : Nat → Nat → Option Nat
  mn : Nat → Str
  ini : Nat → Option Nat
  val : Nat → Bool
  /-- own exceptions: what each keeps; which class is another's -/
  exf : Nat → Option Nat
  sub : Nat → Nat → Option Bool

/-- what the module's names hold -/
structure GlobOk (A : Ax) (mg : Str → Option Value) : Prop where
  fn : ∀ x f, A.gt.lookup x = some (.fn f) → ∃ a, A.fa f = some a ∧ mg x = some (.ref a)
  cls : ∀ x c, A.gt.lookup x = some (.cls c) → ∃ C, A.cl c = some C ∧ mg x = some (.ref C)
  cst : ∀ x w, A.gt.lookup x = some (.cst w) → ∃ u v, mg x = some u ∧ RelV v u ∧ ∀ k, Rep A.toGx k w v
  blt : ∀ x, A.gt.lookup x = some .blt → mg x = none

/-- the context of a piece of code with the slots N -/
structure XOk (A : Ax) (N : List Str) (sc : Scope) (X : Cx) : Prop where
  hK : X.K = A.K
  hN : X.N = N
  hP : X.prog = A.P
  hw : X.w = A.w
  nd : N.Nodup
  hsc : X.env.scope = sc
  calm : X.calm = true
  gd : X.A.guards = some []
  glob : GlobOk A X.mg
  un : X.A.units + 70 < cLine

/-- an expression gives what ev gives -/
def WE (A : Ax) (X : Cx) (e : Expr) (ev : EV) : Prop := ∀ wx, Takes X wx → PE X e (TEx A.toGx wx ev)
def WA (A : Ax) (X : Cx) (e : List Expr) (ev : EA) : Prop := ∀ wx, Takes X wx → PA X e (TAx A.toGx wx ev)
def WT (A : Ax) (X : Cx) (e : Expr) (ev : EB) : Prop := ∀ wx, Takes X wx → PT X e (TTx A.toGx wx ev)
def WSt (A : Ax) (X : Cx) (e : Stmt) (ev : EW) : Prop := ∀ wx, Takes X wx → PassesOwn (model X.prog X.w) X.A X.env X.xe → PS X e (TSx A.toGx wx ev)
def WSs (A : Ax) (X : Cx) (e : List Stmt) (ev : EW) : Prop := ∀ wx, Takes X wx → PassesOwn (model X.prog X.w) X.A X.env X.xe → PSs X e (TSx A.toGx wx ev)

section
variable {A : Ax} {X : Cx} {N : List Str} {sc : Scope}
/-- names -/
def dVar (i : Nat) : EV := fun sw h => match sw[i]? with | some (some w) => .ok w h | _ => .no
theorem we_var (x : XOk A N sc X) {i : Nat} {n : Str} {pos : Pos} (hN : N[i]? = some n) (hv : Vis sc n) (hd : (n == ("__debug__" : Str)) = false) (hcd : (n == ("__classdict__" : Str)) = false) : WE A X (.Name n pos) (dVar i) := fun wx tk =>
  PE_imp (pe_var (by rw [x.hN]; exact hN) (by rw [x.hsc]; exact hv) hd hcd) fun σ H Q ⟨k, sw, h, hs, hh, d⟩ => by
    unfold dVar at d
    split at d
    · rename_i w e
      obtain ⟨v, e1, r⟩ := hs.2 i w e
      exact ⟨v, e1, d v k H (.refl k H) hh r⟩
    · exact d.elim
def dC (w : W) : EV := fun _ h => .ok w h
theorem we_c {e : Expr} {v : V} {w : W} (p : PE X e (tC v)) (r : ∀ k, Rep A.toGx k w v) : WE A X e (dC w) := fun wx tk =>
  PE_imp p fun σ H Q ⟨k, sw, h, hs, hh, d⟩ => d v k H (.refl k H) hh (r k)
theorem we_int {i j pos} : WE A X (.Constant (.int i) j pos) (dC (.int i)) := we_c pe_int fun _ => by simp only [Rep]
theorem we_bl {i j pos} : WE A X (.Constant (.bool i) j pos) (dC (.bl i)) := we_c pe_bl fun _ => by simp only [Rep]
theorem we_str {i j pos} : WE A X (.Constant (.str i) j pos) (dC (.str i)) := we_c pe_str fun _ => by simp only [Rep]
theorem we_non {j pos} : WE A X (.Constant .none j pos) (dC .non) := we_c pe_non fun _ => by simp only [Rep]
theorem we_cst (x : XOk A N sc X) {n : Str} {w : W} {pos : Pos} (hg : A.gt.lookup n = some (.cst w)) (hs : sc.names.lookup n = some .globalImplicit) (hd : (n == ("__debug__" : Str)) = false) : WE A X (.Name n pos) (dC w) := by
  obtain ⟨u, v, hm, r, rep⟩ := x.glob.cst n w hg
  exact we_c (pe_glob (by unfold Gl Env.kindOf; rw [x.hsc]; exact hs) hm r hd) rep


/-- what stands behind one part: the slots, the heap, the value, what is still wanted -/
theorem TEx.bind {G : Gx} {wx : WX} {a : EV} {f : WS → W → WH → R W} {σ : St} {H : Hp} {Q : VK} (t : TEx G wx (fun sw h => (a sw h).bind fun w h1 => f sw w h1) σ H Q) :
    TEx G wx a σ H fun v H1 => ∃ k sw w h1, SRep G k sw σ ∧ HRep G k H1 h1 ∧ Rep G k w v ∧ Den G (Rep G) wx k H1 σ (f sw w h1) Q := by
  obtain ⟨k, sw, h, hs, hh, d⟩ := t
  exact ⟨k, sw, h, hs, hh, d.bind.imp fun v H1 ⟨k', w, h', n, x, r, d'⟩ => ⟨k', sw, w, h', hs.mono n.le, x, r, d'⟩⟩
theorem TEx.bind2 {G : Gx} {wx : WX} {a b : EV} {f : W → W → WH → R W} {σ : St} {H : Hp} {Q : VK} (t : TEx G wx (fun sw h => (a sw h).bind fun w h1 => (b sw h1).bind fun u h2 => f w u h2) σ H Q) :
    TEx G wx a σ H fun v H1 => TEx G wx b σ H1 fun z H2 => ∃ k w u h2, HRep G k H2 h2 ∧ Rep G k w v ∧ Rep G k u z ∧ Den G (Rep G) wx k H2 σ (f w u h2) Q := by
  obtain ⟨k, sw, h, hs, hh, d⟩ := t
  refine ⟨k, sw, h, hs, hh, d.bind.imp fun v H1 ⟨k', w, h', n, x, r, d'⟩ => ?_⟩
  exact ⟨k', sw, h', hs.mono n.le, x, d'.bind.imp fun z H2 ⟨k2, u, h2, n2, x2, r2, d2⟩ => ⟨k2, w, u, h2, x2, r.mono n2.le, r2, d2⟩⟩
/-- arguments -/
def aNil : EA := fun _ h => .ok [] h
def aCons (a : EV) (r : EA) : EA := fun sw h => (a sw h).bind fun w h1 => (r sw h1).bind fun ws h2 => .ok (w :: ws) h2
theorem wa_nil : WA A X [] aNil := fun wx tk => PA_imp pa_nil fun σ H Q ⟨k, sw, h, hs, hh, d⟩ => d [] k H (.refl k H) hh (by simp only [RepL])
theorem wa_cons {e : Expr} {es : List Expr} {a : EV} {r : EA} (h1 : WE A X e a) (h2 : WA A X es r) (hs : starEach (e :: es) X.env = (false, eval e X.env) :: starEach es X.env) : WA A X (e :: es) (aCons a r) := fun wx tk =>
  PA_imp (pa_cons (h1 wx tk) (h2 wx tk) hs) fun σ H Q ⟨k, sw, h, hs, hh, d⟩ => by
    refine ⟨k, sw, h, hs, hh, Den.imp (Den.bind (rp := Rep A.toGx) d) fun v H1 ⟨k1, w, h1, n1, x1, r1, d1⟩ => ?_⟩
    refine ⟨k1, sw, h1, hs.mono n1.le, x1, Den.imp (Den.bind (rp := RepL A.toGx) d1) fun vs H2 ⟨k2, ws, h2, n2, x2, r2, d2⟩ => ?_⟩
    exact d2 (v :: vs) k2 H2 (.refl k2 H2) x2 (by simp only [RepL]; exact ⟨v, vs, rfl, r1.mono n2.le, r2⟩)
/-- what stands behind the arguments -/
theorem TAx.bind {G : Gx} {wx : WX} {a : EA} {f : WS → List W → WH → R W} {σ : St} {H : Hp} {Q : VK} (t : TEx G wx (fun sw h => (a sw h).bind fun w h1 => f sw w h1) σ H Q) :
    TAx G wx a σ H fun v H1 => ∃ k sw w h1, SRep G k sw σ ∧ HRep G k H1 h1 ∧ RepL G k w v ∧ Den G (Rep G) wx k H1 σ (f sw w h1) Q := by
  obtain ⟨k, sw, h, hs, hh, d⟩ := t
  exact ⟨k, sw, h, hs, hh, d.bind.imp fun v H1 ⟨k', w, h', n, x, r, d'⟩ => ⟨k', sw, w, h', hs.mono n.le, x, r, d'⟩⟩

/-! ### operators -/
/-- two values in, one out, by a rule of the hand layer -/
def OpW (A : Ax) (X : Cx) (r : R2) (f : W → W → WH → R W) : Prop :=
  ∀ (wx : WX) (k : Ka) (H : Hp) (σ : St) (h : WH) (x y : W) (u v : V) (Q : VK), HRep A.toGx k H h → Rep A.toGx k x u → Rep A.toGx k y v → Den A.toGx (Rep A.toGx) wx k H σ (f x y h) Q → r u v H Q
def dOp (f : W → W → WH → R W) (a b : EV) : EV := fun sw h => (a sw h).bind fun w h1 => (b sw h1).bind fun u h2 => f w u h2
theorem we_op {op : Operator} {a b : Expr} {pos : Pos} {ea eb : EV} {r : R2} {f : W → W → WH → R W} (ho : OpR X (binaryOp op) r) (hf : OpW A X r f) (ha : WE A X a ea) (hb : WE A X b eb) : WE A X (.BinOp a op b pos) (dOp f ea eb) := fun wx tk =>
  PE_imp (pe_op ho (ha wx tk) (hb wx tk)) fun σ H Q t => by
    refine Exists.elim (TEx.bind2 t) fun k hk => ?_
    obtain ⟨sw, h, hs, hh, d⟩ := hk
    exact ⟨k, sw, h, hs, hh, d.imp fun v H1 t2 => by
      obtain ⟨k1, sw1, h1, hs1, hh1, d1⟩ := t2
      exact ⟨k1, sw1, h1, hs1, hh1, d1.imp fun z H2 ⟨k2, w, u, h2, x2, r1, r2, d2⟩ => hf wx k2 H2 σ h2 w u v z Q x2 r1 r2 d2⟩⟩
theorem we_cmp {op : CmpOp} {a b : Expr} {pos : Pos} {ea eb : EV} {r : R2} {f : W → W → WH → R W} (ho : OpR X (compareOp op) r) (hf : OpW A X r f) (hm : behindInMarks op b = false) (ha : WE A X a ea) (hb : WE A X b eb) : WE A X (.Compare a [op] [b] pos) (dOp f ea eb) := fun wx tk =>
  PE_imp (pe_cmpR ho (ha wx tk) (hb wx tk) hm) fun σ H Q t => by
    refine Exists.elim (TEx.bind2 t) fun k hk => ?_
    obtain ⟨sw, h, hs, hh, d⟩ := hk
    exact ⟨k, sw, h, hs, hh, d.imp fun v H1 t2 => by
      obtain ⟨k1, sw1, h1, hs1, hh1, d1⟩ := t2
      exact ⟨k1, sw1, h1, hs1, hh1, d1.imp fun z H2 ⟨k2, w, u, h2, x2, r1, r2, d2⟩ => hf wx k2 H2 σ h2 w u v z Q x2 r1 r2 d2⟩⟩
end
end KW

set_option Elab.async false
set_option linter.all false
set_option maxRecDepth 100000
set_option maxHeartbeats 4000000
/-! operators, comparisons, truth, lengths -/
namespace KW
open PySem L2

def lim : Nat := 1000000
theorem lim_le {n : Nat} (h : n ≤ lim) : n ≤ sizeLine := Nat.le_trans h (by unfold lim; rw [sizeLine_eq]; decide)

def lstOf (h : WH) : W → Option (List W)
  | .lst ws => some ws
  | .ref a => match h[a]? with | some (.lst ws) => some ws | _ => none
  | _ => none
def seqOf (h : WH) : W → Option (List W)
  | .tup ws => some ws
  | .scr ns => some (ns.map .int)
  | w => lstOf h w

section
variable {G : Gx} {k : Ka} {H : Hp} {h : WH} {w : W} {ws : List W} {v : V}
theorem HRep.at (x : HRep G k H h) {a : Nat} {p : Addr} {o : Ob} (e : k.mu[a]? = some p) (ho : h[a]? = some o) : ORep G k H p o := (x.ob a o p ho e).1
theorem ref_at (x : HRep G k H h) {a : Nat} {o : Ob} (r : Rep G k (.ref a) v) (ho : h[a]? = some o) : ∃ p, v = .ref p ∧ k.mu[a]? = some p ∧ ORep G k H p o := by
  simp only [Rep] at r
  obtain ⟨p, e, q⟩ := r
  exact ⟨p, e, q, x.at q ho⟩
theorem listAt (x : HRep G k H h) (r : Rep G k w v) (e : lstOf h w = some ws) : ∃ p vs, v = .ref p ∧ H p = some (.lst vs) ∧ RepL G k ws vs := by
  cases w <;> simp only [lstOf, reduceCtorEq] at e
  · cases e
    simp only [Rep] at r
    obtain ⟨p, vs, e, q, r⟩ := r
    exact ⟨p, vs, e, x.sub _ _ q, r⟩
  · split at e
    · rename_i ho
      cases e
      obtain ⟨p, e1, q, vs, e2, r2⟩ := ref_at x r ho
      exact ⟨p, vs, e1, e2, r2⟩
    · cases e
theorem tupAt (x : HRep G k H h) (r : Rep G k (.tup ws) v) : ∃ p vs, v = .ref p ∧ SqT G.K H p vs ∧ RepL G k ws vs := by
  simp only [Rep] at r
  obtain ⟨p, vs, e, q, r⟩ := r
  exact ⟨p, vs, e, Ka.Le.seqT x.sub q, r⟩
theorem rep_ints : ∀ ns : List Int, RepL G k (ns.map .int) (ns.map V.int)
  | [] => by simp only [List.map_nil, RepL]
  | n :: ns => by
    simp only [List.map_cons, RepL]
    exact ⟨.int n, ns.map V.int, rfl, by simp only [Rep], rep_ints ns⟩
theorem ints_rep : ∀ {ns : List Int} {vs : List V}, RepL G k (ns.map .int) vs → vs = ns.map V.int
  | [], vs, h => by simpa only [List.map_nil, RepL] using h
  | n :: ns, vs, h => by
    simp only [List.map_cons, RepL] at h
    obtain ⟨v, r, rfl, h1, h2⟩ := h
    simp only [Rep] at h1
    rw [h1, ints_rep h2]; rfl
theorem scrAt (x : HRep G k H h) {ns : List Int} (r : Rep G k (.scr ns) v) : ∃ p, v = .ref p ∧ SqL G.K H p (ns.map V.int) := by
  simp only [Rep] at r
  obtain ⟨p, e, q⟩ := r
  exact ⟨p, e, Ka.Le.seqL x.sub q⟩
theorem seqAt (x : HRep G k H h) (r : Rep G k w v) (e : seqOf h w = some ws) : ∃ p vs, v = .ref p ∧ (SqL G.K H p vs ∨ SqT G.K H p vs) ∧ RepL G k ws vs := by
  have l : lstOf h w = some ws → ∃ p vs, v = .ref p ∧ (SqL G.K H p vs ∨ SqT G.K H p vs) ∧ RepL G k ws vs := fun e => by
    obtain ⟨p, vs, e1, q, r2⟩ := listAt x r e
    exact ⟨p, vs, e1, .inl (SqL.of q), r2⟩
  cases w <;> simp only [seqOf] at e <;> first | exact l e | skip
  · cases e
    obtain ⟨p, vs, e1, q, r2⟩ := tupAt x r
    exact ⟨p, vs, e1, .inr q, r2⟩
  · cases e
    obtain ⟨p, e1, q⟩ := scrAt x r
    exact ⟨p, _, e1, .inl q, rep_ints _⟩
end

/-- a new list: frozen, or a logical object -/
def newL (m : Bool) (ws : List W) (h : WH) : R W := if m then .ok (.ref h.length) (h ++ [.lst ws]) else .ok (.lst ws) h
section
variable {G : Gx} {wx : WX} {k : Ka} {H : Hp} {σ : St} {h : WH} {ws : List W} {vs : List V} {m : Bool} {Q : VK}
theorem den_newL (x : HRep G k H h) (r : RepL G k ws vs) (d : Den G (Rep G) wx k H σ (newL m ws h) Q) : ∀ p, H p = none → Q (.ref p) (upd H p (.lst vs)) := by
  intro p hp
  unfold newL at d
  split at d
  · refine d (.ref p) (k.more p) _ (Nxt.more x hp) (x.more hp ⟨vs, upd_same, r.mono le_more⟩ trivial) ?_
    simp only [Rep]
    refine ⟨p, rfl, ?_⟩
    show (k.mu ++ [p])[h.length]? = some p
    rw [← x.len]; simp
  · refine d (.ref p) (k.froz p (.lst vs)) _ (Nxt.froz x hp) (x.froz hp) ?_
    simp only [Rep]
    exact ⟨p, vs, rfl, upd_same, r.mono (le_froz (x.noF hp))⟩
theorem den_newT (x : HRep G k H h) (r : RepL G k ws vs) (d : Den G (Rep G) wx k H σ (.ok (.tup ws) h) Q) : ∀ p, H p = none → Q (.ref p) (upd H p (.tup vs)) := by
  intro p hp
  refine d (.ref p) (k.froz p (.tup vs)) _ (Nxt.froz x hp) (x.froz hp) ?_
  simp only [Rep]
  exact ⟨p, vs, rfl, SqT.of upd_same, r.mono (le_froz (x.noF hp))⟩
theorem den_val {w : W} {v : V} (x : HRep G k H h) (r : Rep G k w v) (d : Den G (Rep G) wx k H σ (.ok w h) Q) : Q v H := d v k H (.refl k H) x r
end

/-! ### the operators -/
def fAdd (m : Bool) (x y : W) (h : WH) : R W :=
  match x, y with
  | .int i, .int j => .ok (.int (i + j)) h
  | .str s, .str t => if s.length + t.length ≤ lim then .ok (.str (s ++ t)) h else .no
  | .tup a, .tup b => if a.length + b.length ≤ lim then .ok (.tup (a ++ b)) h else .no
  | x, y => match lstOf h x, lstOf h y with
    | some a, some b => if a.length + b.length ≤ lim then newL m (a ++ b) h else .no
    | _, _ => .no
def rAddW (K : PySem.W.Frag) : R2 := fun x y H Q => rI0 (fun i j => .int (i + j)) x y H Q ∨ (∃ i j, x = .str i ∧ y = .str j ∧ i.length + j.length ≤ sizeLine ∧ Q (.str (i ++ j)) H) ∨ rCatA K x y H Q ∨ rCat x y H Q
theorem op_addW {X : Cx} : OpR X (binaryOp .Add) (rAddW X.K) := op_add.or (op_add_str.or (op_catA.or op_cat))
theorem opw_add {A : Ax} {X : Cx} {m : Bool} (hK : X.K = A.K) : OpW A X (rAddW X.K) (fAdd m) := by
  intro wx k H σ h x y u v Q hh rx ry d
  have L : ∀ {d : Den A.toGx (Rep A.toGx) wx k H σ (match lstOf h x, lstOf h y with
    | some a, some b => if a.length + b.length ≤ lim then newL m (a ++ b) h else .no
    | _, _ => .no) Q}, rAddW X.K u v H Q := fun {d} => by
    split at d
    · rename_i a b e1 e2
      split at d
      · rename_i hl
        obtain ⟨p, vs, rfl, q1, r1⟩ := listAt hh rx e1
        obtain ⟨p2, vs2, rfl, q2, r2⟩ := listAt hh ry e2
        exact .inr (.inr (.inr ⟨p, p2, vs, vs2, rfl, rfl, q1, q2, by rw [r1.length, r2.length]; exact lim_le hl, den_newL hh (r1.append r2) d⟩))
      · exact d.elim
    · exact d.elim
  unfold fAdd at d
  split at d
  · simp only [Rep] at rx ry
    subst rx; subst ry
    exact .inl ⟨_, _, rfl, rfl, den_val hh (by simp only [Rep]) d⟩
  · split at d
    · rename_i hl
      simp only [Rep] at rx ry
      subst rx; subst ry
      exact .inr (.inl ⟨_, _, rfl, rfl, lim_le hl, den_val hh (by simp only [Rep]) d⟩)
    · exact d.elim
  · split at d
    · rename_i a b hl
      obtain ⟨p, vs, rfl, q1, r1⟩ := tupAt hh rx
      obtain ⟨p2, vs2, rfl, q2, r2⟩ := tupAt hh ry
      refine .inr (.inr (.inl ⟨p, p2, vs, vs2, rfl, rfl, by rw [hK]; exact q1, by rw [hK]; exact q2, by rw [r1.length, r2.length]; exact lim_le hl, fun e => ?_, fun e1 e => ?_, fun _ _ => den_newT hh (r1.append r2) d⟩))
      · have : a = [] := by
          have := r1.length
          rw [e] at this
          exact List.eq_nil_of_length_eq_zero this.symm
        subst this
        exact den_val hh ry d
      · have : b = [] := by
          have := r2.length
          rw [e] at this
          exact List.eq_nil_of_length_eq_zero this.symm
        subst this
        rw [List.append_nil] at d
        exact den_val hh rx d
    · exact d.elim
  · exact L (d := d)

def fSub (x y : W) (h : WH) : R W := match x, y with | .int i, .int j => .ok (.int (i - j)) h | _, _ => .no
theorem opw_sub {A : Ax} {X : Cx} : OpW A X (rI0 fun i j => .int (i - j)) fSub := by
  intro wx k H σ h x y u v Q hh rx ry d
  unfold fSub at d
  split at d
  · simp only [Rep] at rx ry
    subst rx; subst ry
    exact ⟨_, _, rfl, rfl, den_val hh (by simp only [Rep]) d⟩
  · exact d.elim
def fMul (m : Bool) (x y : W) (h : WH) : R W := match x, y with
  | .int i, .int j => if i.natAbs.log2 + j.natAbs.log2 < 1000000 then .ok (.int (i * j)) h else .no
  | .str s, .int j => if j = 0 then .ok (.str Str.empty) h else if j = 1 then .ok (.str s) h else .no
  | x, .int j => match lstOf h x with
    | some a => if j ≤ 1000000 ∧ 0 ≤ j ∧ a.length * j.toNat ≤ lim then newL m (List.replicate j.toNat a).flatten h else .no
    | none => .no
  | _, _ => .no
theorem RepL.rep {G : Gx} {k : Ka} {ws : List W} {vs : List V} (r : RepL G k ws vs) : ∀ n : Nat, RepL G k (List.replicate n ws).flatten (List.replicate n vs).flatten
  | 0 => by simp [RepL]
  | n + 1 => by
    simp only [List.replicate_succ, List.flatten_cons]
    exact r.append (RepL.rep r n)
/-- a text, no times or once -/
def rOnce : R2 := fun x y H Q => ∃ s j, x = .str s ∧ y = .int j ∧ ((j = 0 ∧ Q (.str Str.empty) H) ∨ (j = 1 ∧ Q (.str s) H))
theorem op_once {X : Cx} : OpR X (binaryOp .Mult) rOnce := by
  intro pins s σ H x y v u Q I rx ry h
  obtain ⟨z, j, rfl, rfl, h⟩ := h
  obtain ⟨t, rfl⟩ := rx
  obtain ⟨t', rfl⟩ := ry
  rcases h with ⟨rfl, q⟩ | ⟨rfl, q⟩
  · exact PySem.P.mul_str_none (by decide) (by decide) ⟨.str Str.empty, H, I.tok _, ⟨_, rfl⟩, q⟩
  · refine PySem.P.mul_str (by decide) (fun _ e => absurd e (by simp)) (fun _ e => absurd e (by simp)) ?_
    rw [if_neg (by decide), if_pos (by rfl)]
    exact ⟨.str z, H, I, ⟨_, rfl⟩, q⟩
def rMulW : R2 := fun x y H Q => rI CMulW (fun i j => .int (i * j)) x y H Q ∨ rOnce x y H Q ∨ rRep x y H Q
theorem op_mulWW {X : Cx} : OpR X (binaryOp .Mult) rMulW := op_mulW.or (op_once.or op_rep)
theorem opw_mul {A : Ax} {X : Cx} {m : Bool} : OpW A X rMulW (fMul m) := by
  intro wx k H σ h x y u v Q hh rx ry d
  unfold fMul at d
  split at d
  · split at d
    · rename_i hl
      simp only [Rep] at rx ry
      subst rx; subst ry
      exact .inl ⟨_, _, rfl, rfl, hl, den_val hh (by simp only [Rep]) d⟩
    · exact d.elim
  · simp only [Rep] at rx ry
    subst rx; subst ry
    split at d
    · rename_i e
      exact .inr (.inl ⟨_, _, rfl, rfl, .inl ⟨e, den_val hh (by simp only [Rep]) d⟩⟩)
    · split at d
      · rename_i e
        exact .inr (.inl ⟨_, _, rfl, rfl, .inr ⟨e, den_val hh (by simp only [Rep]) d⟩⟩)
      · exact d.elim
  · split at d
    · rename_i a e
      split at d
      · rename_i hl
        obtain ⟨h1, h0, h2⟩ := hl
        obtain ⟨p, vs, rfl, q1, r1⟩ := listAt hh rx e
        simp only [Rep] at ry
        subst ry
        exact .inr (.inr ⟨p, _, vs, rfl, rfl, q1, by omega, by omega, by rw [r1.length]; exact lim_le h2, den_newL hh (r1.rep _) d⟩)
      · exact d.elim
    · exact d.elim
  · exact d.elim
def fDiv (x y : W) (h : WH) : R W := match x, y with | .int i, .int j => if 0 < j ∧ j.natAbs.log2 < 9000 then .ok (.int (i / j)) h else .no | _, _ => .no
theorem opw_div {A : Ax} {X : Cx} : OpW A X (rI CDivW fun i j => .int (i / j)) fDiv := by
  intro wx k H σ h x y u v Q hh rx ry d
  unfold fDiv at d
  split at d
  · split at d
    · rename_i hl
      simp only [Rep] at rx ry
      subst rx; subst ry
      exact ⟨_, _, rfl, rfl, hl, den_val hh (by simp only [Rep]) d⟩
    · exact d.elim
  · exact d.elim
def fMod (x y : W) (h : WH) : R W := match x, y with | .int i, .int j => if 0 < j then .ok (.int (i % j)) h else .no | _, _ => .no
theorem opw_mod {A : Ax} {X : Cx} : OpW A X (rI (fun _ j => 0 < j) fun i j => .int (i % j)) fMod := by
  intro wx k H σ h x y u v Q hh rx ry d
  unfold fMod at d
  split at d
  · split at d
    · rename_i hl
      simp only [Rep] at rx ry
      subst rx; subst ry
      exact ⟨_, _, rfl, rfl, hl, den_val hh (by simp only [Rep]) d⟩
    · exact d.elim
  · exact d.elim
def CPowW (i j : Int) : Prop := 0 ≤ j ∧ (i.natAbs.log2 + 1) * j.toNat ≤ 1000000
theorem op_powW {X : Cx} : OpR X (binaryOp .Pow) (rI CPowW fun i j => .int (i ^ j.toNat)) := opI fun i j _ _ _ _ _ hc q => PyProof.Rows.pow_int hc.1 (by
  obtain ⟨h0, h1⟩ := hc
  have b : Builtin.Int.intBits i ≤ i.natAbs.log2 + 1 := by
    unfold Builtin.Int.intBits
    split <;> omega
  have b2 : Builtin.Int.intBits i * j.toNat ≤ (i.natAbs.log2 + 1) * j.toNat := Nat.mul_le_mul_right _ b
  have e : ((Builtin.Int.intBits i * j.toNat : Nat) : Int) = (Builtin.Int.intBits i : Int) * j := by
    rw [Int.natCast_mul, Int.toNat_of_nonneg h0]
  rw [← e]
  have : Builtin.Int.intBits i * j.toNat ≤ 1000000 := Nat.le_trans b2 h1
  omega) q
def fPow (x y : W) (h : WH) : R W := match x, y with | .int i, .int j => if 0 ≤ j ∧ (i.natAbs.log2 + 1) * j.toNat ≤ 1000000 then .ok (.int (i ^ j.toNat)) h else .no | _, _ => .no
theorem opw_pow {A : Ax} {X : Cx} : OpW A X (rI CPowW fun i j => .int (i ^ j.toNat)) fPow := by
  intro wx k H σ h x y u v Q hh rx ry d
  unfold fPow at d
  split at d
  · split at d
    · rename_i hl
      simp only [Rep] at rx ry
      subst rx; subst ry
      exact ⟨_, _, rfl, rfl, hl, den_val hh (by simp only [Rep]) d⟩
    · exact d.elim
  · exact d.elim

/-! ### comparisons -/
def fInt (p : Int → Int → Bool) (x y : W) (h : WH) : R W := match x, y with | .int i, .int j => .ok (.bl (p i j)) h | _, _ => .no
theorem opw_int {A : Ax} {X : Cx} {p : Int → Int → Bool} : OpW A X (rI0 fun i j => .bl (p i j)) (fInt p) := by
  intro wx k H σ h x y u v Q hh rx ry d
  unfold fInt at d
  split at d
  · simp only [Rep] at rx ry
    subst rx; subst ry
    exact ⟨_, _, rfl, rfl, den_val hh (by simp only [Rep]) d⟩
  · exact d.elim

mutual
def W.dat : W → Option PyData
  | .non => some .none
  | .bl b => some (.bool b)
  | .int i => some (.int i)
  | .str s => some (.str s)
  | .tup ws => (W.dats ws).map .tuple
  | .lst ws => (W.dats ws).map .list
  | _ => none
def W.dats : List W → Option (List PyData)
  | [] => some []
  | w :: ws => match W.dat w, W.dats ws with | some d, some ds => some (d :: ds) | _, _ => none
end
/-- data, a logical list told by what it holds -/
def datH (h : WH) (w : W) : Option PyData := match lstOf h w with | some ws => (W.dats ws).map .list | none => w.dat
mutual
theorem dp_of {G : Gx} {k : Ka} {H : Hp} (sub : ∀ a o, k.F a = some o → H a = some o) : ∀ {w : W} {v : V} {d : PyData}, Rep G k w v → w.dat = some d → Dp G.K H v d
  | .non, v, d, r, e => by simp only [Rep] at r; simp only [W.dat] at e; cases e; subst r; exact .non
  | .bl _, v, d, r, e => by simp only [Rep] at r; simp only [W.dat] at e; cases e; subst r; exact .bl _
  | .int _, v, d, r, e => by simp only [Rep] at r; simp only [W.dat] at e; cases e; subst r; exact .int _
  | .str _, v, d, r, e => by simp only [Rep] at r; simp only [W.dat] at e; cases e; subst r; exact .str _
  | .tup ws, v, d, r, e => by
    simp only [Rep] at r
    obtain ⟨p, vs, rfl, q, r⟩ := r
    simp only [W.dat] at e
    obtain ⟨ds, e1, rfl⟩ := Option.map_eq_some_iff.mp e
    exact .tup (Ka.Le.seqT sub q) (dpAll_of sub r e1)
  | .lst ws, v, d, r, e => by
    simp only [Rep] at r
    obtain ⟨p, vs, rfl, q, r⟩ := r
    simp only [W.dat] at e
    obtain ⟨ds, e1, rfl⟩ := Option.map_eq_some_iff.mp e
    exact .lst (SqL.of (sub _ _ q)) (dpAll_of sub r e1)
  | .dct _ _, v, d, r, e => by simp [W.dat] at e
  | .ins _ _ _, v, d, r, e => by simp [W.dat] at e
  | .ref _, v, d, r, e => by simp [W.dat] at e
  | .scr _, v, d, r, e => by simp [W.dat] at e
theorem dpAll_of {G : Gx} {k : Ka} {H : Hp} (sub : ∀ a o, k.F a = some o → H a = some o) : ∀ {ws : List W} {vs : List V} {ds : List PyData}, RepL G k ws vs → W.dats ws = some ds → DpAll G.K H vs ds
  | [], vs, ds, r, e => by simp only [RepL] at r; simp only [W.dats] at e; cases e; subst r; exact .nil
  | w :: ws, vs, ds, r, e => by
    simp only [RepL] at r
    obtain ⟨v, vs', rfl, r1, r2⟩ := r
    simp only [W.dats] at e
    split at e
    · rename_i e1 e2
      cases e
      exact .cons (dp_of sub r1 e1) (dpAll_of sub r2 e2)
    · cases e
end
theorem dpH_of {G : Gx} {k : Ka} {H : Hp} {h : WH} {w : W} {v : V} {d : PyData} (x : HRep G k H h) (r : Rep G k w v) (e : datH h w = some d) : Dp G.K H v d := by
  unfold datH at e
  split at e
  · rename_i ws e1
    obtain ⟨p, vs, rfl, q, r2⟩ := listAt x r e1
    obtain ⟨ds, e2, rfl⟩ := Option.map_eq_some_iff.mp e
    exact .lst (SqL.of q) (dpAll_of x.sub r2 e2)
  · exact dp_of x.sub r e

def scalW : W → W → Option Bool
  | .str s, .str t => some (decide (s = t))
  | .int i, .int j => some (decide (i = j))
  | .bl b, .bl c => some (decide (b = c))
  | .non, .str _ => some false
  | .str _, .non => some false
  | .int _, .str _ => some false
  | .str _, .int _ => some false
  | _, _ => none
def fEq (neg : Bool) (x y : W) (h : WH) : R W := match scalW x y with
  | some b => .ok (.bl (b != neg)) h
  | none => match datH h x, datH h y with
    | some d, some e => if SeqAt.shaped d = true ∧ SeqAt.shaped e = true then .ok (.bl (PyData.eqv d e != neg)) h else .no
    | _, _ => .no
theorem scalW_of {G : Gx} {k : Ka} {x y : W} {u v : V} {b : Bool} (rx : Rep G k x u) (ry : Rep G k y v) (e : scalW x y = some b) : scal u v = true ∧ decide (u = v) = b := by
  unfold scalW at e
  split at e <;> first | (cases e; done) | skip
  all_goals
    simp only [Rep] at rx ry
    subst rx; subst ry
    injection e with e
    subst e
    exact ⟨rfl, by simp⟩
def rEqW (K : PySem.W.Frag) : R2 := fun x y H Q => rEq x y H Q ∨ rEqD K x y H Q
def rNeW (K : PySem.W.Frag) : R2 := fun x y H Q => rNe x y H Q ∨ rNeD K x y H Q
theorem op_eqW {X : Cx} (hu : X.A.units + 64 < cLine) : OpR X (compareOp .Eq) (rEqW X.K) := op_eq.or (op_eqD hu)
theorem op_neW {X : Cx} (hu : X.A.units + 64 < cLine) : OpR X (compareOp .NotEq) (rNeW X.K) := op_ne.or (op_neD hu)
theorem opw_eq {A : Ax} {X : Cx} (hK : X.K = A.K) : OpW A X (rEqW X.K) (fEq false) := by
  intro wx k H σ h x y u v Q hh rx ry d
  unfold fEq at d
  split at d
  · rename_i b e
    obtain ⟨h1, h2⟩ := scalW_of rx ry e
    refine .inl ⟨h1, ?_⟩
    rw [h2]
    exact den_val hh (by simp [Rep]) d
  · split at d
    · rename_i d1 d2 e1 e2
      split at d
      · rename_i hs
        refine .inr ⟨d1, d2, by rw [hK]; exact dpH_of hh rx e1, by rw [hK]; exact dpH_of hh ry e2, hs.1, hs.2, den_val hh (by simp [Rep]) d⟩
      · exact d.elim
    · exact d.elim
theorem opw_ne {A : Ax} {X : Cx} (hK : X.K = A.K) : OpW A X (rNeW X.K) (fEq true) := by
  intro wx k H σ h x y u v Q hh rx ry d
  unfold fEq at d
  split at d
  · rename_i b e
    obtain ⟨h1, h2⟩ := scalW_of rx ry e
    refine .inl ⟨h1, ?_⟩
    rw [h2]
    exact den_val hh (by simp [Rep]) d
  · split at d
    · rename_i d1 d2 e1 e2
      split at d
      · rename_i hs
        refine .inr ⟨d1, d2, by rw [hK]; exact dpH_of hh rx e1, by rw [hK]; exact dpH_of hh ry e2, hs.1, hs.2, den_val hh (by simp [Rep]) d⟩
      · exact d.elim
    · exact d.elim

/-- is None, is not None; is of truths -/
def fIs (neg : Bool) (x y : W) (h : WH) : R W := match y with
  | .non => .ok (.bl (decide (x = .non) != neg)) h
  | .bl c => match x with | .bl b => .ok (.bl (decide (b = c) != neg)) h | _ => .no
  | _ => .no
theorem rep_non {G : Gx} {k : Ka} {x : W} {u : V} (r : Rep G k x u) : decide (u = .non) = decide (x = .non) := by
  cases x <;> simp only [Rep] at r
  case non => subst r; simp
  case bl => subst r; simp
  case int => subst r; simp
  case str => subst r; simp
  all_goals (obtain ⟨p, r⟩ := r; simp_all)
  all_goals (try (obtain ⟨_, _, h, _⟩ := r; simp [h]))
  all_goals (try (obtain ⟨_, h, _⟩ := r; simp [h]))
  all_goals (try simp [r.1])
end KW

set_option Elab.async false
set_option linter.all false
set_option maxRecDepth 100000
set_option maxHeartbeats 4000000
/-! dicts, told by values -/
namespace KW
open PySem L2
def keyOfW : W → Option Key
  | .int i => some (.inl i)
  | .str s => some (.inr s)
  | _ => none
def dkOf (h : WH) : W → Option (List W × List W)
  | .dct ks vs => some (ks, vs)
  | .ref a => match h[a]? with | some (.dct ks vs) => some (ks, vs) | _ => none
  | _ => none
def tdOf (h : WH) : W → Option (List W × List W)
  | .ref a => match h[a]? with | some (.td ks vs) => some (ks, vs) | _ => none
  | _ => none
/-- at a key -/
def lookD (y : W) : List W → List W → Option W
  | z :: ks, w :: ws => if z = y then some w else lookD y ks ws
  | _, _ => none
def putD (y w : W) : List W → List W → List W × List W
  | z :: ks, u :: ws => if z = y then (z :: ks, w :: ws) else let r := putD y w ks ws; (z :: r.1, u :: r.2)
  | _, _ => ([y], [w])
theorem keyW_inj {a b : Key} (h : keyW a = keyW b) : a = b := by
  cases a <;> cases b <;> simp only [keyW, W.int.injEq, W.str.injEq, reduceCtorEq] at h <;> rw [h]
section
variable {G : Gx} {k : Ka} {H : Hp} {h : WH} {w : W} {ks ws : List W} {v : V}
theorem keyOf_rep {y : Key} (r : Rep G k w v) (e : keyOfW w = some y) : v = kV y ∧ w = keyW y := by
  cases w <;> simp only [keyOfW, Option.some.injEq, reduceCtorEq] at e <;> subst e <;> simp only [Rep] at r <;> exact ⟨r, rfl⟩
theorem lookD_rep {y : Key} : ∀ {kvs : List (Key × V)} {ws : List W}, RepL G k ws (kvs.map (·.2)) → (lookD (keyW y) (kvs.map fun x => keyW x.1) ws = none ∧ valV kvs y = none) ∨ ∃ w v, lookD (keyW y) (kvs.map fun x => keyW x.1) ws = some w ∧ valV kvs y = some v ∧ Rep G k w v
  | [], ws, _ => .inl ⟨by simp [lookD], valV_nil⟩
  | (z, u) :: kvs, ws, r => by
    cases ws with
    | nil => simp [RepL] at r
    | cons w ws =>
      simp only [List.map_cons, RepL] at r
      obtain ⟨v', r', e, r1, r2⟩ := r
      cases e
      by_cases q : z = y
      · subst q
        exact .inr ⟨w, u, by simp [lookD], valV_pos (p := (z, u)) rfl, r1⟩
      · have nq : ¬ keyW z = keyW y := fun e => q (keyW_inj e)
        rw [List.map_cons, lookD, if_neg nq, valV_neg (p := (z, u)) q]
        exact lookD_rep r2
theorem putD_rep {y : Key} {w : W} {v : V} (rw' : Rep G k w v) : ∀ {kvs : List (Key × V)} {ws : List W}, (kvs.map (·.1)).Nodup → RepL G k ws (kvs.map (·.2)) →
    (putD (keyW y) w (kvs.map fun x => keyW x.1) ws).1 = (putK kvs y v).map (fun x => keyW x.1) ∧ RepL G k (putD (keyW y) w (kvs.map fun x => keyW x.1) ws).2 ((putK kvs y v).map (·.2))
  | [], ws, _, r => by
    simp only [List.map_nil, RepL] at r
    simp only [List.map_nil, putD, putK, List.any_nil, Bool.false_eq_true, if_false, List.nil_append, List.map_cons]
    exact ⟨by simp, RepL.one rw'⟩
  | (z, u) :: kvs, ws, nd, r => by
    cases ws with
    | nil => simp [RepL] at r
    | cons w' ws =>
      simp only [List.map_cons, RepL] at r
      obtain ⟨v', r', e, r1, r2⟩ := r
      cases e
      rw [List.map_cons, List.nodup_cons] at nd
      by_cases q : z = y
      · subst q
        have e : putK ((z, u) :: kvs) z v = (z, v) :: kvs := by
          unfold putK
          rw [if_pos (by simp)]
          rw [List.map_cons, if_pos rfl]
          congr 1
          conv => rhs; rw [← List.map_id kvs]
          refine List.map_congr_left fun x hx => ?_
          rw [if_neg fun q => nd.1 (List.mem_map.mpr ⟨x, hx, q⟩)]; rfl
        rw [e]
        simp only [List.map_cons, putD, if_pos]
        exact ⟨by simp, by simp only [RepL]; exact ⟨v, _, rfl, rw', r2⟩⟩
      · have nq : ¬ keyW z = keyW y := fun e => q (keyW_inj e)
        have e : putK ((z, u) :: kvs) y v = (z, u) :: putK kvs y v := by
          unfold putK
          rw [List.any_cons]
          simp only [q, decide_false, Bool.false_or]
          split
          · rw [List.map_cons, if_neg q]
          · rfl
        rw [e]
        obtain ⟨i1, i2⟩ := putD_rep rw' nd.2 r2
        simp only [List.map_cons, putD, if_neg nq]
        exact ⟨by rw [i1], by simp only [RepL]; exact ⟨u, _, rfl, r1, i2⟩⟩
theorem dkAt (x : HRep G k H h) (r : Rep G k w v) (e : dkOf h w = some (ks, ws)) : ∃ p kvs, v = .ref p ∧ H p = some (.dK kvs) ∧ ks = kvs.map (fun x => keyW x.1) ∧ RepL G k ws (kvs.map (·.2)) := by
  cases w <;> simp only [dkOf, reduceCtorEq] at e
  · cases e
    simp only [Rep] at r
    obtain ⟨p, kvs, e, q, e2, r⟩ := r
    exact ⟨p, kvs, e, x.sub _ _ q, e2, r⟩
  · split at e
    · rename_i ho
      cases e
      obtain ⟨p, e1, q, kvs, e2, nd, e3, r2⟩ := ref_at x r ho
      exact ⟨p, kvs, e1, e2, e3, r2⟩
    · cases e
theorem tdAt (x : HRep G k H h) (r : Rep G k w v) (e : tdOf h w = some (ks, ws)) : ∃ p xs, v = .ref p ∧ H p = some (dnH G.P G.w p xs) ∧ (xs.map (·.1)).Nodup ∧ TdR G k ks ws xs := by
  cases w <;> simp only [tdOf, reduceCtorEq] at e
  split at e
  · rename_i ho
    cases e
    obtain ⟨p, e1, q, xs, e2, e3, r2⟩ := ref_at x r ho
    exact ⟨p, xs, e1, e2, e3, r2⟩
  · cases e
/-- a key that is a tuple -/
def nkT : W → Option NestedKey
  | .tup ws => (match nkW (.tup ws) with | some n => if n.depth ≤ 8 then some n else none | none => none)
  | _ => none
theorem nkT_rep (r : Rep G k w v) {n : NestedKey} (e : nkT w = some n) : ∃ b, v = .ref b ∧ nkW w = some n ∧ n.depth ≤ 8 := by
  cases w <;> simp only [nkT, reduceCtorEq] at e
  split at e
  · rename_i m e1
    split at e
    · rename_i hd
      cases e
      simp only [Rep] at r
      obtain ⟨p, vs, e2, _, _⟩ := r
      exact ⟨p, e2, e1, hd⟩
    · cases e
  · cases e
end
/-! ### [] -/
/-- d[y], d a dict -/
def dIx (y : W) (h : WH) (ks ws : List W) : R W := match keyOfW y with
  | some k => (match lookD (keyW k) ks ws with | some w => .ok w h | none => .no)
  | none => .no
def tIx (y : W) (h : WH) (ks ws : List W) : R W := match nkT y with
  | some n => (match getT n ks ws with | some w => .ok w h | none => .no)
  | none => .no
section
variable {A : Ax} {X : Cx} {N : List Str} {sc : Scope} {wx : WX} {k : Ka} {H : Hp} {σ : St} {h : WH} {x y : W} {u v : V} {ks ws : List W} {Q : VK}
theorem dIx_ok (hh : HRep A.toGx k H h) (rx : Rep A.toGx k x u) (ry : Rep A.toGx k y v) (e : dkOf h x = some (ks, ws)) (d : Den A.toGx (Rep A.toGx) wx k H σ (dIx y h ks ws) Q) : rDkI u v H Q := by
  obtain ⟨p, kvs, rfl, q, e2, r⟩ := dkAt hh rx e
  unfold dIx at d
  split at d
  · rename_i key ek
    obtain ⟨rfl, _⟩ := keyOf_rep ry ek
    rw [e2] at d
    rcases lookD_rep (y := key) r with ⟨e3, _⟩ | ⟨w, z, e3, e4, r4⟩
    · rw [e3] at d; exact d.elim
    · rw [e3] at d
      exact ⟨p, kvs, key, z, rfl, rfl, .inl q, e4, den_val hh r4 d⟩
  · exact d.elim
theorem tIx_ok (xo : XOk A N sc X) (hh : HRep A.toGx k H h) (rx : Rep A.toGx k x u) (ry : Rep A.toGx k y v) (e : tdOf h x = some (ks, ws)) (d : Den A.toGx (Rep A.toGx) wx k H σ (tIx y h ks ws) Q) : rTdI X.K X.prog X.w u v H Q := by
  obtain ⟨p, xs, rfl, q, nd, r⟩ := tdAt hh rx e
  unfold tIx at d
  split at d
  · rename_i n en
    obtain ⟨b, rfl, e1, hd⟩ := nkT_rep ry en
    rcases r.get (n := n) with ⟨e3, _⟩ | ⟨w, z, e3, e4, r4⟩
    · rw [e3] at d; exact d.elim
    · rw [e3] at d
      refine ⟨p, b, n, xs, z, rfl, rfl, by rw [xo.hP, xo.hw]; exact q, by rw [xo.hK]; exact r.all hh.sub, by rw [xo.hK]; exact nk_of hh.sub ry e1, hd, e4, den_val hh r4 d⟩
  · exact d.elim
end
/-! ### in -/
def dIn (neg : Bool) (y : W) (h : WH) (ks ws : List W) : R W := match keyOfW y with
  | some k => .ok (.bl ((lookD (keyW k) ks ws).isSome != neg)) h
  | none => .no
def tIn (neg : Bool) (y : W) (h : WH) (ks ws : List W) : R W := match nkT y with
  | some n => .ok (.bl ((getT n ks ws).isSome != neg)) h
  | none => .no
section
variable {A : Ax} {X : Cx} {N : List Str} {sc : Scope} {wx : WX} {k : Ka} {H : Hp} {σ : St} {h : WH} {x y : W} {u v : V} {ks ws : List W} {neg : Bool} {Q : VK}
theorem dIn_ok (hh : HRep A.toGx k H h) (rx : Rep A.toGx k x u) (ry : Rep A.toGx k y v) (e : dkOf h x = some (ks, ws)) (d : Den A.toGx (Rep A.toGx) wx k H σ (dIn neg y h ks ws) Q) : rDkIn neg v u H Q := by
  obtain ⟨p, kvs, rfl, q, e2, r⟩ := dkAt hh rx e
  unfold dIn at d
  split at d
  · rename_i key ek
    obtain ⟨rfl, _⟩ := keyOf_rep ry ek
    rw [e2] at d
    refine ⟨p, kvs, key, rfl, rfl, .inl q, ?_⟩
    rcases lookD_rep (y := key) r with ⟨e3, e4⟩ | ⟨w, z, e3, e4, r4⟩
    · rw [e3] at d; rw [e4]; exact den_val hh (by simp [Rep]) d
    · rw [e3] at d; rw [e4]; exact den_val hh (by simp [Rep]) d
  · exact d.elim
theorem tIn_ok (xo : XOk A N sc X) (hh : HRep A.toGx k H h) (rx : Rep A.toGx k x u) (ry : Rep A.toGx k y v) (e : tdOf h x = some (ks, ws)) (d : Den A.toGx (Rep A.toGx) wx k H σ (tIn neg y h ks ws) Q) : rInN X.K X.prog X.w neg v u H Q := by
  obtain ⟨p, xs, rfl, q, nd, r⟩ := tdAt hh rx e
  unfold tIn at d
  split at d
  · rename_i n en
    obtain ⟨b, rfl, e1, hd⟩ := nkT_rep ry en
    refine ⟨p, b, n, xs, rfl, rfl, by rw [xo.hP, xo.hw]; exact q, by rw [xo.hK]; exact r.all hh.sub, by rw [xo.hK]; exact nk_of hh.sub ry e1, hd, ?_⟩
    rcases r.get (n := n) with ⟨e3, e4⟩ | ⟨w, z, e3, e4, r4⟩
    · rw [e3] at d; rw [e4]; exact den_val hh (by simp [Rep]) d
    · rw [e3] at d; rw [e4]; exact den_val hh (by simp [Rep]) d
  · exact d.elim
end
end KW

set_option Elab.async false
set_option linter.all false
set_option maxRecDepth 100000
set_option maxHeartbeats 4000000
/-! is, in, truth, and, or, displays, subscripts, slices, calls of built-ins, isinstance -/
namespace KW
open PySem L2

def rIsW : R2 := fun x y H Q => (y = .non ∧ Q (.bl (decide (x = .non))) H) ∨ rIsB x y H Q
def rNotW : R2 := fun x y H Q => (y = .non ∧ Q (.bl (!decide (x = .non))) H) ∨ rNotB x y H Q
theorem op_isW {X : Cx} : OpR X (compareOp .Is) rIsW := op_isN.or op_isBl
theorem op_notW {X : Cx} : OpR X (compareOp .IsNot) rNotW := op_notN.or op_notBl
theorem opw_is {A : Ax} {X : Cx} : OpW A X rIsW (fIs false) := by
  intro wx k H σ h x y u v Q hh rx ry d
  unfold fIs at d
  split at d
  · simp only [Rep] at ry
    subst ry
    refine .inl ⟨rfl, ?_⟩
    rw [rep_non rx]
    exact den_val hh (by simp [Rep]) d
  · split at d
    · simp only [Rep] at rx ry
      subst rx; subst ry
      exact .inr ⟨_, _, rfl, rfl, den_val hh (by simp [Rep]) d⟩
    · exact d.elim
  · exact d.elim
theorem opw_isnot {A : Ax} {X : Cx} : OpW A X rNotW (fIs true) := by
  intro wx k H σ h x y u v Q hh rx ry d
  unfold fIs at d
  split at d
  · simp only [Rep] at ry
    subst ry
    refine .inl ⟨rfl, ?_⟩
    rw [rep_non rx]
    exact den_val hh (by simp [Rep]) d
  · split at d
    · simp only [Rep] at rx ry
      subst rx; subst ry
      exact .inr ⟨_, _, rfl, rfl, den_val hh (by simp [Rep]) d⟩
    · exact d.elim
  · exact d.elim

/-! ### in -/
def flatW : W → Bool | .non => true | .bl _ => true | .int _ => true | .str _ => true | _ => false
def eqFW : W → W → Bool
  | .non, .non => true
  | .bl a, .bl b => a == b
  | .bl a, .int b => (if a then 1 else 0) == b
  | .int a, .bl b => a == (if b then 1 else 0)
  | .int a, .int b => a == b
  | .str a, .str b => a == b
  | _, _ => false
def inFW (x : W) (ws : List W) : Bool := ws.any fun y => eqFW y x
def subStr (s t : Str) : Bool := !(Builtin.Str.occurrences t s 0 t.length 1).isEmpty
def fInS (neg : Bool) (x y : W) (h : WH) : R W := match y with
  | .str t => match x with | .str s => .ok (.bl (subStr s t != neg)) h | _ => .no
  | y => match seqOf h y with
    | none => .no
    | some ws => if flatW x = true ∧ ws.all flatW = true then .ok (.bl (inFW x ws != neg)) h
      else match x.dat, datH h y with
        | some d, some (.list ds) => if SeqAt.shaped d = true ∧ SeqAt.shaped (.list ds) = true then .ok (.bl ((ds.any fun z => PyData.eqv z d) != neg)) h else .no
        | _, _ => .no
theorem flat_rep {G : Gx} {k : Ka} {w : W} {v : V} (r : Rep G k w v) (f : flatW w = true) : flatV v = true := by
  cases w <;> simp only [flatW, Bool.false_eq_true] at f <;> simp only [Rep] at r <;> subst r <;> rfl
theorem eqF_rep {G : Gx} {k : Ka} {x y : W} {u v : V} (rx : Rep G k x u) (fx : flatW x = true) (ry : Rep G k y v) (fy : flatW y = true) : eqV u v = eqFW x y := by
  cases x <;> simp only [flatW, Bool.false_eq_true] at fx <;> simp only [Rep] at rx <;> subst rx <;>
    cases y <;> simp only [flatW, Bool.false_eq_true] at fy <;> simp only [Rep] at ry <;> subst ry <;> rfl
theorem flats_rep {G : Gx} {k : Ka} : ∀ {ws : List W} {vs : List V}, RepL G k ws vs → ws.all flatW = true → vs.all flatV = true
  | [], vs, r, f => by simp only [RepL] at r; subst r; rfl
  | w :: ws, vs, r, f => by
    simp only [RepL] at r
    obtain ⟨v, vs', rfl, r1, r2⟩ := r
    simp only [List.all_cons, Bool.and_eq_true] at f ⊢
    exact ⟨flat_rep r1 f.1, flats_rep r2 f.2⟩
theorem inF_rep {G : Gx} {k : Ka} {x : W} {u : V} (rx : Rep G k x u) (fx : flatW x = true) : ∀ {ws : List W} {vs : List V}, RepL G k ws vs → ws.all flatW = true → inV u vs = inFW x ws
  | [], vs, r, f => by simp only [RepL] at r; subst r; rfl
  | w :: ws, vs, r, f => by
    simp only [RepL] at r
    obtain ⟨v, vs', rfl, r1, r2⟩ := r
    simp only [List.all_cons, Bool.and_eq_true] at f
    have ih := inF_rep rx fx r2 f.2
    unfold inV inFW at ih ⊢
    simp only [List.any_cons, ih, eqF_rep r1 f.1 rx fx]
def rInW (K : PySem.W.Frag) : R2 := fun x y H Q => (∃ i j, x = .str i ∧ y = .str j ∧ Q (.bl (!(Builtin.Str.occurrences j i 0 j.length 1).isEmpty)) H) ∨ rIn K false x y H Q ∨ rInD K x y H Q
def rNotInW (K : PySem.W.Frag) : R2 := fun x y H Q => (∃ i j, x = .str i ∧ y = .str j ∧ Q (.bl (!(!(Builtin.Str.occurrences j i 0 j.length 1).isEmpty))) H) ∨ rIn K true x y H Q ∨ rNotInD K x y H Q
theorem op_inW {X : Cx} (hu : X.A.units + 65 < cLine) : OpR X (compareOp .In) (rInW X.K) := op_in_str.or (op_in_seq.or (op_inD hu))
theorem op_notInW {X : Cx} (hu : X.A.units + 65 < cLine) : OpR X (compareOp .NotIn) (rNotInW X.K) := op_notIn_str.or (op_notIn_seq.or (op_notInD hu))
theorem in_core {A : Ax} {neg : Bool} {wx : WX} {k : Ka} {H : Hp} {σ : St} {h : WH} {x y : W} {u v : V} {Q : VK} (hh : HRep A.toGx k H h) (rx : Rep A.toGx k x u) (ry : Rep A.toGx k y v) (d : Den A.toGx (Rep A.toGx) wx k H σ (fInS neg x y h) Q) :
    (∃ s t, u = .str s ∧ v = .str t ∧ Q (.bl (subStr s t != neg)) H) ∨ (∃ p xs, v = .ref p ∧ (SqL A.K H p xs ∨ SqT A.K H p xs) ∧ flatV u = true ∧ xs.all flatV = true ∧ Q (.bl (inV u xs != neg)) H) ∨
      ∃ d ds, Dp A.K H u d ∧ Dp A.K H v (.list ds) ∧ SeqAt.shaped d = true ∧ SeqAt.shaped (.list ds) = true ∧ Q (.bl ((ds.any fun z => PyData.eqv z d) != neg)) H := by
  unfold fInS at d
  split at d
  · split at d
    · simp only [Rep] at rx ry
      subst rx; subst ry
      exact .inl ⟨_, _, rfl, rfl, den_val hh (by simp [Rep]) d⟩
    · exact d.elim
  · split at d
    · exact d.elim
    · rename_i ws e
      split at d
      · rename_i f
        obtain ⟨p, vs, rfl, q, r2⟩ := seqAt hh ry e
        refine .inr (.inl ⟨p, vs, rfl, q, flat_rep rx f.1, flats_rep r2 f.2, ?_⟩)
        rw [inF_rep rx f.1 r2 f.2]
        exact den_val hh (by simp [Rep]) d
      · split at d
        · rename_i e1 e2
          split at d
          · rename_i hs
            exact .inr (.inr ⟨_, _, dp_of hh.sub rx e1, dpH_of hh ry e2, hs.1, hs.2, den_val hh (by simp [Rep]) d⟩)
          · exact d.elim
        · exact d.elim
theorem opw_inS {A : Ax} {X : Cx} (hK : X.K = A.K) : OpW A X (rInW X.K) (fInS false) := by
  intro wx k H σ h x y u v Q hh rx ry d
  rcases in_core hh rx ry d with ⟨s, t, e1, e2, q⟩ | ⟨p, xs, e, q1, f1, f2, q⟩ | ⟨d, ds, d1, d2, s1, s2, q⟩
  · exact .inl ⟨s, t, e1, e2, by simpa [subStr] using q⟩
  · exact .inr (.inl ⟨p, xs, e, by rw [hK]; exact q1, f1, f2, by simpa using q⟩)
  · exact .inr (.inr ⟨d, ds, by rw [hK]; exact d1, by rw [hK]; exact d2, s1, s2, by simpa using q⟩)
theorem opw_notinS {A : Ax} {X : Cx} (hK : X.K = A.K) : OpW A X (rNotInW X.K) (fInS true) := by
  intro wx k H σ h x y u v Q hh rx ry d
  rcases in_core hh rx ry d with ⟨s, t, e1, e2, q⟩ | ⟨p, xs, e, q1, f1, f2, q⟩ | ⟨d, ds, d1, d2, s1, s2, q⟩
  · exact .inl ⟨s, t, e1, e2, by simpa [subStr] using q⟩
  · exact .inr (.inl ⟨p, xs, e, by rw [hK]; exact q1, f1, f2, by simpa using q⟩)
  · exact .inr (.inr ⟨d, ds, by rw [hK]; exact d1, by rw [hK]; exact d2, s1, s2, by simpa using q⟩)

/-! ### truth -/
def truW (h : WH) (w : W) : Option Bool := match w with
  | .non => some false
  | .bl b => some b
  | .int i => some (i != 0)
  | .str s => if s.length ≤ lim then some ((s.length : Int) != 0) else none
  | w => (seqOf h w).map fun ws => !ws.isEmpty
theorem RepL.isEmpty {G : Gx} {k : Ka} {ws : List W} {vs : List V} (r : RepL G k ws vs) : vs.isEmpty = ws.isEmpty := by
  have := r.length
  cases ws <;> cases vs <;> simp_all
theorem truV_of {G : Gx} {k : Ka} {H : Hp} {h : WH} {w : W} {v : V} {b : Bool} (x : HRep G k H h) (r : Rep G k w v) (e : truW h w = some b) : TruV G.K v H b := by
  have S : (seqOf h w).map (fun ws => !ws.isEmpty) = some b → TruV G.K v H b := fun e => by
    obtain ⟨ws, e1, e2⟩ := Option.map_eq_some_iff.mp e
    obtain ⟨p, vs, rfl, q, r2⟩ := seqAt x r e1
    have z := r2.isEmpty
    rcases q with q | q
    · exact .inl ⟨vs, q, by rw [z]; exact e2.symm⟩
    · exact .inr (.inl ⟨vs, q, by rw [z]; exact e2.symm⟩)
  cases w <;> simp only [truW] at e <;> first | exact S e | skip
  · simp only [Rep] at r; subst r; cases e; exact rfl
  · simp only [Rep] at r; subst r; cases e; exact rfl
  · simp only [Rep] at r; subst r; cases e; exact rfl
  · split at e
    · rename_i hl
      simp only [Rep] at r; subst r; cases e; exact ⟨lim_le hl, rfl⟩
    · cases e
def dTru (a : EV) : EB := fun sw h => (a sw h).bind fun w h1 => match truW h1 w with | some b => .ok b h1 | none => .no
def dTst (a : EV) : EB := fun sw h => (a sw h).bind fun w h1 => match w with | .bl b => .ok b h1 | _ => .no
theorem TTx.bind {G : Gx} {wx : WX} {a : EV} {f : WS → W → WH → R Bool} {σ : St} {H : Hp} {Q : Bool → Hp → Prop} (t : TTx G wx (fun sw h => (a sw h).bind fun w h1 => f sw w h1) σ H Q) :
    TEx G wx a σ H fun v H1 => ∃ k sw w h1, SRep G k sw σ ∧ HRep G k H1 h1 ∧ Rep G k w v ∧ Den G (fun _ a b => a = b) wx k H1 σ (f sw w h1) Q := by
  obtain ⟨k, sw, h, hs, hh, d⟩ := t
  exact ⟨k, sw, h, hs, hh, d.bind.imp fun v H1 ⟨k', w, h', n, x, r, d'⟩ => ⟨k', sw, w, h', hs.mono n.le, x, r, d'⟩⟩
section
variable {A : Ax} {X : Cx} {N : List Str} {sc : Scope} {a b c : Expr} {ea eb ec : EV} {ta tb : EB} {pos : Pos} {rest : List Expr}
theorem wt_gen (hK : X.K = A.K) (ha : WE A X a ea) (he : ∀ whole, isTrue a X.env whole = (do let v ← whole; standAt a.pos; holding [v] (truthy v))) : WT A X a (dTru ea) := fun wx tk =>
  PT_imp (pt_truth (ha wx tk) he) fun σ H Q t => by
    obtain ⟨k, sw, h, hs, hh, d⟩ := TTx.bind t
    refine ⟨k, sw, h, hs, hh, d.imp fun v H1 ⟨k1, sw1, w, h1, hs1, hh1, r, d1⟩ => ?_⟩
    split at d1
    · rename_i b e
      exact ⟨b, by rw [hK]; exact truV_of hh1 r e, d1 b k1 H1 (.refl _ _) hh1 rfl⟩
    · exact d1.elim
theorem wt_cmp {op : CmpOp} {r : R2} {f : W → W → WH → R W} (ho : OpR X (compareOp op) r) (hf : OpW A X r f) (hm : behindInMarks op b = false) (ha : WE A X a ea) (hb : WE A X b eb) : WT A X (.Compare a [op] [b] pos) (dTst (dOp f ea eb)) := fun wx tk =>
  PT_imp (pt_cmpR ho (ha wx tk) (hb wx tk) hm) fun σ H Q t => by
    obtain ⟨k, sw, h, hs, hh, d⟩ := TTx.bind t
    have t2 : TEx A.toGx wx (dOp f ea eb) σ H _ := ⟨k, sw, h, hs, hh, d⟩
    obtain ⟨k, sw, h, hs, hh, d⟩ := TEx.bind2 t2
    exact ⟨k, sw, h, hs, hh, d.imp fun v H1 t2 => by
      obtain ⟨k1, sw1, h1, hs1, hh1, d1⟩ := t2
      refine ⟨k1, sw1, h1, hs1, hh1, d1.imp fun z H2 ⟨k2, w, u, h2, x2, r1, r2, d2⟩ => ?_⟩
      refine hf wx k2 H2 σ h2 w u v z _ x2 r1 r2 (d2.imp fun y H3 ⟨k3, sw3, w3, h3, hs3, hh3, r3, d3⟩ => ?_)
      split at d3
      · simp only [Rep] at r3
        exact ⟨_, r3, d3 _ k3 H3 (.refl _ _) hh3 rfl⟩
      · exact d3.elim⟩
def dNotT (t : EB) : EB := fun sw h => (t sw h).bind fun c h1 => .ok (!c) h1
theorem wt_not (ha : WT A X a ta) : WT A X (.UnaryOp .Not a pos) (dNotT ta) := fun wx tk =>
  PT_imp (pt_not (ha wx tk)) fun σ H Q ⟨k, sw, h, hs, hh, d⟩ => ⟨k, sw, h, hs, hh, (Den.bind (rp := fun _ a b => a = b) d).imp fun c H1 ⟨k1, w, h1, n, hh1, e, d1⟩ => by
    subst e
    exact d1 _ k1 H1 (.refl _ _) hh1 rfl⟩
def dAndT (t u : EB) : EB := fun sw h => (t sw h).bind fun c h1 => if c then u sw h1 else .ok false h1
def dOrT (t u : EB) : EB := fun sw h => (t sw h).bind fun c h1 => if c then .ok true h1 else u sw h1
def WWt (A : Ax) (X : Cx) (e : Expr) (ev : EB) : Prop := ∀ wx, Takes X wx → PW X e (TTx A.toGx wx ev)
theorem PW_imp {X : Cx} {e : Expr} {t t' : TT} (h : PW X e t) (i : ∀ σ H Q, t' σ H Q → t σ H Q) : PW X e t' := ⟨fun w pins s σ H Q I q => h.run w pins s σ H Q I (i σ H Q q)⟩
theorem wt_of (h : WWt A X a ta) : WT A X a ta := fun wx tk => (h wx tk).pt
theorem ww_and1 (ha : WT A X a ta) : WWt A X (.BoolOp .And [a] pos) ta := fun wx tk => pw_and1 (ha wx tk)
theorem ww_or1 (ha : WT A X a ta) : WWt A X (.BoolOp .Or [a] pos) ta := fun wx tk => pw_or1 (ha wx tk)
theorem ww_and (ha : WT A X a ta) (hb : WWt A X (.BoolOp .And (b :: rest) pos) tb) : WWt A X (.BoolOp .And (a :: b :: rest) pos) (dAndT ta tb) := fun wx tk =>
  PW_imp (pw_and (ha wx tk) (hb wx tk)) fun σ H Q ⟨k, sw, h, hs, hh, d⟩ => ⟨k, sw, h, hs, hh, (Den.bind (rp := fun _ a b => a = b) d).imp fun c H1 ⟨k1, w, h1, n, hh1, e, d1⟩ => by
    subst e
    cases w with
    | true =>
      rw [if_pos rfl] at d1 ⊢
      exact ⟨k1, sw, h1, hs.mono n.le, hh1, d1⟩
    | false =>
      rw [if_neg (by decide)] at d1 ⊢
      exact d1 _ k1 H1 (.refl _ _) hh1 rfl⟩
theorem ww_or (ha : WT A X a ta) (hb : WWt A X (.BoolOp .Or (b :: rest) pos) tb) : WWt A X (.BoolOp .Or (a :: b :: rest) pos) (dOrT ta tb) := fun wx tk =>
  PW_imp (pw_or (ha wx tk) (hb wx tk)) fun σ H Q ⟨k, sw, h, hs, hh, d⟩ => ⟨k, sw, h, hs, hh, (Den.bind (rp := fun _ a b => a = b) d).imp fun c H1 ⟨k1, w, h1, n, hh1, e, d1⟩ => by
    subst e
    cases w with
    | false =>
      rw [if_neg (by decide)] at d1 ⊢
      exact ⟨k1, sw, h1, hs.mono n.le, hh1, d1⟩
    | true =>
      rw [if_pos rfl] at d1 ⊢
      exact d1 _ k1 H1 (.refl _ _) hh1 rfl⟩
/-! as values -/
def dAnd (a b : EV) : EV := fun sw h => (a sw h).bind fun w h1 => match truW h1 w with | some true => b sw h1 | some false => .ok w h1 | none => .no
def dOr (a b : EV) : EV := fun sw h => (a sw h).bind fun w h1 => match truW h1 w with | some true => .ok w h1 | some false => b sw h1 | none => .no
theorem we_one {op} (ha : WE A X a ea) : WE A X (.BoolOp op [a] pos) ea := fun wx tk => pe_one (ha wx tk)
theorem we_and (hK : X.K = A.K) (ha : WE A X a ea) (hb : WE A X (.BoolOp .And (b :: rest) pos) eb) : WE A X (.BoolOp .And (a :: b :: rest) pos) (dAnd ea eb) := fun wx tk =>
  PE_imp (pe_andT (ha wx tk) (hb wx tk)) fun σ H Q t => by
    obtain ⟨k, sw, h, hs, hh, d⟩ := TEx.bind t
    refine ⟨k, sw, h, hs, hh, d.imp fun v H1 ⟨k1, sw1, w, h1, hs1, hh1, r, d1⟩ => ?_⟩
    split at d1
    · rename_i e
      refine ⟨true, by rw [hK]; exact truV_of hh1 r e, ?_⟩
      rw [if_pos rfl]
      exact ⟨k1, sw1, h1, hs1, hh1, d1⟩
    · rename_i e
      refine ⟨false, by rw [hK]; exact truV_of hh1 r e, ?_⟩
      rw [if_neg (by decide)]
      exact den_val hh1 r d1
    · exact d1.elim
theorem we_or (hK : X.K = A.K) (ha : WE A X a ea) (hb : WE A X (.BoolOp .Or (b :: rest) pos) eb) : WE A X (.BoolOp .Or (a :: b :: rest) pos) (dOr ea eb) := fun wx tk =>
  PE_imp (pe_orT (ha wx tk) (hb wx tk)) fun σ H Q t => by
    obtain ⟨k, sw, h, hs, hh, d⟩ := TEx.bind t
    refine ⟨k, sw, h, hs, hh, d.imp fun v H1 ⟨k1, sw1, w, h1, hs1, hh1, r, d1⟩ => ?_⟩
    split at d1
    · rename_i e
      refine ⟨true, by rw [hK]; exact truV_of hh1 r e, ?_⟩
      rw [if_pos rfl]
      exact den_val hh1 r d1
    · rename_i e
      refine ⟨false, by rw [hK]; exact truV_of hh1 r e, ?_⟩
      rw [if_neg (by decide)]
      exact ⟨k1, sw1, h1, hs1, hh1, d1⟩
    · exact d1.elim
def dNot (a : EV) : EV := fun sw h => (a sw h).bind fun w h1 => match truW h1 w with | some c => .ok (.bl (!c)) h1 | none => .no
theorem we_not (hK : X.K = A.K) (ha : WE A X a ea) : WE A X (.UnaryOp .Not a pos) (dNot ea) := fun wx tk =>
  PE_imp (pe_notT (ha wx tk)) fun σ H Q t => by
    obtain ⟨k, sw, h, hs, hh, d⟩ := TEx.bind t
    refine ⟨k, sw, h, hs, hh, d.imp fun v H1 ⟨k1, sw1, w, h1, hs1, hh1, r, d1⟩ => ?_⟩
    split at d1
    · rename_i c e
      exact ⟨c, by rw [hK]; exact truV_of hh1 r e, den_val hh1 (by simp [Rep]) d1⟩
    · exact d1.elim
def dNeg (a : EV) : EV := fun sw h => (a sw h).bind fun w h1 => match w with | .int i => .ok (.int (-i)) h1 | _ => .no
theorem we_neg (ha : WE A X a ea) : WE A X (.UnaryOp .USub a pos) (dNeg ea) := fun wx tk =>
  PE_imp (pe_un un_neg (ha wx tk)) fun σ H Q t => by
    obtain ⟨k, sw, h, hs, hh, d⟩ := TEx.bind t
    refine ⟨k, sw, h, hs, hh, d.imp fun v H1 ⟨k1, sw1, w, h1, hs1, hh1, r, d1⟩ => ?_⟩
    split at d1
    · simp only [Rep] at r
      exact ⟨_, r, den_val hh1 (by simp [Rep]) d1⟩
    · exact d1.elim
def dIf (t : EB) (a b : EV) : EV := fun sw h => (t sw h).bind fun c h1 => if c then a sw h1 else b sw h1
theorem we_if (hc : WT A X c ta) (ha : WE A X a ea) (hb : WE A X b eb) : WE A X (.IfExp c a b pos) (dIf ta ea eb) := fun wx tk =>
  PE_imp (pe_ifExp (hc wx tk) (ha wx tk) (hb wx tk)) fun σ H Q ⟨k, sw, h, hs, hh, d⟩ => ⟨k, sw, h, hs, hh, (Den.bind (rp := fun _ a b => a = b) d).imp fun c H1 ⟨k1, w, h1, n, hh1, e, d1⟩ => by
    subst e
    cases w with
    | true =>
      rw [if_pos rfl] at d1 ⊢
      exact ⟨k1, sw, h1, hs.mono n.le, hh1, d1⟩
    | false =>
      rw [if_neg (by decide)] at d1 ⊢
      exact ⟨k1, sw, h1, hs.mono n.le, hh1, d1⟩⟩
/-- a op b op c -/
def dChn (f g : W → W → WH → R W) (a b c : EV) : EV := fun sw h => (a sw h).bind fun x h1 => (b sw h1).bind fun y h2 => (f x y h2).bind fun z h3 => match z with
  | .bl true => (c sw h3).bind fun w h4 => g y w h4
  | .bl false => .ok (.bl false) h3
  | _ => .no
theorem chn_core {r r' : R2} {f g : W → W → WH → R W} (hf : OpW A X r f) (hg : OpW A X r' g) {wx : WX} {σ : St} {H : Hp} {Q : VK} (t : TEx A.toGx wx (dChn f g ea eb ec) σ H Q) : tChain r r' (TEx A.toGx wx ea) (TEx A.toGx wx eb) (TEx A.toGx wx ec) σ H Q := by
  obtain ⟨k, sw, h, hs, hh, d⟩ := t
  refine ⟨k, sw, h, hs, hh, (Den.bind (rp := Rep A.toGx) d).imp fun x H1 ⟨k1, wx1, h1, n1, hh1, r1, d1⟩ => ?_⟩
  refine ⟨k1, sw, h1, hs.mono n1.le, hh1, (Den.bind (rp := Rep A.toGx) d1).imp fun y H2 ⟨k2, wy, h2, n2, hh2, r2, d2⟩ => ?_⟩
  refine hf wx k2 H2 σ h2 wx1 wy x y _ hh2 (r1.mono n2.le) r2 ((Den.bind (rp := Rep A.toGx) d2).imp fun z H3 ⟨k3, wz, h3, n3, hh3, r3, d3⟩ => ?_)
  split at d3
  · simp only [Rep] at r3
    refine ⟨true, r3, ?_⟩
    rw [if_pos rfl]
    refine ⟨k3, sw, h3, (hs.mono n1.le).mono (n2.le.trans n3.le), hh3, (Den.bind (rp := Rep A.toGx) d3).imp fun w' H4 ⟨k4, ww, h4, n4, hh4, r4, d4⟩ => ?_⟩
    exact hg wx k4 H4 σ h4 wy ww y w' Q hh4 (r2.mono (n3.le.trans n4.le)) r4 d4
  · simp only [Rep] at r3
    refine ⟨false, r3, ?_⟩
    rw [if_neg (by decide)]
    exact den_val hh3 (by simp [Rep]) d3
  · exact d3.elim
theorem we_chain {op op' : CmpOp} {r r' : R2} {f g : W → W → WH → R W} (ho : OpR X (compareOp op) r) (hf : OpW A X r f) (ho' : OpR X (compareOp op') r') (hg : OpW A X r' g) (ha : WE A X a ea) (hb : WE A X b eb) (hc : WE A X c ec) (hm : behindInMarks op' c = false) :
    WE A X (.Compare a [op, op'] [b, c] pos) (dChn f g ea eb ec) := fun wx tk => PE_imp (pe_chain ho ho' (ha wx tk) (hb wx tk) (hc wx tk) (by first | exact hm | simpa [lastMarks] using hm)) fun σ H Q t => chn_core hf hg t
theorem wt_chain {op op' : CmpOp} {r r' : R2} {f g : W → W → WH → R W} (ho : OpR X (compareOp op) r) (hf : OpW A X r f) (ho' : OpR X (compareOp op') r') (hg : OpW A X r' g) (ha : WE A X a ea) (hb : WE A X b eb) (hc : WE A X c ec) (hm : behindInMarks op' c = false) :
    WT A X (.Compare a [op, op'] [b, c] pos) (dTst (dChn f g ea eb ec)) := fun wx tk => PT_imp (pt_chain ho ho' (ha wx tk) (hb wx tk) (hc wx tk) (by first | exact hm | simpa [lastMarks] using hm)) fun σ H Q t => by
  obtain ⟨k, sw, h, hs, hh, d⟩ := TTx.bind t
  refine chn_core hf hg ⟨k, sw, h, hs, hh, d.imp fun y H3 ⟨k3, sw3, w3, h3, hs3, hh3, r3, d3⟩ => ?_⟩
  split at d3
  · simp only [Rep] at r3
    exact ⟨_, r3, d3 _ k3 H3 (.refl _ _) hh3 rfl⟩
  · exact d3.elim
end
/-! ### in, of dicts too -/
def fIn (neg : Bool) (x y : W) (h : WH) : R W := match dkOf h y with
  | some r => dIn neg x h r.1 r.2
  | none => match tdOf h y with
    | some r => tIn neg x h r.1 r.2
    | none => fInS neg x y h
section
variable {A : Ax} {X : Cx} {N : List Str} {sc : Scope}
def rInX (X : Cx) : R2 := fun x y H Q => rInW X.K x y H Q ∨ rDkIn false x y H Q ∨ rInN X.K X.prog X.w false x y H Q
def rNotInX (X : Cx) : R2 := fun x y H Q => rNotInW X.K x y H Q ∨ rDkIn true x y H Q ∨ rInN X.K X.prog X.w true x y H Q
theorem op_inX (x : XOk A N sc X) : OpR X (compareOp .In) (rInX X) := (op_inW (by have := x.un; omega)).or ((op_dkIn (by have := x.un; omega)).or (op_inN (by have := x.un; omega)))
theorem op_notInX (x : XOk A N sc X) : OpR X (compareOp .NotIn) (rNotInX X) := (op_notInW (by have := x.un; omega)).or ((op_dkNotIn (by have := x.un; omega)).or (op_notInN (by have := x.un; omega)))
theorem opw_in (x : XOk A N sc X) : OpW A X (rInX X) (fIn false) := by
  intro wx k H σ h a b u v Q hh rx ry d
  unfold fIn at d
  split at d
  · rename_i r e
    exact .inr (.inl (dIn_ok hh ry rx e d))
  · split at d
    · rename_i r e
      exact .inr (.inr (tIn_ok x hh ry rx e d))
    · exact .inl (opw_inS x.hK wx k H σ h a b u v Q hh rx ry d)
theorem opw_notin (x : XOk A N sc X) : OpW A X (rNotInX X) (fIn true) := by
  intro wx k H σ h a b u v Q hh rx ry d
  unfold fIn at d
  split at d
  · rename_i r e
    exact .inr (.inl (dIn_ok hh ry rx e d))
  · split at d
    · rename_i r e
      exact .inr (.inr (tIn_ok x hh ry rx e d))
    · exact .inl (opw_notinS x.hK wx k H σ h a b u v Q hh rx ry d)
end
end KW

set_option Elab.async false
set_option linter.all false
set_option maxRecDepth 100000
set_option maxHeartbeats 4000000
/-! displays, subscripts, slices, attributes, calls of built-ins, isinstance -/
namespace KW
open PySem L2

/-! ### syntax facts -/
def nonStar : Expr → Bool | .Starred _ _ => false | _ => true
theorem star_ok {e : Expr} {es : List Expr} {env : Env} (h : nonStar e = true) : starEach (e :: es) env = (false, eval e env) :: starEach es env := by
  cases e <;> first | rfl | simp [nonStar] at h
theorem stars_any {env : Env} {pos : Pos} : ∀ {es : List Expr}, es.all nonStar = true → (backTo pos (starEach es env)).any (·.1) = false
  | [], _ => rfl
  | e :: es, h => by
    simp only [List.all_cons, Bool.and_eq_true] at h
    rw [star_ok h.1]
    have ih := stars_any (env := env) (pos := pos) h.2
    unfold backTo at ih ⊢
    simpa using ih
theorem stars_all {env : Env} {pos : Pos} : ∀ {es : List Expr}, es.all nonStar = true → ((backTo pos (starEach es env)).all fun x => !x.1) = true
  | [], _ => rfl
  | e :: es, h => by
    simp only [List.all_cons, Bool.and_eq_true] at h
    rw [star_ok h.1]
    have ih := stars_all (env := env) (pos := pos) h.2
    unfold backTo at ih ⊢
    simpa using ih
def nonSlice : Expr → Bool | .Slice _ _ _ _ => false | _ => true
theorem plainIx {b : Expr} (h : nonSlice b = true) : PlainIx b := by
  intro o i
  cases b <;> first | rfl | simp [nonSlice] at h
def notCall0 : Expr → Bool | .Call (.Name _ _) [] [] _ => false | _ => true
theorem attrBase {o : Expr} {f : Str} {env : Env} {w : Sem Value} (h : notCall0 o = true) : attributeBase o f env w = w := by
  unfold attributeBase
  split
  · simp [notCall0] at h
  · rfl
theorem swaps_attr {value o : Expr} {f : Str} {p : Pos} {l : Nat} {env : Env} : swapsWith value (some (.Attribute o f p)) l env = pure false := by
  cases value <;> rfl
def notComp : Expr → Bool | .ListComp .. => false | .SetComp .. => false | .DictComp .. => false | _ => true
theorem swaps_not {value : Expr} {t : Option Expr} {l : Nat} {env : Env} (h : notComp value = true) : swapsWith value t l env = pure false := by
  cases value <;> first | rfl | simp [notComp] at h

section
variable {A : Ax} {X : Cx} {N : List Str} {sc : Scope} {a b c : Expr} {ea eb ec : EV} {aa : EA} {pos : Pos} {es : List Expr}
/-! ### displays -/
def dTup (a : EA) : EV := fun sw h => (a sw h).bind fun ws h1 => if ws.length ≤ lim then .ok (.tup ws) h1 else .no
def dLst (m : Bool) (a : EA) : EV := fun sw h => (a sw h).bind fun ws h1 => if ws.length ≤ lim then newL m ws h1 else .no
theorem we_tup {x1} (ha : WA A X es aa) : WE A X (.Tuple es x1 pos) (dTup aa) := fun wx tk =>
  PE_imp (pe_tup (ha wx tk)) fun σ H Q t => by
    obtain ⟨k, sw, h, hs, hh, d⟩ := TAx.bind t
    refine ⟨k, sw, h, hs, hh, d.imp fun vs H1 ⟨k1, sw1, ws, h1, hs1, hh1, r, d1⟩ => ?_⟩
    split at d1
    · rename_i hl
      exact ⟨by rw [r.length]; exact lim_le hl, den_newT hh1 r d1⟩
    · exact d1.elim
theorem we_lst {m : Bool} (ha : WA A X es aa) : WE A X (.List es pos) (dLst m aa) := fun wx tk =>
  PE_imp (pe_lst (ha wx tk)) fun σ H Q t => by
    obtain ⟨k, sw, h, hs, hh, d⟩ := TAx.bind t
    refine ⟨k, sw, h, hs, hh, d.imp fun vs H1 ⟨k1, sw1, ws, h1, hs1, hh1, r, d1⟩ => ?_⟩
    split at d1
    · rename_i hl
      exact ⟨by rw [r.length]; exact lim_le hl, den_newL hh1 r d1⟩
    · exact d1.elim

/-! ### subscripts -/
def fIxS (x y : W) (h : WH) : R W := match y with
  | .int i => match x with
    | .str s => if s.length ≤ lim then (match atI s.cps.toList i with | some c => .ok (.str ⟨#[c]⟩) h | none => .no) else .no
    | x => match seqOf h x with
      | some ws => (match atI ws i with | some w => .ok w h | none => .no)
      | none => .no
  | _ => .no
theorem atI_rep {G : Gx} {k : Ka} {ws : List W} {vs : List V} {i : Int} {w : W} (r : RepL G k ws vs) (e : atI ws i = some w) : ∃ v, atI vs i = some v ∧ Rep G k w v := by
  unfold atI at e ⊢
  rw [r.length]
  obtain ⟨j, e1, e2⟩ := Option.bind_eq_some_iff.mp e
  obtain ⟨v, e3, r2⟩ := r.get e2
  exact ⟨v, by rw [e1]; exact e3, r2⟩
theorem opw_ixS (hK : X.K = A.K) : OpW A X (rIx X.K) fIxS := by
  intro wx k H σ h x y u v Q hh rx ry d
  unfold fIxS at d
  split at d
  · simp only [Rep] at ry
    subst ry
    split at d
    · split at d
      · rename_i hl
        split at d
        · rename_i c e
          simp only [Rep] at rx
          subst rx
          exact .inr (.inr ⟨_, _, c, rfl, rfl, lim_le hl, e, den_val hh (by simp [Rep]) d⟩)
        · exact d.elim
      · exact d.elim
    · split at d
      · rename_i ws e
        split at d
        · rename_i w e2
          obtain ⟨p, vs, rfl, q, r2⟩ := seqAt hh rx e
          obtain ⟨v, e3, r3⟩ := atI_rep r2 e2
          have qv := den_val hh r3 d
          rcases q with q | q
          · exact .inl ⟨p, vs, _, v, rfl, rfl, by rw [hK]; exact q, e3, qv⟩
          · exact .inr (.inl ⟨p, vs, _, v, rfl, rfl, by rw [hK]; exact q, e3, qv⟩)
        · exact d.elim
      · exact d.elim
  · exact d.elim
/-- x[y], of dicts too -/
def fIx (x y : W) (h : WH) : R W := match dkOf h x with
  | some r => dIx y h r.1 r.2
  | none => match tdOf h x with
    | some r => tIx y h r.1 r.2
    | none => fIxS x y h
def rIxX (X : Cx) : R2 := fun x y H Q => rIx X.K x y H Q ∨ rDkI x y H Q ∨ rTdI X.K X.prog X.w x y H Q
theorem ix_X (x : XOk A N sc X) : IxR X (rIxX X) := ix_seq.or ((ix_dk (by have := x.un; omega)).or (ix_td (by have := x.un; omega)))
theorem opw_ix (xo : XOk A N sc X) : OpW A X (rIxX X) fIx := by
  intro wx k H σ h x y u v Q hh rx ry d
  unfold fIx at d
  split at d
  · rename_i r e
    exact .inr (.inl (dIx_ok hh rx ry e d))
  · split at d
    · rename_i r e
      exact .inr (.inr (tIx_ok xo hh rx ry e d))
    · exact .inl (opw_ixS xo.hK wx k H σ h x y u v Q hh rx ry d)
theorem we_ix (xo : XOk A N sc X) (ha : WE A X a ea) (hb : WE A X b eb) (hn : nonSlice b = true) : WE A X (.Subscript a b pos) (dOp fIx ea eb) := fun wx tk =>
  PE_imp (pe_ix (ix_X xo) (ha wx tk) (hb wx tk) (plainIx hn)) fun σ H Q t => by
    obtain ⟨k, sw, h, hs, hh, d⟩ := TEx.bind2 t
    exact ⟨k, sw, h, hs, hh, d.imp fun v H1 t2 => by
      obtain ⟨k1, sw1, h1, hs1, hh1, d1⟩ := t2
      exact ⟨k1, sw1, h1, hs1, hh1, d1.imp fun z H2 ⟨k2, w, u, h2, x2, r1, r2, d2⟩ => opw_ix xo wx k2 H2 σ h2 w u v z Q x2 r1 r2 d2⟩⟩

/-! ### slices -/
abbrev EO := WS → WH → R (Option Int)
def oNo : EO := fun _ h => .ok none h
def oSome (a : EV) : EO := fun sw h => (a sw h).bind fun w h1 => match w with | .int i => .ok (some i) h1 | _ => .no
def TOx (G : Gx) (wx : WX) (ev : EO) : TO := fun σ H Q => ∃ k sw h, SRep G k sw σ ∧ HRep G k H h ∧ Den G (fun _ a b => a = b) wx k H σ (ev sw h) Q
def WO (A : Ax) (X : Cx) (e : Option Expr) (ev : EO) : Prop := ∀ wx, Takes X wx → PO X e (TOx A.toGx wx ev)
theorem PO_imp {e : Option Expr} {t t' : TO} (h : PO X e t) (i : ∀ σ H Q, t' σ H Q → t σ H Q) : PO X e t' := by
  first
    | exact ⟨fun pins s σ H Q I q => h.run pins s σ H Q I (i σ H Q q)⟩
    | exact ⟨fun pins s σ H R I q => h.run pins s σ H R I (i σ H _ q)⟩
theorem wo_none : WO A X none oNo := fun wx tk => PO_imp po_none fun σ H Q ⟨k, sw, h, hs, hh, d⟩ => d none k H (.refl _ _) hh rfl
theorem wo_some (ha : WE A X a ea) : WO A X (some a) (oSome ea) := fun wx tk => PO_imp (po_some (ha wx tk)) fun σ H Q ⟨k, sw, h, hs, hh, d⟩ =>
  ⟨k, sw, h, hs, hh, (Den.bind (rp := Rep A.toGx) d).imp fun v H1 ⟨k1, w, h1, n1, hh1, r1, d1⟩ => by
    split at d1
    · simp only [Rep] at r1
      exact ⟨_, r1, d1 _ k1 H1 (.refl _ _) hh1 rfl⟩
    · exact d1.elim⟩
def cutW (xs : List W) (lo hi : Option Int) : List W := (xs.drop (HT.sIx xs.length 0 lo)).take (HT.sIx xs.length xs.length hi - HT.sIx xs.length 0 lo)
def fSl (m : Bool) (x : W) (lo hi : Option Int) (h : WH) : R W := match x with
  | .str s => if s.length ≤ lim then .ok (.str (cutS s lo hi)) h else .no
  | .tup ws => .ok (.tup (cutW ws lo hi)) h
  | x => match lstOf h x with | some ws => newL m (cutW ws lo hi) h | none => .no
def dSl (m : Bool) (a : EV) (lo hi : EO) : EV := fun sw h => (a sw h).bind fun x h1 => (lo sw h1).bind fun l h2 => (hi sw h2).bind fun u h3 => fSl m x l u h3
def rSlW (K : PySem.W.Frag) : V → Option Int → Option Int → Hp → VK → Prop := fun x lo hi H Q => rSlA K x lo hi H Q ∨ rSlL K x lo hi H Q ∨ ∃ z, x = .str z ∧ z.length ≤ sizeLine ∧ Q (.str (cutS z lo hi)) H
theorem RepL.cutV {G : Gx} {k : Ka} {ws : List W} {vs : List V} (r : RepL G k ws vs) (lo hi : Option Int) : RepL G k (cutW ws lo hi) (cutV vs lo hi) := by
  unfold cutW L2.cutV
  rw [r.length]
  exact RepL.take _ (RepL.drop _ r)
theorem cutW_whole {ws : List W} {lo hi : Option Int} (h : HT.sIx ws.length 0 lo = 0 ∧ HT.sIx ws.length ws.length hi = ws.length) : cutW ws lo hi = ws := by
  unfold cutW
  rw [h.1, h.2]; simp

theorem sl_W (hK : X.K = A.K) : SlR X (rSlW X.K) := sl_tupA.or (sl_list.or sl_str)
theorem sl_core (hK : X.K = A.K) {m : Bool} {wx : WX} {k : Ka} {H : Hp} {σ : St} {h : WH} {x : W} {u : V} {lo hi : Option Int} {Q : VK} (hh : HRep A.toGx k H h) (rx : Rep A.toGx k x u) (d : Den A.toGx (Rep A.toGx) wx k H σ (fSl m x lo hi h) Q) : rSlW X.K u lo hi H Q := by
  unfold fSl at d
  split at d
  · split at d
    · rename_i hl
      simp only [Rep] at rx
      subst rx
      exact .inr (.inr ⟨_, rfl, lim_le hl, den_val hh (by simp [Rep]) d⟩)
    · exact d.elim
  · obtain ⟨p, vs, rfl, q, r⟩ := tupAt hh rx
    refine .inl ⟨p, vs, rfl, by rw [hK]; exact q, fun e => ?_, fun _ => den_newT hh (r.cutV lo hi) d⟩
    rw [r.length] at e
    rw [cutW_whole e] at d
    exact den_val hh rx d
  · split at d
    · rename_i ws e
      obtain ⟨p, vs, rfl, q, r⟩ := listAt hh rx e
      exact .inr (.inl ⟨p, vs, rfl, SqL.of q, den_newL hh (r.cutV lo hi) d⟩)
    · exact d.elim
theorem we_sl (hK : X.K = A.K) {m : Bool} {lo hi : Option Expr} {ol oh : EO} {p2 : Pos} (ha : WE A X a ea) (hl : WO A X lo ol) (hu : WO A X hi oh) : WE A X (.Subscript a (.Slice lo hi none p2) pos) (dSl m ea ol oh) := fun wx tk =>
  PE_imp (pe_slice (sl_W hK) (ha wx tk) (hl wx tk) (hu wx tk)) fun σ H Q ⟨k, sw, h, hs, hh, d⟩ => by
    refine ⟨k, sw, h, hs, hh, (Den.bind (rp := Rep A.toGx) d).imp fun v H1 ⟨k1, w, h1, n1, hh1, r1, d1⟩ => ?_⟩
    refine ⟨k1, sw, h1, hs.mono n1.le, hh1, (Den.bind (rp := fun _ a b => a = b) d1).imp fun l H2 ⟨k2, wl, h2, n2, hh2, r2, d2⟩ => ?_⟩
    refine ⟨k2, sw, h2, (hs.mono n1.le).mono n2.le, hh2, (Den.bind (rp := fun _ a b => a = b) d2).imp fun u H3 ⟨k3, wu, h3, n3, hh3, r3, d3⟩ => ?_⟩
    subst r2; subst r3
    exact sl_core hK hh3 (r1.mono (n2.le.trans n3.le)) d3
/-- xs[::-1] of a list -/
def dRev (m : Bool) (a : EV) : EV := fun sw h => (a sw h).bind fun w h1 => match lstOf h1 w with | some ws => newL m ws.reverse h1 | none => .no
theorem we_rev (hK : X.K = A.K) {m : Bool} {k : Nat} {p1 p2 p3 : Pos} (ha : WE A X a ea) : WE A X (.Subscript a (.Slice none none (some (.UnaryOp .USub (.Constant (.int 1) k p1) p2)) p3) pos) (dRev m ea) := fun wx tk =>
  PE_imp (pe_revL (ha wx tk)) fun σ H Q t => by
    obtain ⟨k, sw, h, hs, hh, d⟩ := TEx.bind t
    refine ⟨k, sw, h, hs, hh, d.imp fun v H1 ⟨k1, sw1, w, h1, hs1, hh1, r, d1⟩ => ?_⟩
    split at d1
    · rename_i ws e
      obtain ⟨p, vs, rfl, q, r2⟩ := listAt hh1 r e
      exact ⟨p, vs, rfl, SqL.of q, den_newL hh1 r2.reverse d1⟩
    · exact d1.elim

/-! ### attributes -/
def lookF (f : Nat) : List Nat → List W → Option W
  | g :: fs, w :: ws => if f = g then some w else lookF f fs ws
  | _, _ => none
def putFs (f : Nat) : List Nat → List Nat
  | [] => [f]
  | g :: fs => if f = g then g :: fs else g :: putFs f fs
def putVs (f : Nat) (x : W) : List Nat → List W → List W
  | [], _ => [x]
  | g :: fs, w :: ws => if f = g then x :: ws else w :: putVs f x fs ws
  | _ :: _, [] => []
def insOf (h : WH) : W → Option (Nat × List Nat × List W)
  | .ins c fs vs => some (c, fs, vs)
  | .ref a => match h[a]? with | some (.ins c fs vs) => some (c, fs, vs) | _ => none
  | _ => none
theorem insAt {G : Gx} {k : Ka} {H : Hp} {h : WH} {w : W} {v : V} {c : Nat} {fs : List Nat} {ws : List W} (x : HRep G k H h) (r : Rep G k w v) (e : insOf h w = some (c, fs, ws)) :
    ∃ p C dx fvs, v = .ref p ∧ (G.cl c = some C ∧ fs.all (G.lay c) = true) ∧ H p = some (.ins C dx fvs) ∧ fvs.map (·.1) = fs.map G.fn ∧ RepL G k ws (fvs.map (·.2)) := by
  cases w <;> simp only [insOf, reduceCtorEq] at e
  · cases e
    simp only [Rep] at r
    obtain ⟨p, C, dx, fvs, e1, e2, q, e3, r2⟩ := r
    exact ⟨p, C, dx, fvs, e1, e2, x.sub _ _ q, e3, r2⟩
  · split at e
    · rename_i ho
      cases e
      obtain ⟨p, e1, q, C, dx, fvs, e2, e3, e4, r2⟩ := ref_at x r ho
      exact ⟨p, C, dx, fvs, e1, e2, e3, e4, r2⟩
    · cases e
/-- what the written part says of the attributes' names -/
structure FldOk (A : Ax) : Prop where
  inj : ∀ c f g, A.lay c f = true → A.lay c g = true → A.fn f = A.fn g → f = g
  na : ∀ c C f, A.cl c = some C → A.lay c f = true → NoAttr A.K C (A.fn f)
  cls : ∀ c C f, A.cl c = some C → A.lay c f = true → Cls A.K C
theorem lookF_rep {A : Ax} (F : FldOk A) {k : Ka} {c f : Nat} {w : W} (hf : A.lay c f = true) : ∀ {fs : List Nat} {ws : List W} {fvs : List (Str × V)}, fs.all (A.lay c) = true → fvs.map (·.1) = fs.map A.fn → RepL A.toGx k ws (fvs.map (·.2)) → lookF f fs ws = some w →
    ∃ v, fvs.lookup (A.fn f) = some v ∧ Rep A.toGx k w v
  | [], ws, fvs, _, _, _, e => by simp [lookF] at e
  | g :: fs, [], fvs, _, _, _, e => by simp [lookF] at e
  | g :: fs, w' :: ws, [], _, e1, _, _ => by simp at e1
  | g :: fs, w' :: ws, (n, v) :: fvs, ha, e1, r, e => by
    simp only [List.map_cons, List.cons.injEq] at e1
    simp only [List.map_cons, RepL, List.cons.injEq] at r
    obtain ⟨v0, r0, ⟨rfl, rfl⟩, h1, h2⟩ := r
    simp only [List.all_cons, Bool.and_eq_true] at ha
    simp only [lookF] at e
    split at e
    · rename_i hfg
      cases e
      refine ⟨v, ?_, h1⟩
      rw [List.lookup_cons, e1.1, hfg]
      simp
    · rename_i hfg
      obtain ⟨v2, e2, r2⟩ := lookF_rep F hf ha.2 e1.2 h2 e
      refine ⟨v2, ?_, r2⟩
      rw [List.lookup_cons]
      have : (A.fn f == n) = false := by
        rw [e1.1]
        exact beq_eq_false_iff_ne.mpr fun z => hfg (F.inj c f g hf ha.1 z)
      rw [this]; exact e2
theorem lookF_mem {f : Nat} {w : W} : ∀ {fs : List Nat} {ws : List W}, lookF f fs ws = some w → f ∈ fs
  | [], _, e => by simp [lookF] at e
  | g :: fs, [], e => by simp [lookF] at e
  | g :: fs, w' :: ws, e => by
    simp only [lookF] at e
    split at e
    · rename_i h; simp [h]
    · exact List.mem_cons_of_mem _ (lookF_mem e)
def dFld (a : EV) (f : Nat) : EV := fun sw h => (a sw h).bind fun w h1 => match insOf h1 w with
  | some (_, fs, ws) => (match lookF f fs ws with | some x => .ok x h1 | none => .no)
  | none => .no
theorem we_fld (hK : X.K = A.K) (F : FldOk A) {f : Nat} {n : Str} (hn : A.fn f = n) (ha : WE A X a ea) (h0 : notCall0 a = true) : WE A X (.Attribute a n pos) (dFld ea f) := fun wx tk =>
  PE_imp (pe_fld (ha wx tk) (attrBase h0)) fun σ H Q t => by
    obtain ⟨k, sw, h, hs, hh, d⟩ := TEx.bind t
    refine ⟨k, sw, h, hs, hh, d.imp fun v H1 ⟨k1, sw1, w, h1, hs1, hh1, r, d1⟩ => ?_⟩
    split at d1
    · rename_i c fs ws e
      split at d1
      · rename_i x e2
        obtain ⟨p, C, dx, fvs, rfl, ⟨e3, e4⟩, e5, e6, r2⟩ := insAt hh1 r e
        have hf : A.lay c f = true := List.all_eq_true.mp e4 f (lookF_mem e2)
        obtain ⟨v, e7, r3⟩ := lookF_rep F hf e4 e6 r2 e2
        subst hn
        exact ⟨p, C, dx, fvs, v, rfl, e5, by rw [hK]; exact F.cls c C f e3 hf, by rw [hK]; exact F.na c C f e3 hf, e7, den_val hh1 r3 d1⟩
      · exact d1.elim
    · exact d1.elim

/-! ### built-ins by name -/
def CallW (A : Ax) (X : Cx) (r : List V → Hp → VK → Prop) (f : List W → WH → R W) : Prop :=
  ∀ (wx : WX) (k : Ka) (H : Hp) (σ : St) (h : WH) (ws : List W) (vs : List V) (Q : VK), HRep A.toGx k H h → RepL A.toGx k ws vs → Den A.toGx (Rep A.toGx) wx k H σ (f ws h) Q → r vs H Q
def dBi (f : List W → WH → R W) (a : EA) : EV := fun sw h => (a sw h).bind f
theorem gl_of (x : XOk A N sc X) {n : Str} (hs : sc.names.lookup n = some .globalImplicit) : Gl X n := by unfold Gl Env.kindOf; rw [x.hsc]; exact hs
theorem we_biB (x : XOk A N sc X) {n : Str} {id : String} {r : List V → Hp → VK → Prop} {f : List W → WH → R W} {e : Expr} {p : Pos} (hc : CallR X (.builtin id) r) (hf : CallW A X r f) (hs : sc.names.lookup n = some .globalImplicit) (hg : A.gt.lookup n = some .blt)
    (hv : bootBuiltins n = some (.builtin id)) (ha : WA A X (e :: es) aa) (h1 : n ≠ ("__name__" : Str)) (h2 : (n == ("__debug__" : Str)) = false) (h3 : (e :: es).all nonStar = true) : WE A X (.Call (.Name n p) (e :: es) [] pos) (dBi f aa) := fun wx tk =>
  PE_imp (pe_callB hc (gl_of x hs) (x.glob.blt n hg) hv (ha wx tk) h1 h2 (star_ok (by simp only [List.all_cons, Bool.and_eq_true] at h3; exact h3.1)) (stars_any (by simp only [List.all_cons, Bool.and_eq_true] at h3; exact h3.2))) fun σ H Q t => by
    obtain ⟨k, sw, h, hs, hh, d⟩ := TAx.bind t
    exact ⟨k, sw, h, hs, hh, d.imp fun vs H1 ⟨k1, sw1, ws, h1, hs1, hh1, r, d1⟩ => hf wx k1 H1 σ h1 ws vs Q hh1 r d1⟩
theorem we_biT (x : XOk A N sc X) {n : Str} {id : String} {r : List V → Hp → VK → Prop} {f : List W → WH → R W} {e : Expr} {p : Pos} (hc : CallR X (.type id) r) (hf : CallW A X r f) (hs : sc.names.lookup n = some .globalImplicit) (hg : A.gt.lookup n = some .blt)
    (hv : bootBuiltins n = some (.type id)) (ha : WA A X (e :: es) aa) (h1 : n ≠ ("__name__" : Str)) (h2 : (n == ("__debug__" : Str)) = false) (h3 : (e :: es).all nonStar = true) : WE A X (.Call (.Name n p) (e :: es) [] pos) (dBi f aa) := fun wx tk =>
  PE_imp (pe_callTy hc (gl_of x hs) (x.glob.blt n hg) hv (ha wx tk) h1 h2 (star_ok (by simp only [List.all_cons, Bool.and_eq_true] at h3; exact h3.1)) (stars_any (by simp only [List.all_cons, Bool.and_eq_true] at h3; exact h3.2))) fun σ H Q t => by
    obtain ⟨k, sw, h, hs, hh, d⟩ := TAx.bind t
    exact ⟨k, sw, h, hs, hh, d.imp fun vs H1 ⟨k1, sw1, ws, h1, hs1, hh1, r, d1⟩ => hf wx k1 H1 σ h1 ws vs Q hh1 r d1⟩
theorem rep1 {G : Gx} {k : Ka} {w : W} {vs : List V} (r : RepL G k [w] vs) : ∃ v, vs = [v] ∧ Rep G k w v := by
  simp only [RepL] at r
  obtain ⟨v, r, rfl, h, rfl⟩ := r
  exact ⟨v, rfl, h⟩
theorem rep2 {G : Gx} {k : Ka} {w u : W} {vs : List V} (r : RepL G k [w, u] vs) : ∃ v z, vs = [v, z] ∧ Rep G k w v ∧ Rep G k u z := by
  simp only [RepL] at r
  obtain ⟨v, r, rfl, h, z, r', rfl, h', rfl⟩ := r
  exact ⟨v, z, rfl, h, h'⟩
def bLen (ws : List W) (h : WH) : R W := match ws with
  | [.str s] => if s.length ≤ lim then .ok (.int s.length) h else .no
  | [w] => match seqOf h w with | some xs => .ok (.int xs.length) h | none => .no
  | _ => .no
theorem cw_len (hK : X.K = A.K) : CallW A X (fun xs H Q => ∃ x n, xs = [x] ∧ LenV X.K x H n ∧ Q (.int n) H) bLen := by
  intro wx k H σ h ws vs Q hh r d
  unfold bLen at d
  split at d
  · split at d
    · rename_i hl
      obtain ⟨v, rfl, r1⟩ := rep1 r
      simp only [Rep] at r1
      subst r1
      exact ⟨_, _, rfl, ⟨lim_le hl, rfl⟩, den_val hh (by simp [Rep]) d⟩
    · exact d.elim
  · split at d
    · rename_i xs e
      obtain ⟨v, rfl, r1⟩ := rep1 r
      obtain ⟨p, vs, rfl, q, r2⟩ := seqAt hh r1 e
      refine ⟨_, vs.length, rfl, ?_, den_val hh (by rw [r2.length]; simp [Rep]) d⟩
      rw [hK]
      rcases q with q | q
      · exact .inl ⟨vs, q, rfl⟩
      · exact .inr ⟨vs, q, rfl⟩
    · exact d.elim
  · exact d.elim
def bAbs (ws : List W) (h : WH) : R W := match ws with | [.int i] => .ok (.int (if i < 0 then -i else i)) h | _ => .no
theorem cw_abs : CallW A X (fun xs H Q => ∃ i, xs = [.int i] ∧ Q (.int (if i < 0 then -i else i)) H) bAbs := by
  intro wx k H σ h ws vs Q hh r d
  unfold bAbs at d
  split at d
  · obtain ⟨v, rfl, r1⟩ := rep1 r
    simp only [Rep] at r1
    subst r1
    exact ⟨_, rfl, den_val hh (by simp [Rep]) d⟩
  · exact d.elim
def bMax2 (ws : List W) (h : WH) : R W := match ws with | [.int i, .int j] => .ok (.int (if j > i then j else i)) h | _ => .no
theorem cw_max2 : CallW A X (fun xs H Q => ∃ i j, xs = [.int i, .int j] ∧ Q (.int (if j > i then j else i)) H) bMax2 := by
  intro wx k H σ h ws vs Q hh r d
  unfold bMax2 at d
  split at d
  · obtain ⟨v, z, rfl, r1, r2⟩ := rep2 r
    simp only [Rep] at r1 r2
    subst r1; subst r2
    exact ⟨_, _, rfl, den_val hh (by simp [Rep]) d⟩
  · exact d.elim
def bMin2 (ws : List W) (h : WH) : R W := match ws with | [.int i, .int j] => .ok (.int (if j < i then j else i)) h | _ => .no
theorem cw_min2 : CallW A X (fun xs H Q => ∃ i j, xs = [.int i, .int j] ∧ Q (.int (if j < i then j else i)) H) bMin2 := by
  intro wx k H σ h ws vs Q hh r d
  unfold bMin2 at d
  split at d
  · obtain ⟨v, z, rfl, r1, r2⟩ := rep2 r
    simp only [Rep] at r1 r2
    subst r1; subst r2
    exact ⟨_, _, rfl, den_val hh (by simp [Rep]) d⟩
  · exact d.elim
def bInt (ws : List W) (h : WH) : R W := match ws with | [.int i] => .ok (.int i) h | [.bl b] => .ok (.int (if b then 1 else 0)) h | _ => .no
theorem cw_int : CallW A X (fun xs H Q => (∃ i, xs = [.int i] ∧ Q (.int i) H) ∨ ∃ k, xs = [.bl k] ∧ Q (.int (if k then 1 else 0)) H) bInt := by
  intro wx k H σ h ws vs Q hh r d
  unfold bInt at d
  split at d
  · obtain ⟨v, rfl, r1⟩ := rep1 r
    simp only [Rep] at r1
    subst r1
    exact .inl ⟨_, rfl, den_val hh (by simp [Rep]) d⟩
  · obtain ⟨v, rfl, r1⟩ := rep1 r
    simp only [Rep] at r1
    subst r1
    exact .inr ⟨_, rfl, den_val hh (by simp [Rep]) d⟩
  · exact d.elim
def bList (m : Bool) (ws : List W) (h : WH) : R W := match ws with | [w] => (match seqOf h w with | some xs => newL m xs h | none => .no) | _ => .no
theorem cw_list (hK : X.K = A.K) {m : Bool} : CallW A X (fun xs H Q => ∃ p ys, xs = [.ref p] ∧ (SqL X.K H p ys ∨ SqT X.K H p ys) ∧ ∀ l, H l = none → Q (.ref l) (upd H l (.lst ys))) (bList m) := by
  intro wx k H σ h ws vs Q hh r d
  unfold bList at d
  split at d
  · split at d
    · rename_i xs e
      obtain ⟨v, rfl, r1⟩ := rep1 r
      obtain ⟨p, vs, rfl, q, r2⟩ := seqAt hh r1 e
      exact ⟨p, vs, rfl, by rw [hK]; exact q, den_newL hh r2 d⟩
    · exact d.elim
  · exact d.elim
def bTup (ws : List W) (h : WH) : R W := match ws with
  | [.tup xs] => .ok (.tup xs) h
  | [w] => (match lstOf h w with | some xs => .ok (.tup xs) h | none => .no)
  | _ => .no
theorem cw_tup (hK : X.K = A.K) : CallW A X (fun xs H Q => ∃ p ys, xs = [.ref p] ∧ ((SqL X.K H p ys ∧ ∀ l, H l = none → Q (.ref l) (upd H l (.tup ys))) ∨ (SqT X.K H p ys ∧ Q (.ref p) H))) bTup := by
  intro wx k H σ h ws vs Q hh r d
  unfold bTup at d
  split at d
  · obtain ⟨v, rfl, r1⟩ := rep1 r
    obtain ⟨p, vs, rfl, q, r2⟩ := tupAt hh r1
    exact ⟨p, vs, rfl, .inr ⟨by rw [hK]; exact q, den_val hh r1 d⟩⟩
  · split at d
    · rename_i xs e
      obtain ⟨v, rfl, r1⟩ := rep1 r
      obtain ⟨p, vs, rfl, q, r2⟩ := listAt hh r1 e
      exact ⟨p, vs, rfl, .inl ⟨SqL.of q, den_newT hh r2 d⟩⟩
    · exact d.elim
  · exact d.elim
/-- lists of truths -/
def blsOf : List W → Option (List Bool)
  | [] => some []
  | .bl b :: ws => (blsOf ws).map (b :: ·)
  | _ => none
theorem bls_rep {G : Gx} {k : Ka} : ∀ {ws : List W} {bs : List Bool} {vs : List V}, RepL G k ws vs → blsOf ws = some bs → vs = bs.map V.bl
  | [], bs, vs, r, e => by simp only [RepL] at r; simp only [blsOf] at e; cases e; subst r; rfl
  | w :: ws, bs, vs, r, e => by
    simp only [RepL] at r
    obtain ⟨v, r', rfl, h1, h2⟩ := r
    cases w <;> simp only [blsOf, reduceCtorEq] at e
    obtain ⟨cs, e1, rfl⟩ := Option.map_eq_some_iff.mp e
    simp only [Rep] at h1
    rw [h1, bls_rep h2 e1]; rfl
def bAll (ws : List W) (h : WH) : R W := match ws with | [w] => (match (lstOf h w).bind blsOf with | some bs => .ok (.bl (bs.all id)) h | none => .no) | _ => .no
theorem cw_all (hK : X.K = A.K) : CallW A X (rAll X.K) bAll := by
  intro wx k H σ h ws vs Q hh r d
  unfold bAll at d
  split at d
  · split at d
    · rename_i bs e
      obtain ⟨xs, e1, e2⟩ := Option.bind_eq_some_iff.mp e
      obtain ⟨v, rfl, r1⟩ := rep1 r
      obtain ⟨p, vs, rfl, q, r2⟩ := listAt hh r1 e1
      have := bls_rep r2 e2
      subst this
      exact ⟨p, bs, rfl, SqL.of q, den_val hh (by simp [Rep]) d⟩
    · exact d.elim
  · exact d.elim
def bAny (ws : List W) (h : WH) : R W := match ws with | [w] => (match (lstOf h w).bind blsOf with | some bs => .ok (.bl (bs.any id)) h | none => .no) | _ => .no
theorem cw_any (hK : X.K = A.K) : CallW A X (rAny X.K) bAny := by
  intro wx k H σ h ws vs Q hh r d
  unfold bAny at d
  split at d
  · split at d
    · rename_i bs e
      obtain ⟨xs, e1, e2⟩ := Option.bind_eq_some_iff.mp e
      obtain ⟨v, rfl, r1⟩ := rep1 r
      obtain ⟨p, vs, rfl, q, r2⟩ := listAt hh r1 e1
      have := bls_rep r2 e2
      subst this
      exact ⟨p, bs, rfl, SqL.of q, den_val hh (by simp [Rep]) d⟩
    · exact d.elim
  · exact d.elim
def intsOf : List W → Option (List Int)
  | [] => some []
  | .int b :: ws => (intsOf ws).map (b :: ·)
  | _ => none
theorem ints_rep' {G : Gx} {k : Ka} : ∀ {ws : List W} {bs : List Int} {vs : List V}, RepL G k ws vs → intsOf ws = some bs → vs = bs.map V.int
  | [], bs, vs, r, e => by simp only [RepL] at r; simp only [intsOf] at e; cases e; subst r; rfl
  | w :: ws, bs, vs, r, e => by
    simp only [RepL] at r
    obtain ⟨v, r', rfl, h1, h2⟩ := r
    cases w <;> simp only [intsOf, reduceCtorEq] at e
    obtain ⟨cs, e1, rfl⟩ := Option.map_eq_some_iff.mp e
    simp only [Rep] at h1
    rw [h1, ints_rep' h2 e1]; rfl
def bSum (ws : List W) (h : WH) : R W := match ws with | [w] => (match (lstOf h w).bind intsOf with | some bs => .ok (.int bs.sum) h | none => .no) | _ => .no
theorem cw_sum (hK : X.K = A.K) : CallW A X (rSum X.K) bSum := by
  intro wx k H σ h ws vs Q hh r d
  unfold bSum at d
  split at d
  · split at d
    · rename_i bs e
      obtain ⟨xs, e1, e2⟩ := Option.bind_eq_some_iff.mp e
      obtain ⟨v, rfl, r1⟩ := rep1 r
      obtain ⟨p, vs, rfl, q, r2⟩ := listAt hh r1 e1
      have := ints_rep' r2 e2
      subst this
      exact ⟨p, bs, rfl, SqL.of q, den_val hh (by simp [Rep]) d⟩
    · exact d.elim
  · exact d.elim
end
end KW

set_option Elab.async false
set_option linter.all false
set_option maxRecDepth 100000
set_option maxHeartbeats 4000000
/-! calls of the program's own: defs, methods, classes -/
namespace KW
open PySem L2

abbrev Fns := Nat → List W → WH → R W
/-- a def's promise: what its meaning gives -/
def spF (G : Gx) (φ : List W → WH → R W) : Sp := fun vs H Q E => ∃ k ws h, RepL G k ws vs ∧ HRep G k H h ∧ Den G (Rep G) (fun cls d _ H' => E cls d H') k H [] (φ ws h) Q

/-- an own exception class that keeps one thing -/
def ExOk (A : Ax) (prog : Program) (w : World) (mg : Str → Option Value) (base : Heap) (c f : Nat) : Prop :=
  ∃ (C fI : Addr) (fd : FuncData) (p1 : Str), A.cl c = some C ∧ OexC A.K C ∧ PySem.W.findIn A.K (.ref C) "__init__" = some (some (.ref fI)) ∧ PySem.W.typeIn A.K (.ref fI) = some (.type "function") ∧
    PySem.W.findIn A.K (.ref C) (A.fn f) = some none ∧ FnOk prog w A.K mg base (L2.CX prog w) 1 fI fd ["self", p1] (spX A.K (A.fn f)) ∧ Binds A.K fd ["self", p1] []
/-- an except clause's look -/
def SubOk (A : Ax) : Prop := ∀ c d b, A.sub c d = some b → ∃ C D, A.cl c = some C ∧ A.cl d = some D ∧ PySem.W.exmOne A.K (.ref C) (.ref D) = some b
/-- what the calls of a piece of code lean on -/
structure COk (A : Ax) (Φ : Fns) (n : Nat) (X : Cx) : Prop where
  room : Room (n + 1) X.A
  lv : 1 ≤ n
  ex : ∀ c f, A.exf c = some f → ExOk A X.prog X.w X.mg X.base c f
  sub : SubOk A
  fn : ∀ f a, A.fa f = some a → ∃ fd ps, FnG X.prog X.w X.K X.mg X.base (L2.CX X.prog X.w) n a fd ps (spF A.toGx (Φ f)) ∧ PySem.W.keepIn X.K (.ref a) = true ∧ Binds X.K fd ps []
  mt : ∀ c m f, A.mt c m = some f → ∃ C a, A.cl c = some C ∧ A.fa f = some a ∧ Meth X.K C (A.mn m) a ∧ Cls X.K C ∧ ∀ g, A.lay c g = true → A.fn g ≠ A.mn m
  ini : ∀ c f, A.ini c = some f → ∃ C a, A.cl c = some C ∧ A.fa f = some a ∧ Mk X.K C a

theorem den_ctx {G : Gx} {rp : Ka → W → V → Prop} {wx wy : WX} {k : Ka} {H : Hp} {σ σ' : St} {r : R W} {Q : VK} (h : Den G rp wx k H σ r Q) (i : ∀ cls d H', wx cls d σ H' → wy cls d σ' H') : Den G rp wy k H σ' r Q := by
  cases r with
  | ok w h' => exact h
  | exc c fs vs h' => exact fun C d k' H' n x xr => i _ _ _ (h C d k' H' n x xr)
  | no => exact h

section
variable {A : Ax} {X : Cx} {N : List Str} {sc : Scope} {Φ : Fns} {n : Nat} {a b c e : Expr} {ea eb ec : EV} {aa : EA} {p pos apos : Pos} {es : List Expr}

/-! ### f(..) -/
def dCall (φ : List W → WH → R W) (a : EA) : EV := fun sw h => (a sw h).bind φ
theorem we_call (x : XOk A N sc X) (C : COk A Φ n X) {f : Nat} {nm : Str} (hs : sc.names.lookup nm = some .globalImplicit) (hg : A.gt.lookup nm = some (.fn f)) (h2 : (nm == ("__debug__" : Str)) = false) (ha : WA A X (e :: es) aa) (h3 : (e :: es).all nonStar = true) :
    WE A X (.Call (.Name nm p) (e :: es) [] pos) (dCall (Φ f) aa) := fun wx tk => by
  obtain ⟨fa, e1, hm⟩ := x.glob.fn nm f hg
  obtain ⟨fd, ps, F, kp, hb⟩ := C.fn f fa e1
  simp only [List.all_cons, Bool.and_eq_true] at h3
  refine ⟨fun pins s σ H Q I t => ?_⟩
  refine wpAny_Call_Name_kw (ld_glob I (gl_of x hs) hm ?_ h2)
  obtain ⟨k, sw, h, hs', hh, d⟩ := TAx.bind t
  refine PySem.W.callWith_K (h₀ := X.base) I.ok.mod.kin kp (thn ((ha wx tk).run pos pins s σ H _ I ⟨k, sw, h, hs', hh, d⟩) fun us s1 hu => ?_) (star_ok h3.1) (stars_any h3.2)
  obtain ⟨vs, H1, I1, rs, k1, sw1, ws, h1, hs1, hh1, r, d1⟩ := hu
  exact ⟨I1.kIn, run_fnG (E := L2.WE wx) F x.gd (C.room.mono (Nat.le_succ _)) hb (passAt tk σ) I1 rs ⟨k1, ws, h1, r, hh1, den_ctx d1 fun _ _ _ q => q⟩⟩
theorem we_call0 (x : XOk A N sc X) (C : COk A Φ n X) {f : Nat} {nm : Str} (hs : sc.names.lookup nm = some .globalImplicit) (hg : A.gt.lookup nm = some (.fn f)) (h2 : (nm == ("__debug__" : Str)) = false) :
    WE A X (.Call (.Name nm p) [] [] pos) (dCall (Φ f) aNil) := fun wx tk => by
  obtain ⟨fa, e1, hm⟩ := x.glob.fn nm f hg
  obtain ⟨fd, ps, F, kp, hb⟩ := C.fn f fa e1
  refine ⟨fun pins s σ H Q I t => ?_⟩
  obtain ⟨k, sw, h, hs', hh, d⟩ := t
  refine wpAny_Call_Name_kw (ld_glob I (gl_of x hs) hm ?_ h2)
  exact PySem.W.callWith_K0 I.kIn kp (run_fnG (us := []) (E := L2.WE wx) F x.gd (C.room.mono (Nat.le_succ _)) hb (passAt tk σ) I .nil ⟨k, [], h, by simp only [RepL], hh, den_ctx d fun _ _ _ q => q⟩)

/-! ### o.m(..) -/
def dMeth (A : Ax) (Φ : Fns) (m : Nat) (o : EV) (a : EA) : EV := fun sw h => (o sw h).bind fun x h1 => match insOf h1 x with
  | some (c, _, _) => (match A.mt c m with | some f => (a sw h1).bind fun ws h2 => Φ f (x :: ws) h2 | none => .no)
  | none => .no
theorem noKey {A : Ax} {c : Nat} {nm : Str} : ∀ {fs : List Nat} {fvs : List (Str × V)}, fs.all (A.lay c) = true → fvs.map (·.1) = fs.map A.fn → (∀ g, A.lay c g = true → A.fn g ≠ nm) → fvs.lookup nm = none
  | [], [], _, _, _ => rfl
  | [], _ :: _, _, e, _ => by simp at e
  | _ :: _, [], _, e, _ => by simp at e
  | g :: fs, (k, v) :: fvs, ha, e, hn => by
    simp only [List.map_cons, List.cons.injEq] at e
    simp only [List.all_cons, Bool.and_eq_true] at ha
    rw [List.lookup_cons]
    have z : (nm == k) = false := by
      rw [e.1]
      exact beq_eq_false_iff_ne.mpr fun q => hn g ha.1 q.symm
    rw [z]
    exact noKey ha.2 e.2 hn
theorem we_meth (x : XOk A N sc X) (C : COk A Φ n X) {m : Nat} {nm : Str} (hn : A.mn m = nm) (ho : WE A X a ea) (ha : WA A X (e :: es) aa) (h3 : (e :: es).all nonStar = true) {pl : Sem Bool}
    (ht : eval (.Call (.Attribute a nm apos) (e :: es) [] pos) X.env = (do
      let ov ← eval a X.env
      standAt apos.atName
      let (f, first) ← holding [ov] (getMethod ov nm pl)
      callWith pos f first (backTo pos (starEach (e :: es) X.env)) (backToKw pos (keywordEach [] X.env)))) :
    WE A X (.Call (.Attribute a nm apos) (e :: es) [] pos) (dMeth A Φ m ea aa) := fun wx tk => by
  simp only [List.all_cons, Bool.and_eq_true] at h3
  refine ⟨fun pins s σ H Q I t => ?_⟩
  have hK := x.hK
  obtain ⟨k, sw, h, hs, hh, d⟩ := TEx.bind t
  refine PySem.W.methodCall_KW (pl := pl) (thn ((ho wx tk).run pins s σ H _ I ⟨k, sw, h, hs, hh, d⟩) fun u s1 hu => ?_) ht
  obtain ⟨v, H1, I1, rv, k1, sw1, w, h1, hs1, hh1, r, d1⟩ := hu
  split at d1
  · rename_i cc fs ws ei
    split at d1
    · rename_i f em
      obtain ⟨p1, C1, dx, fvs, rfl, ⟨e3, e4⟩, e5, e6, r2⟩ := insAt hh1 r ei
      obtain ⟨C2, fa, e7, e8, hm, hc, hl⟩ := C.mt cc m f em
      rw [e3] at e7; cases e7
      obtain ⟨fd, ps, F, kp, hb⟩ := C.fn f fa e8
      obtain rfl : u = Value.ref p1 := rv
      subst hn
      refine getmeth_ok I1 e5 hc hm (noKey e4 e6 hl) ?_
      have t2 : TAx A.toGx wx aa σ H1 _ := ⟨k1, sw1, h1, hs1, hh1, Den.bind (rp := RepL A.toGx) d1⟩
      refine PySem.W.callWith_K (first := [.ref p1]) (h₀ := X.base) I.ok.mod.kin hm.kp (thn ((ha wx tk).run pos pins s1 σ H1 _ I1 t2) fun us s2 hu2 => ?_) (star_ok h3.1) (stars_any h3.2)
      obtain ⟨vs, H2, I2, rs, k2, xs, h2, n2, hh2, r3, d2⟩ := hu2
      refine ⟨I2.kIn, ?_⟩
      exact run_fnG (us := .ref p1 :: us) (vs := .ref p1 :: vs) (E := L2.WE wx) F x.gd (C.room.mono (Nat.le_succ _)) hb (passAt tk σ) I2 (.cons rfl rs) ⟨k2, w :: xs, h2, by simp only [RepL]; exact ⟨_, vs, rfl, r.mono n2.le, r3⟩, hh2, den_ctx d2 fun _ _ _ q => q⟩
    · exact d1.elim
  · exact d1.elim
theorem we_meth0 (x : XOk A N sc X) (C : COk A Φ n X) {m : Nat} {nm : Str} (hn : A.mn m = nm) (ho : WE A X a ea) {pl : Sem Bool}
    (ht : eval (.Call (.Attribute a nm apos) [] [] pos) X.env = (do
      let ov ← eval a X.env
      standAt apos.atName
      let (f, first) ← holding [ov] (getMethod ov nm pl)
      callWith pos f first (backTo pos (starEach [] X.env)) (backToKw pos (keywordEach [] X.env)))) :
    WE A X (.Call (.Attribute a nm apos) [] [] pos) (dMeth A Φ m ea aNil) := fun wx tk => by
  refine ⟨fun pins s σ H Q I t => ?_⟩
  have hK := x.hK
  obtain ⟨k, sw, h, hs, hh, d⟩ := TEx.bind t
  refine PySem.W.methodCall_KW (pl := pl) (thn ((ho wx tk).run pins s σ H _ I ⟨k, sw, h, hs, hh, d⟩) fun u s1 hu => ?_) ht
  obtain ⟨v, H1, I1, rv, k1, sw1, w, h1, hs1, hh1, r, d1⟩ := hu
  split at d1
  · rename_i cc fs ws ei
    split at d1
    · rename_i f em
      obtain ⟨p1, C1, dx, fvs, rfl, ⟨e3, e4⟩, e5, e6, r2⟩ := insAt hh1 r ei
      obtain ⟨C2, fa, e7, e8, hm, hc, hl⟩ := C.mt cc m f em
      rw [e3] at e7; cases e7
      obtain ⟨fd, ps, F, kp, hb⟩ := C.fn f fa e8
      obtain rfl : u = Value.ref p1 := rv
      subst hn
      refine getmeth_ok I1 e5 hc hm (noKey e4 e6 hl) ?_
      exact PySem.W.callWith_K0 (first := [.ref p1]) I1.kIn hm.kp (run_fnG (us := [.ref p1]) (vs := [.ref p1]) (E := L2.WE wx) F x.gd (C.room.mono (Nat.le_succ _)) hb (passAt tk σ) I1 (.cons rfl .nil) ⟨k1, [w], h1, RepL.one r, hh1, den_ctx d1 fun _ _ _ q => q⟩)
    · exact d1.elim
  · exact d1.elim

/-! ### C(..) -/
theorem HRep.other {G : Gx} {k : Ka} {H : Hp} {h : WH} {p : Addr} {o : HO} (x : HRep G k H h) (hp : H p = none) : HRep G k (upd H p o) h where
  sub := fun a u e => by
    have z : a ≠ p := fun z => by
      have := x.sub a u e
      rw [z, hp] at this; cases this
    rw [upd_ne z]; exact x.sub a u e
  len := x.len
  nd := x.nd
  trk := fun a ha => by
    have z : a ≠ p := fun z => x.noMu hp (by rw [← z]; exact ha)
    rw [upd_ne z]; exact x.trk a ha
  ob := fun i u q e1 e2 => by
    obtain ⟨r, n⟩ := x.ob i u q e1 e2
    have z : q ≠ p := fun z => x.noMu hp (z ▸ List.mem_of_getElem? e2)
    refine ⟨r.mono (.refl k) (upd_ne z), fun d => ?_⟩
    obtain ⟨n1, n2⟩ := n d
    exact ⟨n1, by rw [upd_ne z]; exact n2⟩
theorem Nxt.other {k : Ka} {H : Hp} {p : Addr} {o : HO} (hp : H p = none) : Nxt k H k (upd H p o) where
  le := .refl k
  oth := fun a ha _ => upd_ne fun z => ha (z ▸ hp)
  fro := fun a u e => .inl e
  new := fun a ha => .inl ha
  trk := fun a ha => by
    have z : a ≠ p := fun z => ha (by rw [z]; exact hp)
    rw [upd_ne z]; exact ha
/-- what C(..) gives: the new object, told by value where the class is so -/
def mkF (A : Ax) (Φ : Fns) (c : Nat) (ws : List W) (h : WH) : R W := match A.ini c with
  | none => .no
  | some f => (Φ f (.ref h.length :: ws) (h ++ [.ins c [] []])).bind fun v h2 => match v with
    | .non => if A.val c then (match h2[h.length]? with
        | some (.ins c' fs vs) => .ok (.ins c' fs vs) (gc h.length (.ins c' fs vs) h (h2.set h.length .dead))
        | _ => .no) else .ok (.ref h.length) h2
    | _ => .no
theorem mk_core (C : COk A Φ n X) (hK : X.K = A.K) {cc f : Nat} {C1 : Addr} {ws : List W} {vs : List V} {k : Ka} {H : Hp} {h : WH} {wx : WX} {σ : St} {Q : VK} (e1 : A.ini cc = some f) (e2 : A.cl cc = some C1) (hh : HRep A.toGx k H h) (r : RepL A.toGx k ws vs)
    (d : Den A.toGx (Rep A.toGx) wx k H σ (mkF A Φ cc ws h) Q) : ∀ x dx, H x = none → H dx = none → dx ≠ x →
      spF A.toGx (Φ f) (.ref x :: vs) (upd (upd H dx (.own x)) x (.ins C1 dx [])) (fun v H2 => v = .non ∧ Q (.ref x) H2) (L2.WE wx σ) := by
  intro x dx hx hdx ne
  unfold mkF at d
  rw [e1] at d
  have hh1 : HRep A.toGx k (upd H dx (.own x)) h := hh.other hdx
  have n1 : Nxt k H k (upd H dx (.own x)) := Nxt.other hdx
  have hx1 : upd H dx (.own x) x = none := by rw [upd_ne ne.symm]; exact hx
  have hh2 : HRep A.toGx (k.more x) (upd (upd H dx (.own x)) x (.ins C1 dx [])) (h ++ [.ins cc [] []]) := hh1.more hx1 ⟨C1, dx, [], ⟨e2, rfl⟩, upd_same, rfl, by simp only [List.map_nil, RepL]⟩ trivial
  have n2 : Nxt k (upd H dx (.own x)) (k.more x) (upd (upd H dx (.own x)) x (.ins C1 dx [])) := Nxt.more hh1 hx1
  have hm : (k.more x).mu[h.length]? = some x := by
    show (k.mu ++ [x])[h.length]? = some x
    rw [← hh.len]; simp
  refine ⟨k.more x, .ref h.length :: ws, _, ?_, hh2, ?_⟩
  · simp only [RepL]
    exact ⟨_, vs, rfl, by simp only [Rep]; exact ⟨x, rfl, hm⟩, r.mono le_more⟩
  · cases er : Φ f (.ref h.length :: ws) (h ++ [.ins cc [] []]) with
    | no =>
      dsimp only at d
      rw [er] at d; exact d.elim
    | exc c2 fs2 vs2 h2 =>
      dsimp only at d
      rw [er] at d
      exact fun C' d' k' H' n' x' xr => d C' d' k' H' ((n1.trans n2).trans n') x' xr
    | ok v h3 =>
      dsimp only at d
      rw [er] at d
      intro v' k3 H3 n3 hh3 rw3
      have hm3 : k3.mu[h.length]? = some x := prefix_get n3.le.mu hm
      dsimp only [R.bind] at d
      split at d
      · simp only [Rep] at rw3
        refine ⟨rw3, ?_⟩
        split at d
        · split at d
          · rename_i c' fs vs' eo
            obtain ⟨or, od⟩ := hh3.ob _ _ _ eo hm3
            obtain ⟨oF, oM⟩ := od (by intro z; cases z)
            obtain ⟨C2, dx2, fvs, ec, eH, ek, rr⟩ := or
            have hk := hh3.kill hm3 oF eH
            have nk : Nxt k3 H3 (k3.froz x (.ins C2 dx2 fvs)) H3 := Nxt.kill hh3 hm3 oF
            have rW : Rep A.toGx (k3.froz x (.ins C2 dx2 fvs)) (.ins c' fs vs') (.ref x) := by
              simp only [Rep]
              exact ⟨x, C2, dx2, fvs, rfl, ec, upd_same, ek, rr.mono nk.le⟩
            obtain ⟨k5, n5, hh5, r5⟩ := hh.gc hk (((n1.trans n2).trans n3).trans nk) rW
            exact d _ k5 H3 n5 hh5 r5
          · exact d.elim
        · refine d (.ref x) k3 H3 ((n1.trans n2).trans n3) hh3 ?_
          simp only [Rep]
          exact ⟨x, rfl, hm3⟩
      · exact d.elim
def dMake (A : Ax) (Φ : Fns) (c : Nat) (a : EA) : EV := fun sw h => (a sw h).bind (mkF A Φ c)
theorem run_new (x : XOk A N sc X) (C : COk A Φ n X) {C1 f : Addr} {fd : FuncData} {ps : List Str} {sp : Sp} {wx : WX} (tk : Takes X wx) {pins : List (Addr × Obj)} {σ : St} {H : Hp} {s : Shared} {Q : VK} {us : List Value} {vs : List V} (M : Mk X.K C1 f)
    (F : FnG X.prog X.w X.K X.mg X.base (L2.CX X.prog X.w) n f fd ps sp) (hb : Binds X.K fd ps []) (I : Inv X pins σ H s) (r : Vals vs us)
    (h : ∀ x dx, H x = none → H dx = none → dx ≠ x → sp (.ref x :: vs) (upd (upd H dx (.own x)) x (.ins C1 dx [])) (fun v H2 => v = .non ∧ Q (.ref x) H2) (L2.WE wx σ)) :
    wpAny (model X.prog X.w) X.A (call (.ref C1) us) (EP X pins σ Q) X.xe s := by
  have q1 := h (s.heap.objs.size + 1) s.heap.objs.size (I.hok.fresh (Nat.le_succ _)) (I.hok.fresh (Nat.le_refl _)) (Nat.ne_of_lt (Nat.lt_succ_self _))
  have J := Inv.made (C := C1) I
  have rr : Vals (V.ref (s.heap.objs.size + 1) :: vs) (Value.ref (s.heap.objs.size + 1) :: us) := .cons rfl r
  have ln : (Value.ref (s.heap.objs.size + 1) :: us).length = ps.length := by
    rw [← rr.length]; exact F.len _ _ _ _ q1
  have bb := hb _ (Value.ref (s.heap.objs.size + 1) :: us) J.kIn (by rw [List.append_nil]; exact ln)
  rw [List.append_nil] at bb
  refine wpAny_call (make_map (f := f) I.kIn M.makes M.init (beq_iff_eq.mp M.fn) (codeAny_mono (F.run _ X.stack _ _ ⟨Value.ref (s.heap.objs.size + 1) :: us, []⟩ _ _ _ _ (make_guards x.gd) (C.room.make C1 us [])
    (J.env0.make C1 us []) bb rr q1) fun res st hq => ?_))
  cases res with
  | error er => exact passAt tk σ pins _ _ er st J hq
  | ok fl =>
    cases fl with
    | ret u =>
      obtain ⟨v, H', J3, rv, ev, q3⟩ := J.after hq
      subst ev
      exact ⟨rv, ⟨V.ref (s.heap.objs.size + 1), H', J3, rfl, q3⟩⟩
    | next => exact hq.elim
    | brk => exact hq.elim
    | cont => exact hq.elim
theorem we_make (x : XOk A N sc X) (C : COk A Φ n X) {c f : Nat} {nm : Str} (hi : A.ini c = some f) (hs : sc.names.lookup nm = some .globalImplicit) (hg : A.gt.lookup nm = some (.cls c)) (h2 : (nm == ("__debug__" : Str)) = false) (ha : WA A X (e :: es) aa) (h3 : (e :: es).all nonStar = true) :
    WE A X (.Call (.Name nm p) (e :: es) [] pos) (dMake A Φ c aa) := fun wx tk => by
  obtain ⟨C1, e1, hm⟩ := x.glob.cls nm c hg
  obtain ⟨C2, fa, e2, e3, M⟩ := C.ini c f hi
  rw [e1] at e2; cases e2
  obtain ⟨fd, ps, F, kp, hb⟩ := C.fn f fa e3
  simp only [List.all_cons, Bool.and_eq_true] at h3
  refine ⟨fun pins s σ H Q I t => ?_⟩
  refine wpAny_Call_Name_kw (ld_glob I (gl_of x hs) hm ?_ h2)
  obtain ⟨k, sw, h, hs', hh, d⟩ := TAx.bind t
  refine PySem.W.callWith_K (h₀ := X.base) I.ok.mod.kin M.kp (thn ((ha wx tk).run pos pins s σ H _ I ⟨k, sw, h, hs', hh, d⟩) fun us s1 hu => ?_) (star_ok h3.1) (stars_any h3.2)
  obtain ⟨vs, H1, I1, rs, k1, sw1, ws, h1, hs1, hh1, r, d1⟩ := hu
  exact ⟨I1.kIn, run_new x C tk M F hb I1 rs (mk_core C x.hK hi e1 hh1 r d1)⟩
theorem we_make0 (x : XOk A N sc X) (C : COk A Φ n X) {c f : Nat} {nm : Str} (hi : A.ini c = some f) (hs : sc.names.lookup nm = some .globalImplicit) (hg : A.gt.lookup nm = some (.cls c)) (h2 : (nm == ("__debug__" : Str)) = false) :
    WE A X (.Call (.Name nm p) [] [] pos) (dMake A Φ c aNil) := fun wx tk => by
  obtain ⟨C1, e1, hm⟩ := x.glob.cls nm c hg
  obtain ⟨C2, fa, e2, e3, M⟩ := C.ini c f hi
  rw [e1] at e2; cases e2
  obtain ⟨fd, ps, F, kp, hb⟩ := C.fn f fa e3
  refine ⟨fun pins s σ H Q I t => ?_⟩
  refine wpAny_Call_Name_kw (ld_glob I (gl_of x hs) hm ?_ h2)
  obtain ⟨k, sw, h, hs', hh, d⟩ := t
  exact PySem.W.callWith_K0 I.kIn M.kp (run_new (us := []) x C tk M F hb I .nil (mk_core C x.hK hi e1 hh (by simp only [RepL]) d))

/-! ### isinstance -/
end
end KW

set_option Elab.async false
set_option linter.all false
set_option maxRecDepth 100000
set_option maxHeartbeats 4000000
/-! targets, what loops walk, statements -/
namespace KW
open PySem L2

/-! ### targets -/
inductive Tg where
  | nm (i : Nat)
  | tup (ts : List Tg)
mutual
def tgW : Tg → W → WS → Option WS
  | .nm i, w, sw => some (sw.set i (some w))
  | .tup ts, .tup ws, sw => tgWs ts ws sw
  | .tup _, _, _ => none
def tgWs : List Tg → List W → WS → Option WS
  | [], [], sw => some sw
  | t :: ts, w :: ws, sw => (tgW t w sw).bind fun sw' => tgWs ts ws sw'
  | _, _, _ => none
end
mutual
def Tg.slots : Tg → List Nat
  | .nm i => [i]
  | .tup ts => Tg.slotss ts
def Tg.slotss : List Tg → List Nat
  | [] => []
  | t :: ts => Tg.slots t ++ Tg.slotss ts
end
/-- all slots but these stand -/
def Off (own : List Nat) (σ σ' : St) : Prop := σ'.length = σ.length ∧ ∀ j, j ∉ own → σ'[j]? = σ[j]?
def TGx (G : Gx) (own : List Nat) (t : W → WS → Option WS) : TG := fun v σ H Q => ∃ k sw h w sw', SRep G k sw σ ∧ HRep G k H h ∧ Rep G k w v ∧ t w sw = some sw' ∧ ∀ σ', SRep G k sw' σ' → Off own σ σ' → Q σ' H
def TGsx (G : Gx) (own : List Nat) (t : List W → WS → Option WS) : TGs := fun vs σ H Q => ∃ k sw h ws sw', SRep G k sw σ ∧ HRep G k H h ∧ RepL G k ws vs ∧ t ws sw = some sw' ∧ ∀ σ', SRep G k sw' σ' → Off own σ σ' → Q σ' H
def WG (A : Ax) (X : Cx) (e : Expr) (t : Tg) : Prop := PG X e (TGx A.toGx t.slots (tgW t))
def WGs (A : Ax) (X : Cx) (es : List Expr) (ts : List Tg) : Prop := PGs X es (TGsx A.toGx (Tg.slotss ts) (tgWs ts))
theorem PG_imp {X : Cx} {e : Expr} {t t' : TG} (h : PG X e t) (i : ∀ v σ H Q, t' v σ H Q → t v σ H Q) : PG X e t' := ⟨fun pins s σ H v u Q I r q => h.run pins s σ H v u Q I r (i v σ H Q q)⟩
theorem PGs_imp {X : Cx} {e : List Expr} {t t' : TGs} (h : PGs X e t) (i : ∀ v σ H Q, t' v σ H Q → t v σ H Q) : PGs X e t' := ⟨fun pins s σ H v u Q I r q => h.run pins s σ H v u Q I r (i v σ H Q q)⟩
section
variable {A : Ax} {X : Cx} {N : List Str} {sc : Scope} {Φ : Fns} {n : Nat} {a b c e : Expr} {ea eb ec : EV} {aa : EA} {p pos apos : Pos} {es : List Expr}
/-- what may be stored -/
structure StOk (A : Ax) (N : List Str) (sc : Scope) (X : Cx) : Prop extends XOk A N sc X where
  fn : ∀ y, X.fn y = true
  stack : X.stack = X.env :: X.outer
  frame : X.env.frame = some X.env.locals
theorem wg_nm (x : XOk A N sc X) {i : Nat} {y : Str} (hN : N[i]? = some y) (hl : L2.Loc sc y) (hf : X.fn y = true ∨ sc.names.lookup y = some .local) : WG A X (.Name y pos) (.nm i) :=
  PG_imp (pg_name (by rw [x.hN]; exact x.nd) (by rw [x.hN]; exact hN) (by rw [x.hsc]; exact hl) (by rw [x.hsc]; exact hf)) fun v σ H Q ⟨k, sw, h, w, sw', hs, hh, r, e, q⟩ => by
    simp only [tgW, Option.some.injEq] at e
    subst e
    refine q _ (hs.set i r) ⟨by rw [List.length_set], fun j hj => List.getElem?_set_ne fun z => hj ?_⟩
    simp [Tg.slots, z]
theorem wgs_nil : WGs A X [] [] := PGs_imp pgs_nil fun v σ H Q ⟨k, sw, h, ws, sw', hs, hh, r, e, q⟩ => by
  cases ws with
  | nil =>
    simp only [RepL] at r
    simp only [tgWs, Option.some.injEq] at e
    subst r; subst e
    exact ⟨rfl, q _ hs ⟨rfl, fun _ _ => rfl⟩⟩
  | cons w ws => simp [tgWs] at e
theorem wgs_cons {t : Tg} {ts : List Tg} (h1 : WG A X e t) (h2 : WGs A X es ts) (hs : (assignEach (e :: es) X.env).map (·.2) = assign e X.env :: (assignEach es X.env).map (·.2)) : WGs A X (e :: es) (t :: ts) :=
  PGs_imp (pgs_cons h1 h2 hs) fun v σ H Q ⟨k, sw, h, ws, sw', hs, hh, r, e, q⟩ => by
    cases ws with
    | nil => simp [tgWs] at e
    | cons w ws =>
      simp only [RepL] at r
      obtain ⟨v1, vr, rfl, r1, r2⟩ := r
      simp only [tgWs] at e
      obtain ⟨sw1, e1, e2⟩ := Option.bind_eq_some_iff.mp e
      exact ⟨v1, vr, rfl, k, sw, h, w, sw1, hs, hh, r1, e1, fun σ1 hs1 o1 => ⟨k, sw1, h, ws, sw', hs1, hh, r2, e2, fun σ2 hs2 o2 => q σ2 hs2 ⟨o2.1.trans o1.1, fun j hj => by
        simp only [Tg.slotss, List.mem_append, not_or] at hj
        rw [o2.2 j hj.2, o1.2 j hj.1]⟩⟩⟩
theorem assignEach_len {env : Env} : ∀ {es : List Expr}, (assignEach es env).length = es.length
  | [] => rfl
  | e :: es => by
    have ih := assignEach_len (env := env) (es := es)
    cases e <;> first | (simp only [assignEach, List.length_cons, ih]; done) | (unfold assignEach; simp [ih])
theorem assignEach_cons {env : Env} {e : Expr} {es : List Expr} (h : nonStar e = true) : (assignEach (e :: es) env).map (·.2) = assign e env :: (assignEach es env).map (·.2) := by
  cases e <;> first | rfl | simp [nonStar] at h
theorem assignEach_star {env : Env} : ∀ {es : List Expr}, es.all nonStar = true → (assignEach es env).findIdx? (·.1) = none
  | [], _ => rfl
  | e :: es, h => by
    simp only [List.all_cons, Bool.and_eq_true] at h
    have ih := assignEach_star (env := env) h.2
    have : assignEach (e :: es) env = (false, assign e env) :: assignEach es env := by
      cases e <;> first | rfl | simp [nonStar] at h
    rw [this, List.findIdx?_cons]
    simp only [Bool.false_eq_true, if_false, ih, Option.map_none]
theorem tgWs_len : ∀ {ts : List Tg} {ws : List W} {sw sw' : WS}, tgWs ts ws sw = some sw' → ws.length = ts.length
  | [], [], _, _, _ => rfl
  | [], _ :: _, _, _, e => by simp [tgWs] at e
  | _ :: _, [], _, _, e => by simp [tgWs] at e
  | t :: ts, w :: ws, sw, sw', e => by
    simp only [tgWs] at e
    obtain ⟨sw1, _, e2⟩ := Option.bind_eq_some_iff.mp e
    simp [tgWs_len e2]
theorem wg_tup (x : XOk A N sc X) {ts : List Tg} {kk : Nat} (h : WGs A X es ts) (hl : es.length = ts.length) (h3 : es.all nonStar = true) : WG A X (.Tuple es kk pos) (.tup ts) :=
  PG_imp (pg_tup (n := es.length) x.calm h assignEach_len (assignEach_star h3)) fun v σ H Q ⟨k, sw, h, w, sw', hs, hh, r, e, q⟩ => by
    cases w <;> simp only [tgW, reduceCtorEq] at e
    rename_i ws
    obtain ⟨p1, vs, rfl, q1, r1⟩ := tupAt hh r
    exact ⟨p1, vs, rfl, by rw [x.hK]; exact q1, by rw [r1.length, hl]; exact tgWs_len e, k, sw, h, ws, sw', hs, hh, r1, e, q⟩

/-! ### statements -/
theorem PS_of {st : Stmt} {t : TS} {ev : EW} (h : ∀ wx, Takes X wx → PassesOwn (model X.prog X.w) X.A X.env X.xe → PS X st (TSx A.toGx wx ev)) : WSt A X st ev := h
def sNil : EW := fun sw h => .ok (.next sw) h
def sSeq (s : EW) (r : EW) : EW := fun sw h => match s sw h with
  | .ok (.next sw1) h1 => r sw1 h1
  | x => x
theorem ws_nil : WSs A X [] sNil := fun wx tk po => PSs_imp pss_nil fun D σ H ⟨k, sw, h, hs, hh, d⟩ => d σ k H (.refl _ _) hh hs
theorem ws_cons {st : Stmt} {rest : List Stmt} {s r : EW} (h1 : WSt A X st s) (h2 : WSs A X rest r) : WSs A X (st :: rest) (sSeq s r) := fun wx tk po =>
  PSs_imp (pss_cons (h1 wx tk po) (h2 wx tk po)) fun D σ H ⟨k, sw, h, hs, hh, d⟩ => by
    refine ⟨k, sw, h, hs, hh, ?_⟩
    unfold sSeq at d
    cases e : s sw h with
    | no => rw [e] at d; exact d
    | exc s' c fs vs h' => rw [e] at d; exact d
    | ok f h1 =>
      rw [e] at d
      cases f with
      | next sw1 => exact fun σ1 k1 H1 n1 hh1 hs1 => ⟨k1, sw1, h1, hs1, hh1, d.nxt n1⟩
      | ret w => exact d
      | brk s => exact d
      | cont s => exact d
/-- an expression's result, then a statement's -/
def R.st {α : Type} (r : R α) (sw : WS) (f : α → WH → RS) : RS := match r with
  | .ok a h => f a h
  | .exc c fs vs h => .exc sw c fs vs h
  | .no => .no
theorem DenS.bind {α β : Type} {G : Gx} {rp : Ka → α → β → Prop} {wx : WX} {k : Ka} {H : Hp} {σ : St} {sw : WS} {r : R α} {f : α → WH → RS} {D : Ends} (hs : SRep G k sw σ) (h : DenS G wx k H (r.st sw f) D) :
    Den G rp wx k H σ r fun v H' => ∃ k' w h', Nxt k H k' H' ∧ HRep G k' H' h' ∧ rp k' w v ∧ SRep G k' sw σ ∧ DenS G wx k' H' (f w h') D := by
  cases r with
  | ok w h' => exact fun v k' H' n x r => ⟨k', w, h', n, x, r, hs.mono n.le, DenS.nxt n h⟩
  | exc c fs vs h' => exact fun C d k' H' n x xr => h σ C d k' H' n x (hs.mono n.le) xr
  | no => exact h
def sSet (i : Nat) (a : EV) : EW := fun sw h => (a sw h).st sw fun w h1 => .ok (.next (sw.set i (some w))) h1
theorem ws_set (x : StOk A N sc X) {i : Nat} {y : Str} {py : Pos} (hN : N[i]? = some y) (hl : L2.Loc sc y) (ha : WE A X a ea) (hc : notComp a = true) : WSt A X (.Assign [.Name y py] a pos) (sSet i ea) := fun wx tk po =>
  PS_imp (ps_set (by rw [x.hN]; exact x.nd) (by rw [x.hN]; exact hN) (by rw [x.hsc]; exact hl) (ha wx tk) (swaps_not hc) (.inl (x.fn y))) fun D σ H ⟨k, sw, h, hs, hh, d⟩ =>
    ⟨k, sw, h, hs, hh, (DenS.bind (rp := Rep A.toGx) hs d).imp fun v H1 ⟨k1, w, h1, n1, hh1, r1, hs1, d1⟩ => d1 _ k1 H1 (.refl _ _) hh1 (hs1.set i r1)⟩
def sTg (t : W → WS → Option WS) (a : EV) : EW := fun sw h => (a sw h).st sw fun w h1 => match t w sw with | some sw' => .ok (.next sw') h1 | none => .no
def parStores : List Expr → Expr → Bool
  | [.Tuple _ _ _], .Tuple _ _ _ => false
  | [_], _ => true
  | _, _ => false
theorem ws_asg {tg : Expr} {t : Tg} (hg : WG A X tg t) (ha : WE A X a ea) (hs : swapsWithSole [tg] a pos.line X.env = pure false) (hw : swappedStores [tg] a X.env = pure none) (h1 : (assignEach [tg] X.env).map (·.2) = [assign tg X.env]) :
    WSt A X (.Assign [tg] a pos) (sTg (tgW t) ea) := fun wx tk po =>
  PS_imp (ps_asg (ha wx tk) hg hs hw h1) fun D σ H ⟨k, sw, h, hs, hh, d⟩ =>
    ⟨k, sw, h, hs, hh, (DenS.bind (rp := Rep A.toGx) hs d).imp fun v H1 ⟨k1, w, h1, n1, hh1, r1, hs1, d1⟩ => by
      split at d1
      · rename_i sw' e
        exact ⟨k1, sw, h1, w, sw', hs1, hh1, r1, e, fun σ' hs' _ => d1 σ' k1 H1 (.refl _ _) hh1 hs'⟩
      · exact d1.elim⟩
/-- a, b = x, y -/
def sPar (i j : Nat) (a : EA) : EW := fun sw h => (a sw h).st sw fun ws h1 => match ws with | [w, u] => .ok (.next ((sw.set i (some w)).set j (some u))) h1 | _ => .no
theorem ws_par (x : XOk A N sc X) {i j : Nat} {y z : Str} {px py pt pt2 : Pos} {kt k2 : Nat} (hi : N[i]? = some y) (hj : N[j]? = some z) (hij : i ≠ j) (hy : sc.names.lookup y = some .local) (hz : sc.names.lookup z = some .local) (ha : WA A X [a, b] aa)
    (hw : swappedStores [.Tuple [.Name y px, .Name z py] kt pt] (.Tuple [a, b] k2 pt2) X.env = pure (some [y, z])) (hs : swapsWithSole [.Tuple [.Name y px, .Name z py] kt pt] (.Tuple [a, b] k2 pt2) pos.line X.env = pure false) :
    WSt A X (.Assign [.Tuple [.Name y px, .Name z py] kt pt] (.Tuple [a, b] k2 pt2) pos) (sPar i j aa) := fun wx tk po =>
  PS_imp (ps_par x.calm (by rw [x.hN]; exact x.nd) (by rw [x.hN]; exact hi) (by rw [x.hN]; exact hj) hij (by rw [x.hsc]; exact hy) (by rw [x.hsc]; exact hz) (ha wx tk) hw hs) fun D σ H ⟨k, sw, h, hs, hh, d⟩ =>
    ⟨k, sw, h, hs, hh, (DenS.bind (rp := RepL A.toGx) hs d).imp fun v H1 ⟨k1, w, h1, n1, hh1, r1, hs1, d1⟩ => by
      split at d1
      · obtain ⟨v1, v2, rfl, r2, r3⟩ := rep2 r1
        exact ⟨v1, v2, rfl, d1 _ k1 H1 (.refl _ _) hh1 ((hs1.set i r2).set j r3)⟩
      · exact d1.elim⟩
def sExpr (a : EV) : EW := fun sw h => (a sw h).st sw fun _ h1 => .ok (.next sw) h1
theorem ws_expr (ha : WE A X a ea) (hc : notComp a = true) : WSt A X (.Expr a pos) (sExpr ea) := fun wx tk po =>
  PS_imp (ps_expr (ha wx tk) (swaps_not hc)) fun D σ H ⟨k, sw, h, hs, hh, d⟩ =>
    ⟨k, sw, h, hs, hh, (DenS.bind (rp := Rep A.toGx) hs d).imp fun v H1 ⟨k1, w, h1, n1, hh1, r1, hs1, d1⟩ => d1 _ k1 H1 (.refl _ _) hh1 hs1⟩
def sRet (a : EV) : EW := fun sw h => (a sw h).st sw fun w h1 => .ok (.ret w) h1
theorem ws_ret (ha : WE A X a ea) : WSt A X (.Return (some a) pos) (sRet ea) := fun wx tk po =>
  PS_imp (ps_ret (ha wx tk)) fun D σ H ⟨k, sw, h, hs, hh, d⟩ =>
    ⟨k, sw, h, hs, hh, (DenS.bind (rp := Rep A.toGx) hs d).imp fun v H1 ⟨k1, w, h1, n1, hh1, r1, hs1, d1⟩ => d1 _ k1 H1 (.refl _ _) hh1 r1⟩
def sRetN : EW := fun _ h => .ok (.ret .non) h
theorem ws_retN : WSt A X (.Return none pos) sRetN := fun wx tk po => PS_imp ps_retN fun D σ H ⟨k, sw, h, hs, hh, d⟩ => d _ k H (.refl _ _) hh (by simp only [Rep])
theorem ws_pass : WSt A X (.Pass pos) sNil := fun wx tk po => PS_imp ps_pass fun D σ H ⟨k, sw, h, hs, hh, d⟩ => d σ k H (.refl _ _) hh hs
def sBrk : EW := fun sw h => .ok (.brk sw) h
def sCont : EW := fun sw h => .ok (.cont sw) h
theorem ws_brk : WSt A X (.Break pos) sBrk := fun wx tk po => PS_imp ps_break fun D σ H ⟨k, sw, h, hs, hh, d⟩ => d σ k H (.refl _ _) hh hs
theorem ws_cont : WSt A X (.Continue pos) sCont := fun wx tk po => PS_imp ps_continue fun D σ H ⟨k, sw, h, hs, hh, d⟩ => d σ k H (.refl _ _) hh hs
def sIf (t : EB) (a b : EW) : EW := fun sw h => (t sw h).st sw fun c h1 => if c then a sw h1 else b sw h1
theorem ws_if {c : Expr} {p q : List Stmt} {tc : EB} {s r : EW} (hc : WT A X c tc) (hp : WSs A X p s) (hq : WSs A X q r) : WSt A X (.If c p q pos) (sIf tc s r) := fun wx tk po =>
  PS_imp (ps_if (hc wx tk) (hp wx tk po) (hq wx tk po)) fun D σ H ⟨k, sw, h, hs, hh, d⟩ =>
    ⟨k, sw, h, hs, hh, (DenS.bind (rp := fun _ a b => a = b) hs d).imp fun c H1 ⟨k1, w, h1, n1, hh1, e, hs1, d1⟩ => by
      subst e
      cases w with
      | true =>
        rw [if_pos rfl] at d1 ⊢
        exact ⟨k1, sw, h1, hs1, hh1, d1⟩
      | false =>
        rw [if_neg (by decide)] at d1 ⊢
        exact ⟨k1, sw, h1, hs1, hh1, d1⟩⟩
/-- o[i] = v of a logical list -/
def fSetI (o i v : W) (h : WH) : Option WH := match o with
  | .ref a => match h[a]? with
    | some (.lst ws) => (match i with | .int j => (match ixN ws.length j with | some n => some (h.set a (.lst (ws.set n v))) | none => none) | _ => none)
    | some (.dct ks ws) => (match keyOfW i with | some k => if ks.length < lim then some (h.set a (.dct (putD (keyW k) v ks ws).1 (putD (keyW k) v ks ws).2)) else none | none => none)
    | some (.td ks ws) => (match nkT i with | some n => if ks.length < lim then some (h.set a (.td (putT n i v ks ws).1 (putT n i v ks ws).2)) else none | none => none)
    | _ => none
  | _ => none
def sSetI (o i v : EV) : EW := fun sw h => (v sw h).st sw fun x h1 => (o sw h1).st sw fun y h2 => (i sw h2).st sw fun z h3 => match fSetI y z x h3 with | some h4 => .ok (.next sw) h4 | none => .no
theorem putK_keys {kvs : List (Key × V)} {k : Key} {v : V} (nd : (kvs.map (·.1)).Nodup) : ((putK kvs k v).map (·.1)).Nodup := by
  unfold putK
  split
  · have e : (kvs.map fun kv => if kv.1 = k then (kv.1, v) else kv).map (·.1) = kvs.map (·.1) := by
      rw [List.map_map]
      refine List.map_congr_left fun x _ => ?_
      by_cases z : x.1 = k <;> simp [z]
    rw [e]; exact nd
  · rename_i h
    rw [List.map_append]
    refine List.nodup_append.mpr ⟨nd, by simp, fun a ha c hc => ?_⟩
    simp at hc; subst hc
    intro z; subst z
    obtain ⟨x, hx, e⟩ := List.mem_map.mp ha
    exact h (List.any_eq_true.mpr ⟨x, hx, by simpa using e⟩)
def rSetX (X : Cx) : TSet := fun o i v H R => rSetL o i v H R ∨ rDkS o i v H R ∨ rTdS X.K X.prog X.w o i v H R
theorem set_X (xo : XOk A N sc X) : PSet X (rSetX X) := pset_or set_list (pset_or (set_dk (by have := xo.un; omega)) (set_td (by have := xo.un; omega)))
theorem setX_ok (xo : XOk A N sc X) {k : Ka} {H : Hp} {h h4 : WH} {o i x : W} {u z v : V} {R : Hp → Prop} (hh : HRep A.toGx k H h) (ro : Rep A.toGx k o u) (ri : Rep A.toGx k i z) (rx : Rep A.toGx k x v) (e : fSetI o i x h = some h4)
    (q : ∀ H', Nxt k H k H' → HRep A.toGx k H' h4 → R H') : rSetX X u z v H R := by
  unfold fSetI at e
  split at e
  · rename_i a
    split at e
    · rename_i ws ho
      split at e
      · rename_i j
        split at e
        · rename_i nn en
          cases e
          obtain ⟨p1, e1, em, vs, eH, rr⟩ := ref_at hh ro ho
          simp only [Rep] at ri
          subst ri
          obtain ⟨_, od⟩ := hh.ob _ _ _ ho em
          obtain ⟨oF, oM⟩ := od (by intro z; cases z)
          exact .inl ⟨p1, vs, _, nn, e1, rfl, eH, by rw [rr.length]; exact en, q _ (Nxt.put hh em) (hh.put em oF ⟨_, upd_same, rr.set nn rx⟩ trivial)⟩
        · cases e
      · cases e
    · rename_i ks ws ho
      split at e
      · rename_i key ek
        split at e
        · rename_i hl
          cases e
          obtain ⟨p1, e1, em, kvs, eH, nd, e2, rr⟩ := ref_at hh ro ho
          obtain ⟨rfl, _⟩ := keyOf_rep ri ek
          obtain ⟨_, od⟩ := hh.ob _ _ _ ho em
          obtain ⟨oF, oM⟩ := od (by intro z; cases z)
          subst e2
          obtain ⟨i1, i2⟩ := putD_rep (y := key) rx nd rr
          exact .inr (.inl ⟨p1, kvs, key, e1, rfl, eH, by rw [List.length_map] at hl; exact Nat.lt_of_lt_of_le hl (lim_le (Nat.le_refl _)), q _ (Nxt.put hh em) (hh.put em oF ⟨_, upd_same, putK_keys nd, i1, i2⟩ trivial)⟩)
        · cases e
      · cases e
    · rename_i ks ws ho
      split at e
      · rename_i n en
        split at e
        · rename_i hl
          cases e
          obtain ⟨p1, e1, em, xs, eH, nd, tr⟩ := ref_at hh ro ho
          obtain ⟨b, rfl, e2, hd⟩ := nkT_rep ri en
          obtain ⟨_, od⟩ := hh.ob _ _ _ ho em
          obtain ⟨oF, oM⟩ := od (by intro z; cases z)
          refine .inr (.inr ⟨p1, b, n, xs, e1, rfl, by rw [xo.hP, xo.hw]; exact eH, by rw [xo.hK]; exact tr.all hh.sub, by rw [xo.hK]; exact nk_of hh.sub ri e2, hd, by rw [tr.length]; exact Nat.lt_of_lt_of_le hl (lim_le (Nat.le_refl _)), q _ (Nxt.put hh em) ?_⟩)
          refine hh.put em oF ⟨putN xs n b v, ?_, putN_keys nd, tr.put e2 hd ri rx nd⟩ trivial
          rw [xo.hP, xo.hw]; exact upd_same
        · cases e
      · cases e
    · cases e
  · cases e
theorem ws_setI (xo : XOk A N sc X) (ho : WE A X a ea) (hi : WE A X b eb) (hv : WE A X c ec) {tp : Pos} (ha : ∀ v, assign (.Subscript a b tp) X.env v = (do
      let ov ← holding [v] (eval a X.env)
      let iv ← holding [v, ov] (eval b X.env)
      standAt tp
      holding [v, ov, iv] (setItem ov iv v)
      release [v, ov, iv] [])) (hs1 : swapsWithSole [.Subscript a b tp] c pos.line X.env = pure false) (hw : swappedStores [.Subscript a b tp] c X.env = pure none) (h1 : (assignEach [.Subscript a b tp] X.env).map (·.2) = [assign (.Subscript a b tp) X.env]) :
    WSt A X (.Assign [.Subscript a b tp] c pos) (sSetI ea eb ec) := fun wx tk po =>
  PS_imp (ps_asg (hv wx tk) (pg_sub (ho wx tk) (hi wx tk) (set_X xo) ha) hs1 hw h1) fun D σ H ⟨k, sw, h, hs, hh, d⟩ => by
    refine ⟨k, sw, h, hs, hh, (DenS.bind (rp := Rep A.toGx) hs d).imp fun v H1 ⟨k1, w1, h1, n1, hh1, r1, hs1, d1⟩ => ?_⟩
    refine ⟨k1, sw, h1, hs1, hh1, (DenS.bind (rp := Rep A.toGx) hs1 d1).imp fun o H2 ⟨k2, w2, h2, n2, hh2, r2, hs2, d2⟩ => ?_⟩
    refine ⟨k2, sw, h2, hs2, hh2, (DenS.bind (rp := Rep A.toGx) hs2 d2).imp fun i H3 ⟨k3, w3, h3, n3, hh3, r3, hs3, d3⟩ => ?_⟩
    split at d3
    · rename_i h4 e
      exact setX_ok xo hh3 (r2.mono n3.le) r3 (r1.mono (n2.le.trans n3.le)) e fun H' nx hx => d3 σ k3 _ nx hx hs3
    · exact d3.elim
/-- o.f = v of a logical instance -/
def fSetF (A : Ax) (o : W) (f : Nat) (v : W) (h : WH) : Option WH := match o with
  | .ref a => match h[a]? with
    | some (.ins c fs vs) => if A.lay c f = true ∧ fs.length < 900 then some (h.set a (.ins c (putFs f fs) (putVs f v fs vs))) else none
    | _ => none
  | _ => none
def sSetF (A : Ax) (o : EV) (f : Nat) (v : EV) : EW := fun sw h => (v sw h).st sw fun x h1 => (o sw h1).st sw fun y h2 => match fSetF A y f x h2 with | some h4 => .ok (.next sw) h4 | none => .no
theorem put_rep {A : Ax} (F : FldOk A) {k : Ka} {c f : Nat} {v : V} {x : W} (hf : A.lay c f = true) (rx : Rep A.toGx k x v) : ∀ {fs : List Nat} {ws : List W} {fvs : List (Str × V)}, fs.all (A.lay c) = true → fvs.map (·.1) = fs.map A.fn → RepL A.toGx k ws (fvs.map (·.2)) →
    (putFs f fs).all (A.lay c) = true ∧ (putF (A.fn f) v fvs).map (·.1) = (putFs f fs).map A.fn ∧ RepL A.toGx k (putVs f x fs ws) ((putF (A.fn f) v fvs).map (·.2))
  | [], ws, [], _, _, r => by
    refine ⟨?_, rfl, RepL.one rx⟩
    simp only [putFs, List.all_cons, List.all_nil, Bool.and_true]; exact hf
  | [], ws, _ :: _, _, e, _ => by simp at e
  | g :: fs, ws, [], _, e, _ => by simp at e
  | g :: fs, [], (n, v') :: fvs, _, _, r => by
    simp [RepL] at r
  | g :: fs, w :: ws, (n, v') :: fvs, ha, e, r => by
    simp only [List.map_cons, List.cons.injEq] at e
    simp only [List.map_cons, RepL, List.cons.injEq] at r
    obtain ⟨v0, r0, ⟨rfl, rfl⟩, h1, h2⟩ := r
    simp only [List.all_cons, Bool.and_eq_true] at ha
    by_cases z : f = g
    · subst z
      simp only [putFs, putVs, putF, if_pos, e.1, List.map_cons, List.all_cons, Bool.and_eq_true, if_true]
      refine ⟨ha, by rw [e.2], ?_⟩
      simp only [RepL]
      exact ⟨v, _, rfl, rx, h2⟩
    · have z2 : ¬ n = A.fn f := fun q => z (F.inj c f g hf ha.1 (q.symm.trans e.1))
      obtain ⟨i1, i2, i3⟩ := put_rep F hf rx ha.2 e.2 h2
      simp only [putFs, putVs, putF, if_neg z, if_neg z2, List.map_cons, List.all_cons, Bool.and_eq_true]
      refine ⟨⟨ha.1, i1⟩, by rw [i2, e.1], ?_⟩
      simp only [RepL]
      exact ⟨v', _, rfl, h1, i3⟩
theorem ws_setF (x : XOk A N sc X) (F : FldOk A) {f : Nat} {nm : Str} (hn : A.fn f = nm) (ho : WE A X a ea) (hv : WE A X b eb) {tp : Pos} : WSt A X (.Assign [.Attribute a nm tp] b pos) (sSetF A ea f eb) := fun wx tk po =>
  PS_imp (ps_fld (ho wx tk) (hv wx tk) swaps_attr) fun D σ H ⟨k, sw, h, hs, hh, d⟩ => by
    refine ⟨k, sw, h, hs, hh, (DenS.bind (rp := Rep A.toGx) hs d).imp fun v H1 ⟨k1, w1, h1, n1, hh1, r1, hs1, d1⟩ => ?_⟩
    refine ⟨k1, sw, h1, hs1, hh1, (DenS.bind (rp := Rep A.toGx) hs1 d1).imp fun o H2 ⟨k2, w2, h2, n2, hh2, r2, hs2, d2⟩ => ?_⟩
    split at d2
    · rename_i h4 e
      unfold fSetF at e
      split at e
      · rename_i ad
        split at e
        · rename_i c fs vs ho
          split at e
          · rename_i hl
            cases e
            obtain ⟨p1, e1, em, C, dx, fvs, ⟨ec, ea⟩, eH, ek, rr⟩ := ref_at hh2 r2 ho
            subst hn
            have lf : fvs.length = fs.length := by
              have := congrArg List.length ek
              simpa using this
            refine ⟨p1, C, dx, fvs, e1, eH, by rw [x.hK]; exact F.cls c C f ec hl.1, by rw [x.hK]; exact F.na c C f ec hl.1, by rw [lf]; omega, ?_⟩
            obtain ⟨_, od⟩ := hh2.ob _ _ _ ho em
            obtain ⟨oF, oM⟩ := od (by intro z; cases z)
            obtain ⟨i1, i2, i3⟩ := put_rep F hl.1 (r1.mono n2.le) ea ek rr
            exact d2 σ k2 _ (Nxt.put hh2 em) (hh2.put em oF ⟨C, dx, _, ⟨ec, i1⟩, upd_same, i2, i3⟩ trivial) hs2
          · cases e
        · cases e
      · cases e
    · exact d2.elim
end
end KW

set_option Elab.async false
set_option linter.all false
set_option maxRecDepth 100000
set_option maxHeartbeats 4000000
/-! loops, comprehensions, methods of lists -/
namespace KW
open PySem L2

def srcOk (src : Option Nat) (ws : List W) (h : WH) : Bool := match src with
  | none => true
  | some a => decide (h[a]? = some (.lst ws))
/-- an iterator over these items (of the logical list at src, as long as it stands) -/
structure Walks (G : Gx) (J : It) (k0 : Ka) (H0 : Hp) (ws : List W) (src : Option Nat) : Prop where
  go : ∀ i k H h, Nxt k0 H0 k H → HRep G k H h → srcOk src ws h = true → i < ws.length → J.go i H
  stop : ∀ k H h, Nxt k0 H0 k H → HRep G k H h → srcOk src ws h = true → J.stop ws.length H
  yld : ∀ i k H h x H' w, Nxt k0 H0 k H → HRep G k H h → srcOk src ws h = true → ws[i]? = some w → J.yld i H x H' → ∃ k', Nxt k H k' H' ∧ HRep G k' H' h ∧ Rep G k' w x
abbrev EI := WS → WH → R (List W × Option Nat)
def DenI (G : Gx) (wx : WX) (k : Ka) (H : Hp) (σ : St) (r : R (List W × Option Nat)) (Q : It → Hp → Prop) : Prop := match r with
  | .ok u h' => ∀ J k' H', Nxt k H k' H' → HRep G k' H' h' → Walks G J k' H' u.1 u.2 → Q J H'
  | .exc c fs vs h' => ∀ C d k' H', Nxt k H k' H' → HRep G k' H' h' → XRep G k' H' c fs vs C d → wx (.ref C) d σ H'
  | .no => False
theorem DenI.nxt {G : Gx} {wx : WX} {k k1 : Ka} {H H1 : Hp} {σ : St} {r : R (List W × Option Nat)} {Q : It → Hp → Prop} (n : Nxt k H k1 H1) (h : DenI G wx k H σ r Q) : DenI G wx k1 H1 σ r Q := by
  cases r with
  | ok u h' => exact fun J k' H' n' => h J k' H' (n.trans n')
  | exc c fs vs h' => exact fun C d k' H' n' => h C d k' H' (n.trans n')
  | no => exact h
theorem DenI.bind {α β : Type} {G : Gx} {rp : Ka → α → β → Prop} {wx : WX} {k : Ka} {H : Hp} {σ : St} {r : R α} {f : α → WH → R (List W × Option Nat)} {Q : It → Hp → Prop} (h : DenI G wx k H σ (r.bind f) Q) :
    Den G rp wx k H σ r fun v H' => ∃ k' w h', Nxt k H k' H' ∧ HRep G k' H' h' ∧ rp k' w v ∧ DenI G wx k' H' σ (f w h') Q := by
  cases r with
  | ok w h' => exact fun v k' H' n x r => ⟨k', w, h', n, x, r, DenI.nxt n h⟩
  | exc c fs vs h' => exact h
  | no => exact h
def TIx (G : Gx) (wx : WX) (ev : EI) : TI := fun σ H Q => ∃ k sw h, SRep G k sw σ ∧ HRep G k H h ∧ DenI G wx k H σ (ev sw h) Q
def WI (A : Ax) (X : Cx) (tg e : Expr) (ev : EI) : Prop := ∀ wx, Takes X wx → PI X tg e (TIx A.toGx wx ev)
theorem PI_imp {X : Cx} {tg e : Expr} {t t' : TI} (h : PI X tg e t) (i : ∀ σ H Q, t' σ H Q → t σ H Q) : PI X tg e t' := ⟨fun pins s σ H Q I q => h.run pins s σ H Q I (i σ H Q q)⟩
theorem PI_or {X : Cx} {tg e : Expr} {t t' : TI} (h : PI X tg e t) (h' : PI X tg e t') : PI X tg e (fun σ H R => t σ H R ∨ t' σ H R) := ⟨fun pins s σ H Q I q => q.elim (h.run pins s σ H Q I) (h'.run pins s σ H Q I)⟩

theorem eqbs_iff {a b : List W} : W.eqbs a b = true ↔ a = b := ⟨W.eqbs_eq, fun e => e ▸ W.eqbs_refl a⟩
section
variable {G : Gx} {k : Ka} {H : Hp} {h : WH} {p : Addr} {ws : List W} {vs : List V}
/-- a frozen list, or a logical one that stands -/
theorem walks_lst (hf : k.F p = some (.lst vs)) (r : RepL G k ws vs) : Walks G (Itl G.K p) k H ws none where
  go := fun i k' H' h' n x _ hi => ⟨vs, vs[i]'(by rw [r.length]; exact hi), SqL.of (x.sub _ _ (n.le.F _ _ hf)), by simp⟩
  stop := fun k' H' h' n x _ => ⟨vs, SqL.of (x.sub _ _ (n.le.F _ _ hf)), by rw [r.length]; exact Nat.le_refl _⟩
  yld := fun i k' H' h' x H2 w n hx _ e y => by
    obtain ⟨e1, y⟩ := y
    subst e1
    have e2 := y vs (SqL.of (hx.sub _ _ (n.le.F _ _ hf)))
    obtain ⟨v, e3, r3⟩ := (r.mono n.le).get e
    rw [e2] at e3; cases e3
    exact ⟨k', .refl _ _, hx, r3⟩
theorem walks_ref {a : Nat} (hm : k.mu[a]? = some p) : Walks G (Itl G.K p) k H ws (some a) := by
  have at_ : ∀ {k' : Ka} {H' : Hp} {h' : WH}, Nxt k H k' H' → HRep G k' H' h' → srcOk (some a) ws h' = true → ∃ vs, H' p = some (.lst vs) ∧ RepL G k' ws vs := fun {k' H' h'} n x s => by
    have ho : h'[a]? = some (.lst ws) := by simpa [srcOk] using s
    exact (x.ob a _ p ho (prefix_get n.le.mu hm)).1
  refine ⟨fun i k' H' h' n x s hi => ?_, fun k' H' h' n x s => ?_, fun i k' H' h' x H2 w n hx s e y => ?_⟩
  · obtain ⟨vs, e, r⟩ := at_ n x s
    exact ⟨vs, vs[i]'(by rw [r.length]; exact hi), SqL.of e, by simp⟩
  · obtain ⟨vs, e, r⟩ := at_ n x s
    exact ⟨vs, SqL.of e, by rw [r.length]; exact Nat.le_refl _⟩
  · obtain ⟨vs, e1, r⟩ := at_ n hx s
    obtain ⟨e2, y⟩ := y
    subst e2
    obtain ⟨v, e3, r3⟩ := r.get e
    rw [y vs (SqL.of e1)] at e3; cases e3
    exact ⟨k', .refl _ _, hx, r3⟩
theorem walks_tup (hf : SqT G.K k.F p vs) (r : RepL G k ws vs) (inj : ∀ {H' : Hp} {xs : List V}, SqT G.K H' p vs → SqT G.K H' p xs → xs = vs) : Walks G (Itt G.K p) k H ws none where
  go := fun i k' H' h' n x _ hi => ⟨vs, vs[i]'(by rw [r.length]; exact hi), Ka.Le.seqT x.sub (Ka.Le.seqT n.le.F hf), by simp⟩
  stop := fun k' H' h' n x _ => ⟨vs, Ka.Le.seqT x.sub (Ka.Le.seqT n.le.F hf), by rw [r.length]; exact Nat.le_refl _⟩
  yld := fun i k' H' h' x H2 w n hx _ e y => by
    obtain ⟨e1, y⟩ := y
    subst e1
    have e2 := y vs (Ka.Le.seqT hx.sub (Ka.Le.seqT n.le.F hf))
    obtain ⟨v, e3, r3⟩ := (r.mono n.le).get e
    rw [e2] at e3; cases e3
    exact ⟨k', .refl _ _, hx, r3⟩
def rngW (lo : Int) (n : Nat) : List W := (List.range n).map fun i => .int (lo + (i : Nat))
theorem walks_rng {lo : Int} {n : Nat} : Walks G (Itr lo n) k H (rngW lo n) none where
  go := fun i k' H' h' _ x _ hi => by
    show i < n
    simpa [rngW] using hi
  stop := fun k' H' h' _ x _ => by simp [rngW, Itr]
  yld := fun i k' H' h' x H2 w _ hx _ e y => by
    obtain ⟨e1, y⟩ := y
    subst e1; subst y
    refine ⟨k', .refl _ _, hx, ?_⟩
    have hi : i < n := by
      have := (List.getElem?_eq_some_iff.mp e).1
      simpa [rngW] using this
    simp only [rngW, List.getElem?_map, List.getElem?_range hi, Option.map_some, Option.some.injEq] at e
    subst e
    simp only [Rep]
end

section
variable {A : Ax} {X : Cx} {N : List Str} {sc : Scope} {Φ : Fns} {n : Nat} {a b c e tg : Expr} {ea eb ec : EV} {aa : EA} {p pos apos : Pos} {es : List Expr}
/-- over a list or a tuple -/
def iSeq (a : EV) : EI := fun sw h => (a sw h).bind fun w h1 => match w with
  | .tup ws => .ok (ws, none) h1
  | .lst ws => .ok (ws, none) h1
  | .ref r => (match h1[r]? with | some (.lst ws) => .ok (ws, some r) h1 | _ => .no)
  | _ => .no
theorem wi_seq (hK : X.K = A.K) (ha : WE A X a ea) : WI A X tg a (iSeq ea) := fun wx tk =>
  PI_imp (PI_or (pi_list (ha wx tk)) (pi_tup (ha wx tk))) fun σ H Q ⟨k, sw, h, hs, hh, d⟩ => by
    have d0 := DenI.bind (rp := Rep A.toGx) d
    cases er : ea sw h with
    | no => rw [er] at d0; exact d0.elim
    | exc c fs vs h1 => rw [er] at d0; exact .inl ⟨k, sw, h, hs, hh, by rw [er]; exact d0⟩
    | ok w h1 =>
      have d1 : DenI A.toGx wx k H σ (iSeq ea sw h) Q := d
      unfold iSeq at d1
      rw [er] at d1
      dsimp only [R.bind] at d1
      have E : ∀ {Q' : VK}, (∀ v k' H', Nxt k H k' H' → HRep A.toGx k' H' h1 → Rep A.toGx k' w v → Q' v H') → TEx A.toGx wx ea σ H Q' := fun q => ⟨k, sw, h, hs, hh, by rw [er]; exact q⟩
      rw [hK]
      cases w <;> dsimp only at d1 <;> first | exact d1.elim | skip
      · refine .inr (E fun v k' H' n x r => ?_)
        simp only [Rep] at r
        obtain ⟨p, vs, rfl, q, r⟩ := r
        refine ⟨p, rfl, ⟨vs, Ka.Le.seqT x.sub q⟩, d1 _ k' H' n x ⟨fun i k2 H2 h2 n2 x2 _ hi => ?_, fun k2 H2 h2 n2 x2 _ => ?_, fun i k2 H2 h2 y H3 w n2 x2 _ e yy => ?_⟩⟩
        · exact ⟨vs, vs[i]'(by rw [r.length]; exact hi), Ka.Le.seqT x2.sub (Ka.Le.seqT n2.le.F q), by simp⟩
        · exact ⟨vs, Ka.Le.seqT x2.sub (Ka.Le.seqT n2.le.F q), by rw [r.length]; exact Nat.le_refl _⟩
        · obtain ⟨e1, yy⟩ := yy
          subst e1
          have e2 := yy vs (Ka.Le.seqT x2.sub (Ka.Le.seqT n2.le.F q))
          obtain ⟨v, e3, r3⟩ := (r.mono n2.le).get e
          rw [e2] at e3; cases e3
          exact ⟨k2, .refl _ _, x2, r3⟩
      · refine .inl (E fun v k' H' n x r => ?_)
        simp only [Rep] at r
        obtain ⟨p, vs, rfl, q, r⟩ := r
        exact ⟨p, rfl, ⟨vs, SqL.of (x.sub _ _ q)⟩, d1 _ k' H' n x (walks_lst q r)⟩
      · rename_i ad
        refine .inl (E fun v k' H' n x r => ?_)
        cases ho : h1[ad]? with
        | none => rw [ho] at d1; exact d1.elim
        | some ob =>
          rw [ho] at d1
          cases ob <;> dsimp only at d1 <;> first | exact d1.elim | skip
          obtain ⟨p, rfl, em, vs, eH, rr⟩ := ref_at x r ho
          exact ⟨p, rfl, ⟨vs, SqL.of eH⟩, d1 _ k' H' n x (walks_ref em)⟩
/-- over range(a), range(a, b) -/
def iRg1 (a : EA) : EI := fun sw h => (a sw h).bind fun ws h1 => match ws with | [.int j] => if -lim ≤ j ∧ j ≤ lim then .ok (rngW 0 j.toNat, none) h1 else .no | _ => .no
def iRg2 (a : EA) : EI := fun sw h => (a sw h).bind fun ws h1 => match ws with | [.int i, .int j] => if -lim ≤ i ∧ i ≤ lim ∧ -lim ≤ j ∧ j ≤ lim then .ok (rngW i (j - i).toNat, none) h1 else .no | _ => .no
theorem TIx.args {G : Gx} {wx : WX} {ev : EA} {f : List W → WH → R (List W × Option Nat)} {σ : St} {H : Hp} {Q : It → Hp → Prop} (t : TIx G wx (fun sw h => (ev sw h).bind f) σ H Q) :
    TAx G wx ev σ H fun vs H1 => ∃ k1 ws h1, HRep G k1 H1 h1 ∧ RepL G k1 ws vs ∧ DenI G wx k1 H1 σ (f ws h1) Q := by
  obtain ⟨k, sw, h, hs, hh, d⟩ := t
  exact ⟨k, sw, h, hs, hh, (DenI.bind (rp := RepL G) d).imp fun vs H1 ⟨k1, ws, h1, n1, x1, r1, d1⟩ => ⟨k1, ws, h1, x1, r1, d1⟩⟩
theorem lim62 {j : Int} (h1 : -lim ≤ j) (h2 : j ≤ lim) : -(2 ^ 62) ≤ j ∧ j < 2 ^ 62 := by
  have : (lim : Int) = 1000000 := rfl
  omega
theorem wi_rg1 (x : XOk A N sc X) (hs : sc.names.lookup ("range" : Str) = some .globalImplicit) (hg : A.gt.lookup ("range" : Str) = some .blt) (ha : WA A X [a] aa) (h3 : nonStar a = true) : WI A X tg (.Call (.Name "range" p) [a] [] pos) (iRg1 aa) := fun wx tk =>
  PI_imp (pi_range1 (gl_of x hs) (x.glob.blt _ hg) (ha wx tk) (star_ok h3)) fun σ H Q t => by
    obtain ⟨k, sw, h, hs, hh, d⟩ := TIx.args t
    refine ⟨k, sw, h, hs, hh, d.imp fun vs H1 ⟨k1, ws, h1, x1, r1, d1⟩ => ?_⟩
    split at d1
    · split at d1
      · rename_i hl
        obtain ⟨v, rfl, r2⟩ := rep1 r1
        simp only [Rep] at r2
        subst r2
        obtain ⟨l1, l2⟩ := lim62 hl.1 hl.2
        exact ⟨_, rfl, l1, l2, d1 _ k1 H1 (.refl _ _) x1 walks_rng⟩
      · exact d1.elim
    · exact d1.elim
theorem wi_rg2 (x : XOk A N sc X) (hs : sc.names.lookup ("range" : Str) = some .globalImplicit) (hg : A.gt.lookup ("range" : Str) = some .blt) (ha : WA A X [a, b] aa) (h3 : [a, b].all nonStar = true) : WI A X tg (.Call (.Name "range" p) [a, b] [] pos) (iRg2 aa) := fun wx tk => by
  simp only [List.all_cons, List.all_nil, Bool.and_eq_true] at h3
  refine PI_imp (pi_range2 (gl_of x hs) (x.glob.blt _ hg) (ha wx tk) (by rw [star_ok h3.1, star_ok h3.2.1]; rfl) (by rw [star_ok h3.2.1]; rfl)) fun σ H Q t => ?_
  obtain ⟨k, sw, h, hs, hh, d⟩ := TIx.args t
  refine ⟨k, sw, h, hs, hh, d.imp fun vs H1 ⟨k1, ws, h1, x1, r1, d1⟩ => ?_⟩
  split at d1
  · split at d1
    · rename_i hl
      obtain ⟨v, v2, rfl, r2, r3⟩ := rep2 r1
      simp only [Rep] at r2 r3
      subst r2; subst r3
      obtain ⟨l1, l2⟩ := lim62 hl.1 hl.2.1
      obtain ⟨l3, l4⟩ := lim62 hl.2.2.1 hl.2.2.2
      exact ⟨_, _, rfl, ⟨l1, l2, l3, l4⟩, d1 _ k1 H1 (.refl _ _) x1 walks_rng⟩
    · exact d1.elim
  · exact d1.elim

/-! ### for -/
def forL (src : Option Nat) (ws0 : List W) (t : W → WS → Option WS) (body : EW) : List W → WS → WH → RS
  | [], sw, h => if srcOk src ws0 h then .ok (.next sw) h else .no
  | w :: rest, sw, h => if srcOk src ws0 h then (match t w sw with
      | none => .no
      | some sw1 => match body sw1 h with
        | .ok (.next s) h' => forL src ws0 t body rest s h'
        | .ok (.cont s) h' => forL src ws0 t body rest s h'
        | .ok (.brk s) h' => .ok (.next s) h'
        | .ok (.ret w) h' => .ok (.ret w) h'
        | .exc s c fs vs h' => .exc s c fs vs h'
        | .no => .no) else .no
def sFor (it : EI) (t : Tg) (body : EW) : EW := fun sw h => (it sw h).st sw fun x h1 => forL x.2 x.1 (tgW t) body x.1 sw h1
theorem ws_for (hc : X.calm = true) {t : Tg} {it : EI} {body : EW} {bd : List Stmt} {iter : Expr} (hi : WI A X tg iter it) (hg : WG A X tg t) (hb : WSs A X bd body) (hs : ∀ x, foldedSetIterable iter X.env x = pure x) : WSt A X (.For tg iter bd [] pos) (sFor it t body) := fun wx tk po =>
  PS_imp (ps_for po hc (hi wx tk) hg (hb wx tk po) hs) fun D σ H ⟨k, sw, h, hs, hh, d⟩ => by
    refine ⟨k, sw, h, hs, hh, ?_⟩
    unfold sFor at d
    cases er : it sw h with
    | no => rw [er] at d; exact d
    | exc c fs vs h' => rw [er] at d; exact fun C d' k' H' n x xr => d σ C d' k' H' n x (hs.mono n.le) xr
    | ok u h1 =>
      obtain ⟨ws, src⟩ := u
      rw [er] at d
      dsimp only [R.st] at d
      intro J k1 H1 n1 x1 wk
      refine ⟨fun i m σ2 H2 => m = ws.length - i ∧ i ≤ ws.length ∧ ∃ k2 sw2 h2, Nxt k1 H1 k2 H2 ∧ HRep A.toGx k2 H2 h2 ∧ SRep A.toGx k2 sw2 σ2 ∧ DenS A.toGx wx k2 H2 (forL src ws (tgW t) body (ws.drop i) sw2 h2) D,
        ⟨ws.length, rfl, Nat.zero_le _, k1, sw, h1, .refl _ _, x1, hs.mono n1.le, by simpa using d.nxt n1⟩, ?_⟩
      rintro i m σ2 H2 ⟨rfl, hi, k2, sw2, h2, n2, x2, s2, d2⟩
      by_cases hlt : i < ws.length
      · have ed : ws.drop i = ws[i] :: ws.drop (i + 1) := List.drop_eq_getElem_cons hlt
        rw [ed] at d2
        unfold forL at d2
        split at d2
        · rename_i so
          refine .inr ⟨wk.go i k2 H2 h2 n2 x2 so hlt, fun σ' H' => ∃ k' sw' h', Nxt k1 H1 k' H' ∧ HRep A.toGx k' H' h' ∧ SRep A.toGx k' sw' σ' ∧ DenS A.toGx wx k' H' (forL src ws (tgW t) body (ws.drop (i + 1)) sw' h') D,
            fun σ' H' q => ⟨ws.length - (i + 1), by omega, rfl, hlt, q⟩, fun x H3 y => ?_⟩
          obtain ⟨k3, n3, x3, r3⟩ := wk.yld i k2 H2 h2 x H3 ws[i] n2 x2 so (by simp) y
          split at d2
          · exact d2.elim
          · rename_i sw3 et
            refine ⟨k3, sw2, h2, ws[i], sw3, s2.mono n3.le, x3, r3, et, fun σ3 s3 _ => ⟨k3, sw3, h2, s3, x3, ?_⟩⟩
            have d3 := d2.nxt n3
            cases eb : body sw3 h2 with
            | no => rw [eb] at d3; exact d3
            | exc s c fs vs h' => rw [eb] at d3; exact d3
            | ok f h' =>
              rw [eb] at d3
              cases f with
              | next s => exact fun σ4 k4 H4 n4 x4 s4 => ⟨k4, s, h', (n2.trans n3).trans n4, x4, s4, d3.nxt n4⟩
              | cont s => exact fun σ4 k4 H4 n4 x4 s4 => ⟨k4, s, h', (n2.trans n3).trans n4, x4, s4, d3.nxt n4⟩
              | brk s => exact d3
              | ret w => exact d3
        · exact d2.elim
      · have ei : i = ws.length := by omega
        subst ei
        rw [List.drop_length] at d2
        unfold forL at d2
        split at d2
        · rename_i so
          exact .inl ⟨wk.stop k2 H2 h2 n2 x2 so, d2 σ2 k2 H2 (.refl _ _) x2 s2⟩
        · exact d2.elim

/-! ### while -/
def whlL (c : EB) (body : EW) : Nat → WS → WH → RS
  | 0, _, _ => .no
  | n + 1, sw, h => (c sw h).st sw fun b h1 => if b then (match body sw h1 with
      | .ok (.next s) h' => whlL c body n s h'
      | .ok (.cont s) h' => whlL c body n s h'
      | .ok (.brk s) h' => .ok (.next s) h'
      | .ok (.ret w) h' => .ok (.ret w) h'
      | .exc s c fs vs h' => .exc s c fs vs h'
      | .no => .no) else .ok (.next sw) h1
theorem ws_whl {c : Expr} {tc : EB} {body : EW} {bd : List Stmt} {fuel : Nat} (hc : WT A X c tc) (hb : WSs A X bd body) : WSt A X (.While c bd [] pos) (whlL tc body fuel) := fun wx tk po =>
  PS_imp (ps_while po (hc wx tk) (hb wx tk po)) fun D σ H ⟨k, sw, h, hs, hh, d⟩ => by
    refine ⟨fun m σ2 H2 => ∃ k2 sw2 h2, HRep A.toGx k2 H2 h2 ∧ SRep A.toGx k2 sw2 σ2 ∧ DenS A.toGx wx k2 H2 (whlL tc body m sw2 h2) D, ⟨fuel, k, sw, h, hh, hs, d⟩, ?_⟩
    rintro m σ2 H2 ⟨k2, sw2, h2, x2, s2, d2⟩
    cases m with
    | zero => exact d2.elim
    | succ m =>
      unfold whlL at d2
      refine ⟨k2, sw2, h2, s2, x2, (DenS.bind (rp := fun _ a b => a = b) s2 d2).imp fun c H3 ⟨k3, w, h3, n3, x3, e, s3, d3⟩ => ?_⟩
      subst e
      cases w with
      | true =>
        rw [if_pos rfl] at d3 ⊢
        refine ⟨fun σ' H' => ∃ k' sw' h', HRep A.toGx k' H' h' ∧ SRep A.toGx k' sw' σ' ∧ DenS A.toGx wx k' H' (whlL tc body m sw' h') D, fun σ' H' q => ⟨m, Nat.lt_succ_self _, q⟩, k3, sw2, h3, s3, x3, ?_⟩
        cases eb : body sw2 h3 with
        | no => rw [eb] at d3; exact d3
        | exc s c fs vs h' => rw [eb] at d3; exact d3
        | ok f h' =>
          rw [eb] at d3
          cases f with
          | next s => exact fun σ4 k4 H4 n4 x4 s4 => ⟨k4, s, h', x4, s4, d3.nxt n4⟩
          | cont s => exact fun σ4 k4 H4 n4 x4 s4 => ⟨k4, s, h', x4, s4, d3.nxt n4⟩
          | brk s => exact d3
          | ret w => exact d3
      | false =>
        rw [if_neg (by decide)] at d3 ⊢
        exact d3 σ2 k3 H3 (.refl _ _) x3 s3

/-! ### comprehensions -/
def wipeW (sw : WS) : List Nat → WS
  | [] => sw
  | v :: vs => (wipeW sw vs).set v none
theorem SRep.wipe {G : Gx} {k : Ka} {sw : WS} {σ : St} (h : SRep G k sw σ) : ∀ vs : List Nat, SRep G k (wipeW sw vs) (L2.wipe σ vs)
  | [] => h
  | v :: vs => by unfold wipeW L2.wipe; exact (SRep.wipe h vs).unset v
theorem wipe_off {σ σ' : St} : ∀ {vs : List Nat}, Off vs (L2.wipe σ vs) σ' → L2.wipe σ' vs = L2.wipe σ vs := by
  intro vs h
  apply List.ext_getElem?
  intro j
  by_cases hj : j ∈ vs
  · have key : ∀ (τ : St) (us : List Nat), j ∈ us → (L2.wipe τ us)[j]? = if j < τ.length then some none else none := by
      intro τ us
      induction us with
      | nil => intro h; cases h
      | cons u us ih =>
        intro hm
        unfold L2.wipe
        rw [List.getElem?_set]
        by_cases e : u = j
        · rw [if_pos e]
          simp only [L2.wipe_length, e]
        · rw [if_neg e]
          exact ih (by rcases List.mem_cons.mp hm with z | z; exact absurd z.symm e; exact z)
    rw [key σ' vs hj, key σ vs hj, h.1, L2.wipe_length]
  · rw [L2.wipe_out hj, h.2 j hj]
def compL (src : Option Nat) (ws0 : List W) (t : W → WS → Option WS) (cond : EB) (elt : EV) (sw : WS) : List W → List W → WH → R (List W)
  | [], acc, h => if srcOk src ws0 h then .ok acc h else .no
  | w :: rest, acc, h => if srcOk src ws0 h then (match t w sw with
      | none => .no
      | some sw1 => match cond sw1 h with
        | .ok true h1 => (match elt sw1 h1 with
          | .ok y h2 => if acc.length < lim then compL src ws0 t cond elt sw rest (acc ++ [y]) h2 else .no
          | _ => .no)
        | .ok false h1 => compL src ws0 t cond elt sw rest acc h1
        | _ => .no) else .no
def dComp (m : Bool) (it : EI) (t : Tg) (cond : EB) (elt : EV) (own : List Nat) : EV := fun sw h => (it sw h).bind fun x h1 => (compL x.2 x.1 (tgW t) cond elt (wipeW sw own) x.1 [] h1).bind fun ws h2 => newL m ws h2

/-! an object that is tracked and not ours: written, taken over -/
theorem HRep.off {G : Gx} {k : Ka} {H : Hp} {h : WH} {D : Addr} {o : HO} (x : HRep G k H h) (hF : k.F D = none) (hm : D ∉ k.mu) : HRep G k (upd H D o) h where
  sub := fun a u e => by
    have z : a ≠ D := fun z => by rw [z, hF] at e; cases e
    rw [upd_ne z]; exact x.sub a u e
  len := x.len
  nd := x.nd
  trk := fun a ha => by
    have z : a ≠ D := fun z => hm (by rw [← z]; exact ha)
    rw [upd_ne z]; exact x.trk a ha
  ob := fun i u q e1 e2 => by
    obtain ⟨r, n⟩ := x.ob i u q e1 e2
    have z : q ≠ D := fun z => hm (z ▸ List.mem_of_getElem? e2)
    refine ⟨r.mono (.refl k) (upd_ne z), fun d => ?_⟩
    obtain ⟨n1, n2⟩ := n d
    exact ⟨n1, by rw [upd_ne z]; exact n2⟩
theorem Nxt.off {k k1 : Ka} {H H1 : Hp} {D : Addr} {o : HO} (n : Nxt k H k1 H1) (h0 : H D = none) : Nxt k H k1 (upd H1 D o) where
  le := n.le
  oth := fun a ha na => by
    have z : a ≠ D := fun z => ha (by rw [z]; exact h0)
    rw [upd_ne z]; exact n.oth a ha na
  fro := n.fro
  new := n.new
  trk := fun a ha => by
    have z : a ≠ D := fun z => ha (by rw [z]; exact h0)
    rw [upd_ne z]; exact n.trk a ha
theorem HRep.adoptF {G : Gx} {k : Ka} {H : Hp} {h : WH} {D : Addr} {o : HO} (x : HRep G k H h) (hF : k.F D = none) (hm : D ∉ k.mu) (hD : H D = some o) : HRep G (k.froz D o) H h where
  sub := fun a u e => by
    by_cases z : a = D
    · subst z
      have e' : upd k.F a o a = some u := e
      rw [upd_same] at e'; cases e'; exact hD
    · have e' : upd k.F D o a = some u := e
      rw [upd_ne z] at e'; exact x.sub a u e'
  len := x.len
  nd := x.nd
  trk := x.trk
  ob := fun i u q e1 e2 => by
    obtain ⟨r, n⟩ := x.ob i u q e1 e2
    have z : q ≠ D := fun z => hm (z ▸ List.mem_of_getElem? e2)
    refine ⟨r.mono (le_froz hF) rfl, fun d => ?_⟩
    obtain ⟨n1, n2⟩ := n d
    exact ⟨(upd_ne z).trans n1, n2⟩
theorem Nxt.adoptF {k k1 : Ka} {H H1 : Hp} {D : Addr} {o : HO} (n : Nxt k H k1 H1) (h0 : H D = none) (hF : k1.F D = none) : Nxt k H (k1.froz D o) H1 where
  le := n.le.trans (le_froz hF)
  oth := n.oth
  fro := fun a u e => by
    by_cases z : a = D
    · subst z; exact .inr (.inl h0)
    · have e' : upd k1.F D o a = some u := e
      rw [upd_ne z] at e'; exact n.fro a u e'
  new := n.new
  trk := n.trk
theorem HRep.adoptM {G : Gx} {k : Ka} {H : Hp} {h : WH} {D : Addr} {ob : Ob} (x : HRep G k H h) (hF : k.F D = none) (hm : D ∉ k.mu) (r : ORep G (k.more D) H D ob) (m : Mut (H D)) (ht : H D ≠ none) : HRep G (k.more D) H (h ++ [ob]) where
  sub := x.sub
  len := by show (k.mu ++ [D]).length = _; simp [x.len]
  nd := by
    show (k.mu ++ [D]).Nodup
    rw [List.nodup_append]
    refine ⟨x.nd, by simp, fun a ha b hb => ?_⟩
    simp at hb; subst hb
    exact fun z => hm (z ▸ ha)
  trk := fun a ha => by
    have ha' : a ∈ k.mu ++ [D] := ha
    rcases List.mem_append.mp ha' with ha | ha
    · exact x.trk a ha
    · simp at ha; subst ha; exact ht
  ob := fun i u q e1 e2 => by
    have e2' : (k.mu ++ [D])[i]? = some q := e2
    by_cases hi : i < h.length
    · rw [List.getElem?_append_left hi] at e1
      rw [List.getElem?_append_left (by rw [x.len]; exact hi)] at e2'
      obtain ⟨r', n⟩ := x.ob i u q e1 e2'
      exact ⟨r'.mono le_more rfl, n⟩
    · rw [List.getElem?_append_right (by omega)] at e1
      rw [List.getElem?_append_right (by rw [x.len]; omega)] at e2'
      have hi0 : i - h.length = 0 := by
        have := (List.getElem?_eq_some_iff.mp e1).1
        simp at this; omega
      rw [hi0] at e1
      rw [x.len, hi0] at e2'
      simp at e1 e2'
      subst e1; subst e2'
      exact ⟨r, fun _ => ⟨hF, m⟩⟩
theorem Nxt.adoptM {k k1 : Ka} {H H1 : Hp} {D : Addr} (n : Nxt k H k1 H1) (h0 : H D = none) : Nxt k H (k1.more D) H1 where
  le := n.le.trans le_more
  oth := n.oth
  fro := n.fro
  new := fun a ha => by
    have ha' : a ∈ k1.mu ++ [D] := ha
    rcases List.mem_append.mp ha' with ha | ha
    · exact n.new a ha
    · simp at ha; subst ha; exact .inr h0
  trk := n.trk
theorem comp_core {m : Bool} {it : EI} {t : Tg} {cond : EB} {elt : EV} {own : List Nat} {wx : WX} (hsub : ∀ i ∈ t.slots, i ∈ own) {σ : St} {H : Hp} {Q : VK} (tt : TEx A.toGx wx (dComp m it t cond elt own) σ H Q) :
    tLc (TIx A.toGx wx it) (TGx A.toGx t.slots (tgW t)) (TTx A.toGx (fun _ _ _ _ => False) cond) (TEx A.toGx (fun _ _ _ _ => False) elt) own σ H Q := by
  obtain ⟨k, sw, h, hs, hh, d⟩ := tt
  refine ⟨k, sw, h, hs, hh, ?_⟩
  unfold dComp at d
  cases er : it sw h with
  | no => rw [er] at d; exact d
  | exc c fs vs h' => rw [er] at d; exact d
  | ok u h1 =>
    obtain ⟨ws, src⟩ := u
    rw [er] at d
    dsimp only [R.bind] at d
    intro J k1 H1 n1 x1 wk D hD
    have d1 := d.nxt n1
    have n0 : Nxt k1 H1 k1 (upd H1 D (.lst [])) := Nxt.other hD
    have hDF : k1.F D = none := x1.noF hD
    have hDm : D ∉ k1.mu := x1.noMu hD
    refine ⟨fun i m' H2 => m' = ws.length - i ∧ i ≤ ws.length ∧ ∃ k2 h2 acc va, Nxt k1 H1 k2 H2 ∧ k2.F D = none ∧ D ∉ k2.mu ∧ HRep A.toGx k2 H2 h2 ∧ H2 D = some (.lst va) ∧ RepL A.toGx k2 acc va ∧
        Den A.toGx (Rep A.toGx) wx k1 H1 σ ((compL src ws (tgW t) cond elt (wipeW sw own) (ws.drop i) acc h2).bind fun us h3 => newL m us h3) Q,
      ⟨ws.length, rfl, Nat.zero_le _, k1, h1, [], [], n0, hDF, hDm, x1.other hD, upd_same, by simp only [RepL], by rw [List.drop_zero]; exact d1⟩, ?_⟩
    rintro i m' H2 ⟨rfl, hi, k2, h2, acc, va, n2, f2, m2, x2, eD, ra, d2⟩
    by_cases hlt : i < ws.length
    · have ed : ws.drop i = ws[i] :: ws.drop (i + 1) := List.drop_eq_getElem_cons hlt
      rw [ed] at d2
      unfold compL at d2
      split at d2
      · rename_i so
        refine .inr ⟨wk.go i k2 H2 h2 n2 x2 so hlt, fun H' => ∃ k' h' acc' va', Nxt k1 H1 k' H' ∧ k'.F D = none ∧ D ∉ k'.mu ∧ HRep A.toGx k' H' h' ∧ H' D = some (.lst va') ∧ RepL A.toGx k' acc' va' ∧
            Den A.toGx (Rep A.toGx) wx k1 H1 σ ((compL src ws (tgW t) cond elt (wipeW sw own) (ws.drop (i + 1)) acc' h').bind fun us h3 => newL m us h3) Q,
          fun H' q => ⟨ws.length - (i + 1), by omega, rfl, hlt, q⟩, fun x H3 y => ?_⟩
        obtain ⟨k3, n3, x3, r3⟩ := wk.yld i k2 H2 h2 x H3 ws[i] n2 x2 so (by simp) y
        -- what a later state keeps of D
        have keepD : ∀ {ka : Ka} {Ha : Hp} {kb : Ka} {Hb : Hp}, Nxt ka Ha kb Hb → ka.F D = none → D ∉ ka.mu → Ha D = some (.lst va) → kb.F D = none ∧ D ∉ kb.mu ∧ Hb D = some (.lst va) := fun {ka Ha kb Hb} nn fa ma ea => by
          have hne : Ha D ≠ none := by rw [ea]; simp
          refine ⟨?_, fun z => (nn.new D z).elim ma hne, (nn.oth D hne ma).trans ea⟩
          cases q : kb.F D with
          | none => rfl
          | some o =>
            rcases nn.fro D o q with z | z | z
            · rw [fa] at z; cases z
            · exact absurd z hne
            · exact absurd z ma
        obtain ⟨f3, m3, eD3⟩ := keepD n3 f2 m2 eD
        split at d2
        · exact d2.elim
        · rename_i sw1 et
          have s3 : SRep A.toGx k3 (wipeW sw own) (L2.wipe σ own) := ((hs.mono n1.le).mono (n2.le.trans n3.le)).wipe own
          refine ⟨k3, wipeW sw own, h2, ws[i], sw1, s3, x3, r3, et, fun σ3 hs3 o3 => ⟨wipe_off ⟨o3.1, fun j hj => o3.2 j fun z => hj (hsub j z)⟩, k3, sw1, h2, hs3, x3, ?_⟩⟩
          cases ec : cond sw1 h2 with
          | no => rw [ec] at d2; exact d2.elim
          | exc c fs vs h' => rw [ec] at d2; exact d2.elim
          | ok b hc =>
            rw [ec] at d2
            intro b' k4 H4 n4 x4 eb
            subst eb
            obtain ⟨f4, m4, eD4⟩ := keepD n4 f3 m3 eD3
            cases b with
            | false =>
              rw [if_neg (by decide)]
              exact ⟨k4, hc, acc, va, (n2.trans n3).trans n4, f4, m4, x4, eD4, (ra.mono n3.le).mono n4.le, d2⟩
            | true =>
              rw [if_pos rfl]
              refine ⟨k4, sw1, hc, hs3.mono n4.le, x4, ?_⟩
              dsimp only at d2
              cases ee : elt sw1 hc with
              | no => rw [ee] at d2; exact d2.elim
              | exc c fs vs h' => rw [ee] at d2; exact d2.elim
              | ok y he =>
                rw [ee] at d2
                dsimp only at d2
                intro v k5 H5 n5 x5 r5
                obtain ⟨f5, m5, eD5⟩ := keepD n5 f4 m4 eD4
                split at d2
                · rename_i hl
                  have ra5 := ((ra.mono n3.le).mono n4.le).mono n5.le
                  have lv : va.length = acc.length := ra.length
                  exact ⟨va, eD5, by rw [lv]; exact Nat.lt_of_lt_of_le hl (lim_le (Nat.le_refl _)), k5, he, acc ++ [y], va ++ [v], (((n2.trans n3).trans n4).trans n5).off hD, f5, m5, x5.off f5 m5, upd_same, ra5.append (RepL.one r5), d2⟩
                · exact d2.elim
      · exact d2.elim
    · have ei : i = ws.length := by omega
      subst ei
      rw [List.drop_length] at d2
      unfold compL at d2
      split at d2
      · rename_i so
        refine .inl ⟨wk.stop k2 H2 h2 n2 x2 so, ?_⟩
        dsimp only [R.bind] at d2
        unfold newL at d2
        split at d2
        · refine d2 (.ref D) (k2.more D) H2 (n2.adoptM hD) (x2.adoptM f2 m2 ⟨va, eD, ra.mono le_more⟩ (by rw [eD]; trivial) (by rw [eD]; simp)) ?_
          simp only [Rep]
          refine ⟨D, rfl, ?_⟩
          show (k2.mu ++ [D])[h2.length]? = some D
          rw [← x2.len]; simp
        · refine d2 (.ref D) (k2.froz D (.lst va)) H2 (n2.adoptF hD f2) (x2.adoptF f2 m2 eD) ?_
          simp only [Rep]
          exact ⟨D, va, rfl, upd_same, ra.mono (le_froz f2)⟩
      · exact d2.elim
def WPT (A : Ax) (X : Cx) (ifs : List Expr) (ev : EB) : Prop := ∀ wx, Takes X wx → PTs X ifs (TTx A.toGx wx ev)
def bYes : EB := fun _ h => .ok true h
theorem wpt_nil : WPT A X [] bYes := fun wx tk => ⟨fun pins s σ H Q I t => by
  obtain ⟨k, sw, h, hs, hh, d⟩ := t
  exact (pts_nil (X := X)).run pins s σ H Q I (d true k H (.refl _ _) hh rfl)⟩
theorem wpt_one {tc : EB} (h : WT A X c tc) : WPT A X [c] tc := fun wx tk => pts_one (h wx tk)
section
variable {elt iter : Expr} {ifs : List Expr} {scope : Scope} {own : List (Str × Nat)} {it : EI} {t : Tg} {cond : EB} {ev : EV} {m : Bool}
theorem we_comp (x : XOk A N sc X) (hi : WI A X tg iter it) (ok : BlkOk N sc scope own) (hsub : ∀ i ∈ t.slots, i ∈ own.map (·.2))
    (hg : ∀ (s : Shared) (H : Hp) (C : Addr) (cl : List (Str × Addr)) (fp : List Addr), WG A (X.blk s H scope (compEnvC scope cl C X.env) fp) tg t)
    (ht : ∀ (s : Shared) (H : Hp) (C : Addr) (cl : List (Str × Addr)) (fp : List Addr), WPT A (X.blk s H scope (compEnvC scope cl C X.env) fp) ifs cond)
    (he : ∀ (s : Shared) (H : Hp) (C : Addr) (cl : List (Str × Addr)) (fp : List Addr), WE A (X.blk s H scope (compEnvC scope cl C X.env) fp) elt ev) (hs : ∀ x, foldedSetIterable iter X.env x = pure x) :
    WE A X (.ListComp elt [⟨tg, iter, ifs, 0⟩] scope pos) (dComp m it t cond ev (own.map (·.2))) := fun wx tk =>
  PE_imp (pe_lc x.calm (by rw [x.hN]; exact x.nd) (hi wx tk) (by rw [x.hN, x.hsc]; exact ok) hg (fun s H C cl fp => ht s H C cl fp _ takes0) (fun s H C cl fp => he s H C cl fp _ takes0) hs) fun σ H Q t => comp_core hsub t
theorem ws_setc (x : XOk A N sc X) {i : Nat} {y : Str} {py spos : Pos} (hN : N[i]? = some y) (hyl : sc.names.lookup y = some .local) (hsw : swapsWith (.ListComp elt [⟨tg, iter, ifs, 0⟩] scope pos) (some (.Name y py)) spos.line X.env = pure true) (hi : WI A X tg iter it) (ok : BlkOk N sc scope own) (hsub : ∀ i ∈ t.slots, i ∈ own.map (·.2))
    (hg : ∀ (s : Shared) (H : Hp) (C : Addr) (cl : List (Str × Addr)) (fp : List Addr), WG A (X.blk s H scope (compEnvC scope cl C X.env) fp) tg t)
    (ht : ∀ (s : Shared) (H : Hp) (C : Addr) (cl : List (Str × Addr)) (fp : List Addr), WPT A (X.blk s H scope (compEnvC scope cl C X.env) fp) ifs cond)
    (he : ∀ (s : Shared) (H : Hp) (C : Addr) (cl : List (Str × Addr)) (fp : List Addr), WE A (X.blk s H scope (compEnvC scope cl C X.env) fp) elt ev) (hs : ∀ x, foldedSetIterable iter X.env x = pure x) :
    WSt A X (.Assign [.Name y py] (.ListComp elt [⟨tg, iter, ifs, 0⟩] scope pos) spos) (sSet i (dComp m it t cond ev (own.map (·.2)))) := fun wx tk po =>
  PS_imp (ps_setLc (i := i) x.calm (by rw [x.hN]; exact x.nd) (by rw [x.hN]; exact hN) (by rw [x.hsc]; exact hyl) hsw (hi wx tk) (by rw [x.hN, x.hsc]; exact ok) hg (fun s H C cl fp => ht s H C cl fp _ takes0) (fun s H C cl fp => he s H C cl fp _ takes0) hs) fun D σ H ⟨k, sw, h, hs', hh, d⟩ => by
    refine comp_core (m := m) hsub (Q := _) ⟨k, sw, h, hs', hh, (DenS.bind (rp := Rep A.toGx) hs' d).imp fun v H1 ⟨k1, w, h1, n1, hh1, r1, hs1, d1⟩ => ?_⟩
    exact d1 _ k1 H1 (.refl _ _) hh1 (hs1.set i r1)
/-- the block's own surroundings -/
theorem XOk.blk (x : XOk A N sc X) {s : Shared} {H : Hp} {C : Addr} {cl : List (Str × Addr)} {fp : List Addr} : XOk A N (relS scope sc) (X.blk s H scope (compEnvC scope cl C X.env) fp) where
  hK := x.hK
  hN := x.hN
  hP := x.hP
  hw := x.hw
  nd := x.nd
  hsc := by rw [← x.hsc]; rfl
  calm := x.calm
  gd := x.gd
  glob := x.glob
  un := x.un
theorem COk.blk (C' : COk A Φ n X) {s : Shared} {H : Hp} {C : Addr} {cl : List (Str × Addr)} {fp : List Addr} : COk A Φ n (X.blk s H scope (compEnvC scope cl C X.env) fp) where
  room := C'.room
  fn := C'.fn
  lv := C'.lv
  ex := C'.ex
  sub := C'.sub
  mt := C'.mt
  ini := C'.ini
end
end
end KW

set_option Elab.async false
set_option linter.all false
set_option maxRecDepth 100000
set_option maxHeartbeats 4000000
/-! what is not run; isinstance; range by three; signs of a text; methods of built-ins; try that runs through -/
namespace KW
open PySem L2
section
variable {A : Ax} {X : Cx} {N : List Str} {sc : Scope} {Φ : Fns} {n : Nat} {a b c e tg o : Expr} {ea eb ec : EV} {aa : EA} {p p2 pos apos : Pos} {es : List Expr}

theorem lim_lt {n : Nat} (h : n < lim) : n < sizeLine := Nat.lt_of_lt_of_le h (lim_le (Nat.le_refl _))
/-! ### not run -/
def dNo : EV := fun _ _ => .no
def sNo : EW := fun _ _ => .no
theorem we_no : WE A X e dNo := fun wx tk => ⟨fun pins s σ H Q I ⟨_, _, _, _, _, d⟩ => d.elim⟩
theorem ws_no {st : Stmt} : WSt A X st sNo := fun wx tk po => ⟨fun pins s σ H D I ⟨_, _, _, _, _, d⟩ => d.elim⟩

/-- what the body does where it raises nothing -/
def sThru (s : EW) : EW := fun sw h => match s sw h with | .exc .. => .no | r => r

/-! ### isinstance(x, T), T built in -/
def tyW (h : WH) : W → Option String
  | .non => some "NoneType"
  | .bl _ => some "bool"
  | .int _ => some "int"
  | .str _ => some "str"
  | .tup _ => some "tuple"
  | .lst _ => some "list"
  | .ref r => (match h[r]? with | some (.lst _) => some "list" | _ => none)
  | _ => none
def dIsT (T : String) (a : EV) : EV := fun sw h => (a sw h).bind fun w h1 => match (tyW h1 w).bind fun t => kitB t T with | some b => .ok (.bl b) h1 | none => .no
theorem tyW_ok {G : Gx} {k : Ka} {H : Hp} {h : WH} {w : W} {v : V} {t : String} (x : HRep G k H h) (r : Rep G k w v) (e : tyW h w = some t) : TyX G.K H v (.type t) := by
  cases w <;> simp only [tyW, Option.some.injEq, reduceCtorEq] at e
  · subst e; simp only [Rep] at r; subst r; exact .base .non
  · subst e; simp only [Rep] at r; subst r; exact .base (.bl _)
  · subst e; simp only [Rep] at r; subst r; exact .base (.int _)
  · subst e; simp only [Rep] at r; subst r; exact .base (.str _)
  · subst e
    obtain ⟨p, vs, rfl, q, _⟩ := tupAt x r
    rcases q with (q | ⟨o, q⟩) | ⟨o, its, n, q, c, _⟩
    · exact .base (.tup q)
    · exact .fTuple q
    · exact .kTuple q c
  · subst e
    simp only [Rep] at r
    obtain ⟨p, vs, rfl, q, _⟩ := r
    exact .base (.lst (x.sub _ _ q))
  · split at e
    · cases e
      rename_i ho
      obtain ⟨p, rfl, em, vs, eH, rr⟩ := ref_at x r ho
      exact .base (.lst eH)
    · cases e
theorem we_isT (x : XOk A N sc X) {T : Str} {id : String} (ha : WE A X a ea) (hs : sc.names.lookup ("isinstance" : Str) = some .globalImplicit) (hg : A.gt.lookup ("isinstance" : Str) = some .blt)
    (hs2 : sc.names.lookup T = some .globalImplicit) (hg2 : A.gt.lookup T = some .blt) (hv : bootBuiltins T = some (.type id)) (hn : T ≠ ("__name__" : Str)) (hd : (T == ("__debug__" : Str)) = false) (h3 : nonStar a = true) :
    WE A X (.Call (.Name "isinstance" p) [a, .Name T p2] [] pos) (dIsT id ea) := fun wx tk =>
  PE_imp (pe_callB call_isi (gl_of x hs) (x.glob.blt _ hg) (by rfl) (pa_cons (ha wx tk) (pa_cons (pe_bltn (v := .ty id) (gl_of x hs2) (x.glob.blt _ hg2) hv rfl hn hd) pa_nil rfl) (star_ok h3)) (by decide +kernel) (by decide +kernel) (star_ok h3) (by rfl)) fun σ H Q t => by
    obtain ⟨k, sw, h, hs, hh, d⟩ := TEx.bind t
    refine ⟨k, sw, h, hs, hh, d.imp fun v H1 ⟨k1, sw1, w, h1, hs1, hh1, r, d1⟩ => ?_⟩
    split at d1
    · rename_i b e
      obtain ⟨t, e1, e2⟩ := Option.bind_eq_some_iff.mp e
      exact ⟨v, .ty id, .type t, .type id, b, rfl, .ty id, x.hK ▸ tyW_ok hh1 r e1, kit_ty e2, d1 _ k1 H1 (.refl _ _) hh1 (by simp only [Rep])⟩
    · exact d1.elim

/-! ### range(a, b, c) -/
def rngC (lo c : Int) (n : Nat) : List W := (List.range n).map fun i => .int (lo + (i : Nat) * c)
theorem walks_rngC {G : Gx} {k : Ka} {H : Hp} {lo c : Int} {n : Nat} : Walks G (Itc lo c n) k H (rngC lo c n) none where
  go := fun i k' H' h' _ x _ hi => by
    show i < n
    simpa [rngC] using hi
  stop := fun k' H' h' _ x _ => by simp [rngC, Itc]
  yld := fun i k' H' h' x H2 w _ hx _ e y => by
    obtain ⟨e1, y⟩ := y
    subst e1; subst y
    refine ⟨k', .refl _ _, hx, ?_⟩
    have hi : i < n := by
      have := (List.getElem?_eq_some_iff.mp e).1
      simpa [rngC] using this
    simp only [rngC, List.getElem?_map, List.getElem?_range hi, Option.map_some, Option.some.injEq] at e
    subst e
    simp only [Rep]
/-- how many -/
def cntC (i j c : Int) : Nat := (Builtin.Range.rangeSize i j c).toNat
def iRg3 (a : EA) : EI := fun sw h => (a sw h).bind fun ws h1 => match ws with
  | [.int i, .int j, .int c] => if c ≠ 0 ∧ c.natAbs < 1073741824 ∧ Builtin.Range.small i j c = true ∧ 0 ≤ Builtin.Range.rangeSize i j c then .ok (rngC i c (cntC i j c), none) h1 else .no
  | _ => .no
theorem wi_rg3 (x : XOk A N sc X) (hs : sc.names.lookup ("range" : Str) = some .globalImplicit) (hg : A.gt.lookup ("range" : Str) = some .blt) (ha : WA A X [a, b, c] aa) (h3 : [a, b, c].all nonStar = true) : WI A X tg (.Call (.Name "range" p) [a, b, c] [] pos) (iRg3 aa) := fun wx tk => by
  simp only [List.all_cons, List.all_nil, Bool.and_eq_true] at h3
  refine PI_imp (pi_range3 (gl_of x hs) (x.glob.blt _ hg) (ha wx tk) (star_ok h3.1) (by rw [star_ok h3.2.1, star_ok h3.2.2.1]; rfl)) fun σ H Q t => ?_
  obtain ⟨k, sw, h, hs, hh, d⟩ := TIx.args t
  refine ⟨k, sw, h, hs, hh, d.imp fun vs H1 ⟨k1, ws, h1, x1, r1, d1⟩ => ?_⟩
  split at d1
  · split at d1
    · rename_i i j c hl
      simp only [RepL] at r1
      obtain ⟨v, _, rfl, e1, v2, _, rfl, e2, v3, _, rfl, e3, rfl⟩ := r1
      simp only [Rep] at e1 e2 e3
      subst e1; subst e2; subst e3
      exact ⟨i, j, c, _, rfl, ⟨hl.1, hl.2.1, hl.2.2.1, (Int.toNat_of_nonneg hl.2.2.2).symm⟩, d1 _ k1 H1 (.refl _ _) x1 walks_rngC⟩
    · exact d1.elim
  · exact d1.elim

/-! ### the signs of a text -/
def signs (x : Str) : List W := x.cps.toList.map fun c => .str ⟨#[c]⟩
theorem walks_str {G : Gx} {k : Ka} {H : Hp} {x : Str} : Walks G (Its x) k H (signs x) none where
  go := fun i k' H' h' _ y _ hi => by
    show i < x.cps.size
    simpa [signs] using hi
  stop := fun k' H' h' _ y _ => by simp [signs, Its]
  yld := fun i k' H' h' y H2 w _ hx _ e z => by
    obtain ⟨e1, c, e2, rfl⟩ := z
    subst e1
    refine ⟨k', .refl _ _, hx, ?_⟩
    rw [signs, List.getElem?_map, Array.getElem?_toList, e2] at e
    cases e
    simp only [Rep]
def iStrW (a : EV) : EI := fun sw h => (a sw h).bind fun w h1 => match w with | .str x => .ok (signs x, none) h1 | _ => .no
theorem wi_str (ha : WE A X a ea) : WI A X tg a (iStrW ea) := fun wx tk =>
  PI_imp (pi_str (ha wx tk)) fun σ H Q ⟨k, sw, h, hs, hh, d⟩ => by
    refine ⟨k, sw, h, hs, hh, (DenI.bind (rp := Rep A.toGx) d).imp fun v H1 ⟨k1, w, h1, n1, x1, r1, d1⟩ => ?_⟩
    split at d1
    · simp only [Rep] at r1
      exact ⟨_, r1, d1 _ k1 H1 (.refl _ _) x1 walks_str⟩
    · exact d1.elim

/-! ### methods of built-in types -/
/-- a method: what it gives of the object and the arguments -/
abbrev FM := W → List W → WH → R W
def MetW (A : Ax) (X : Cx) (T : String) (r : V → List V → Hp → VK → Prop) (f : FM) : Prop :=
  ∀ (wx : WX) (k k0 : Ka) (H0 H : Hp) (σ : St) (h0 h : WH) (w : W) (ws : List W) (v : V) (vs : List V) (Q : VK), Nxt k0 H0 k H → HRep A.toGx k0 H0 h0 → Rep A.toGx k0 w v → HRep A.toGx k H h → Rep A.toGx k w v → RepL A.toGx k ws vs →
    Den A.toGx (Rep A.toGx) wx k H σ (f w ws h) Q → r v vs H Q
/-- is it of the type? -/
def tyIs (T : String) (h : WH) : W → Bool
  | .str _ => T == "str"
  | .lst _ => T == "list"
  | .ref r => (match h[r]? with | some (.lst _) => T == "list" | _ => false)
  | _ => false
theorem tyIs_ok {G : Gx} {T : String} {k : Ka} {H : Hp} {h : WH} {w : W} {v : V} (x : HRep G k H h) (r : Rep G k w v) (e : tyIs T h w = true) : tyV G.K T v H := by
  cases w <;> simp only [tyIs, Bool.false_eq_true, beq_iff_eq] at e
  · simp only [Rep] at r; subst r; exact e
  · simp only [Rep] at r
    obtain ⟨p, vs, rfl, q, _⟩ := r
    exact .inl ⟨e, vs, SqL.of (x.sub _ _ q)⟩
  · split at e
    · rename_i ho
      obtain ⟨p, rfl, em, vs, eH, rr⟩ := ref_at x r ho
      exact .inl ⟨beq_iff_eq.mp e, vs, SqL.of eH⟩
    · cases e
def dBM (T : String) (f : FM) (o : EV) (a : EA) : EV := fun sw h => (o sw h).bind fun w h1 => if tyIs T h1 w then (a sw h1).bind fun ws h2 => f w ws h2 else .no
theorem few_ok {es : List Expr} {env : Env} {cpos : Pos} (h : es.all nonStar = true) (hl : es.length < 29) : ((backTo cpos (starEach es env)).all (fun x => !x.1) && (backToKw cpos (keywordEach [] env)).all (fun x => x.1.isSome)
      && decide (es.length + ([] : List Keyword).length + (if ([] : List Keyword).isEmpty then 0 else 1) < 30)) = true := by
  have q : ∀ {es : List Expr}, es.all nonStar = true → (backTo cpos (starEach es env)).all (fun x => !x.1) = true := by
    intro es h
    have := stars_any (pos := cpos) (env := env) h
    rw [List.all_eq_not_any_not]
    simp only [Bool.not_not]
    rw [this]; rfl
  rw [q h]
  simp only [Bool.true_and, List.length_nil, Nat.add_zero, Bool.and_eq_true]
  exact ⟨rfl, decide_eq_true (by simp; omega)⟩
theorem we_bm (hK : X.K = A.K) {T id : String} {name : Str} {r : V → List V → Hp → VK → Prop} {f : FM} (pa : PlainAttrs T) (slot : Slot T name id) (hty : typeOf (.builtin id) = pure (.type "method_descriptor")) (hm : MtR X id r) (hf : MetW A X T r f)
    (ho : WE A X o ea) (ha : WA A X (e :: es) aa) (h0 : notCall0 o = true) (h3 : (e :: es).all nonStar = true) (hl : (e :: es).length < 29) (hline : (apos.endLine == pos.line) = true) :
    WE A X (.Call (.Attribute o name apos) (e :: es) [] pos) (dBM T f ea aa) := fun wx tk => by
  have h3' := h3
  simp only [List.all_cons, Bool.and_eq_true] at h3
  refine PE_imp (pe_bm pa slot hty hm (ho wx tk) (ha wx tk) (attrBase h0) (few_ok h3' hl) hline (star_ok h3.1) (stars_any h3.2)) fun σ H Q t => ?_
  obtain ⟨k, sw, h, hs, hh, d⟩ := TEx.bind t
  refine ⟨k, sw, h, hs, hh, d.imp fun v H1 ⟨k1, sw1, w, h1, hs1, hh1, r1, d1⟩ => ?_⟩
  split at d1
  · rename_i et
    refine ⟨hK ▸ tyIs_ok hh1 r1 et, ?_⟩
    obtain ⟨k2, sw2, h2, s2, x2, d2⟩ := TAx.bind (σ := σ) (H := H1) (Q := Q) (wx := wx) (G := A.toGx) (a := aa) (f := fun _ ws h2 => f w ws h2) ⟨k1, sw1, h1, hs1, hh1, d1⟩
    exact ⟨k1, sw1, h1, hs1, hh1, (Den.bind (rp := RepL A.toGx) d1).imp fun vs H2 ⟨k3, ws, h3, n3, x3, r3, d3⟩ => hf wx k3 k1 H1 H2 σ h1 h3 w ws v vs Q n3 hh1 r1 x3 (r1.mono n3.le) r3 d3⟩
  · exact d1.elim
theorem we_bm0 (hK : X.K = A.K) {T id : String} {name : Str} {r : V → List V → Hp → VK → Prop} {f : FM} (pa : PlainAttrs T) (slot : Slot T name id) (hty : typeOf (.builtin id) = pure (.type "method_descriptor")) (hm : MtR X id r) (hf : MetW A X T r f)
    (ho : WE A X o ea) (h0 : notCall0 o = true) (hline : (apos.endLine == pos.line) = true) :
    WE A X (.Call (.Attribute o name apos) [] [] pos) (dBM T f ea aNil) := fun wx tk => by
  refine PE_imp (pe_bm0 pa slot hty hm (ho wx tk) (attrBase h0) hline) fun σ H Q t => ?_
  obtain ⟨k, sw, h, hs, hh, d⟩ := TEx.bind t
  refine ⟨k, sw, h, hs, hh, d.imp fun v H1 ⟨k1, sw1, w, h1, hs1, hh1, r1, d1⟩ => ?_⟩
  split at d1
  · rename_i et
    exact ⟨hK ▸ tyIs_ok hh1 r1 et, hf wx k1 k1 H1 H1 σ h1 h1 w [] v [] Q (.refl _ _) hh1 r1 hh1 r1 (by simp only [RepL]) d1⟩
  · exact d1.elim

def fAppend : FM := fun w ws h => match w, ws with
  | .ref r, [x] => (match h[r]? with | some (.lst us) => if us.length < lim then .ok .non (h.set r (.lst (us ++ [x]))) else .no | _ => .no)
  | _, _ => .no
theorem RepL.snoc {G : Gx} {k : Ka} : ∀ {ws : List W} {vs : List V} {w : W} {v : V}, RepL G k ws vs → Rep G k w v → RepL G k (ws ++ [w]) (vs ++ [v]) := fun h r => h.append (RepL.one r)
theorem mw_append : MetW A X "list" rAppend fAppend := by
  intro wx k k0 H0 H σ h0 h w ws v vs Q n x0 r0 x r rs d
  unfold fAppend at d
  split at d
  · rename_i r1 y
    split at d
    · rename_i us ho
      split at d
      · rename_i hl
        obtain ⟨z, rfl, rz⟩ := rep1 rs
        obtain ⟨p1, rfl, em, xs, eH, rr⟩ := ref_at x r ho
        obtain ⟨_, od⟩ := x.ob _ _ _ ho em
        obtain ⟨oF, oM⟩ := od (by intro z; cases z)
        refine ⟨p1, xs, z, rfl, rfl, eH, by rw [rr.length]; exact lim_lt hl, ?_⟩
        exact d .non k _ (Nxt.put x em) (x.put em oF ⟨_, upd_same, rr.snoc rz⟩ trivial) (by simp only [Rep])
      · exact d.elim
    · exact d.elim
  · exact d.elim

def fExtend : FM := fun w ws h => match w, ws with
  | .ref r, [y] => (match h[r]?, lstOf h y with | some (.lst us), some zs => if us.length + zs.length ≤ lim then .ok .non (h.set r (.lst (us ++ zs))) else .no | _, _ => .no)
  | _, _ => .no
theorem mw_extend : MetW A X "list" rExtend fExtend := by
  intro wx k k0 H0 H σ h0 h w ws v vs Q n x0 r0 x r rs d
  unfold fExtend at d
  split at d
  · rename_i r1 y
    split at d
    · rename_i us zs ho ez
      split at d
      · rename_i hl
        obtain ⟨z, rfl, rz⟩ := rep1 rs
        obtain ⟨p1, rfl, em, xs, eH, rr⟩ := ref_at x r ho
        obtain ⟨p2, ys, rfl, q2, r2⟩ := listAt x rz ez
        obtain ⟨_, od⟩ := x.ob _ _ _ ho em
        obtain ⟨oF, oM⟩ := od (by intro z; cases z)
        refine ⟨p1, p2, xs, ys, rfl, rfl, eH, q2, by rw [rr.length, r2.length]; exact lim_le hl, ?_⟩
        exact d .non k _ (Nxt.put x em) (x.put em oF ⟨_, upd_same, rr.append r2⟩ trivial) (by simp only [Rep])
      · exact d.elim
    · exact d.elim
  · exact d.elim
def fPop : FM := fun w ws h => match w, ws with
  | .ref r, [] => (match h[r]? with | some (.lst us) => (match us[us.length - 1]? with | some x => .ok x (h.set r (.lst us.dropLast)) | none => .no) | _ => .no)
  | _, _ => .no
theorem RepL.dropLast {G : Gx} {k : Ka} {ws : List W} {vs : List V} (h : RepL G k ws vs) : RepL G k ws.dropLast vs.dropLast := by
  rw [List.dropLast_eq_take, List.dropLast_eq_take, h.length]; exact h.take _
theorem mw_pop : MetW A X "list" rPop fPop := by
  intro wx k k0 H0 H σ h0 h w ws v vs Q n x0 r0 x r rs d
  unfold fPop at d
  split at d
  · rename_i r1
    split at d
    · rename_i us ho
      split at d
      · rename_i y ey
        simp only [RepL] at rs
        subst rs
        obtain ⟨p1, rfl, em, xs, eH, rr⟩ := ref_at x r ho
        obtain ⟨_, od⟩ := x.ob _ _ _ ho em
        obtain ⟨oF, oM⟩ := od (by intro z; cases z)
        obtain ⟨u, e1, ru⟩ := rr.get ey
        refine ⟨p1, xs, u, rfl, rfl, eH, by rw [rr.length]; exact e1, ?_⟩
        exact d u k _ (Nxt.put x em) (x.put em oF ⟨_, upd_same, rr.dropLast⟩ trivial) ru
      · exact d.elim
    · exact d.elim
  · exact d.elim
def fPopAt : FM := fun w ws h => match w, ws with
  | .ref r, [.int i] => (match h[r]? with
    | some (.lst us) => if -(2 ^ 63) ≤ i ∧ i < 2 ^ 63 then (match seqIndex? i us.length with
      | some j => (match us[j]? with | some x => .ok x (h.set r (.lst (us.eraseIdx j))) | none => .no)
      | none => .no) else .no
    | _ => .no)
  | _, _ => .no
theorem mw_popAt : MetW A X "list" rPopAt fPopAt := by
  intro wx k k0 H0 H σ h0 h w ws v vs Q n x0 r0 x r rs d
  unfold fPopAt at d
  split at d
  · rename_i r1 i
    split at d
    · rename_i us ho
      split at d
      · rename_i hi
        split at d
        · rename_i j ej
          split at d
          · rename_i y ey
            obtain ⟨z, rfl, rz⟩ := rep1 rs
            simp only [Rep] at rz
            subst rz
            obtain ⟨p1, rfl, em, xs, eH, rr⟩ := ref_at x r ho
            obtain ⟨_, od⟩ := x.ob _ _ _ ho em
            obtain ⟨oF, oM⟩ := od (by intro z; cases z)
            obtain ⟨u, e1, ru⟩ := rr.get ey
            refine ⟨p1, xs, i, j, u, rfl, rfl, eH, hi.1, hi.2, by rw [rr.length]; exact ej, e1, ?_⟩
            exact d u k _ (Nxt.put x em) (x.put em oF ⟨_, upd_same, rr.eraseIdx j⟩ trivial) ru
          · exact d.elim
        · exact d.elim
      · exact d.elim
    · exact d.elim
  · exact d.elim
/-- texts of values -/
def strsOf : List W → Option (List Str)
  | [] => some []
  | .str s :: r => (strsOf r).map (s :: ·)
  | _ :: _ => none
theorem strs_rep {G : Gx} {k : Ka} : ∀ {ws : List W} {vs : List V} {ss : List Str}, RepL G k ws vs → strsOf ws = some ss → vs = ss.map V.str
  | [], vs, ss, r, e => by
    simp only [strsOf, Option.some.injEq] at e
    simp only [RepL] at r
    subst e; subst r; rfl
  | w :: ws, vs, ss, r, e => by
    cases w <;> simp only [strsOf, reduceCtorEq, Option.map_eq_some_iff] at e
    obtain ⟨ts, e1, rfl⟩ := e
    simp only [RepL] at r
    obtain ⟨v, vr, rfl, hv, h2⟩ := r
    simp only [Rep] at hv
    subst hv
    rw [strs_rep h2 e1]; rfl
def fJoin : FM := fun w ws h => match w, ws with
  | .str a, [y] => (match (seqOf h y).bind strsOf with | some ss => if (ss.map (·.length)).sum + ss.length * a.length ≤ lim then .ok (.str (Txt.join a ss)) h else .no | none => .no)
  | _, _ => .no
theorem mw_join (hK : X.K = A.K) : MetW A X "str" (fun x xs H Q => ∃ a p, ∃ ys : List Str, x = .str a ∧ xs = [.ref p] ∧ (SqL X.K H p (ys.map V.str) ∨ SqT X.K H p (ys.map V.str)) ∧
    (ys.map (·.length)).sum + ys.length * a.length ≤ 16777216 ∧ Q (.str (Txt.join a ys)) H) fJoin := by
  intro wx k k0 H0 H σ h0 h w ws v vs Q n x0 r0 x r rs d
  unfold fJoin at d
  split at d
  · split at d
    · rename_i ss e
      split at d
      · rename_i hl
        obtain ⟨us, e1, e2⟩ := Option.bind_eq_some_iff.mp e
        obtain ⟨z, rfl, rz⟩ := rep1 rs
        simp only [Rep] at r
        subst r
        obtain ⟨p, xs, rfl, q, r2⟩ := seqAt x rz e1
        cases strs_rep r2 e2
        refine ⟨_, p, ss, rfl, rfl, hK ▸ q, Nat.le_trans hl (by decide), den_val x (by simp only [Rep]) d⟩
      · exact d.elim
    · exact d.elim
  · exact d.elim
end
end KW

set_option Elab.async false
set_option linter.all false
set_option maxRecDepth 100000
set_option maxHeartbeats 4000000
/-! defs, the whole program, the law's end -/
namespace KW
open PySem L2

/-- a def, run: its slots laid, its result without what nothing names -/
def runF (slots np : Nat) (D : EW) (args : List W) (h : WH) : R W :=
  if args.length = np then (match D (args.map some ++ List.replicate (slots - np) none) h with
    | .ok (.ret w) h' => .ok w (gc h.length w h h')
    | .ok (.next _) h' => .ok .non (gc h.length .non h h')
    | .exc _ c fs vs h' => .exc c fs vs h'
    | _ => .no)
  else .no
/-- the program: how deep, which def -/
def sem (D : Fns → Nat → EW) (sl np : Nat → Nat) : Nat → Fns
  | 0 => fun _ _ _ => .no
  | k + 1 => fun f args h => runF (sl f) (np f) (D (sem D sl np k) f) args h

theorem srep_start {G : Gx} {k : Ka} {ws : List W} {vs : List V} {m : Nat} (r : RepL G k ws vs) : SRep G k (ws.map some ++ List.replicate m none) (vs.map some ++ List.replicate m none) := by
  refine ⟨by simp [r.length], fun i w e => ?_⟩
  have hi : i < ws.length := by
    by_cases z : i < ws.length
    · exact z
    · rw [List.getElem?_append_right (by simp; omega)] at e
      have := List.mem_of_getElem? e
      simp at this
  rw [List.getElem?_append_left (by simpa using hi), List.getElem?_map] at e
  have e2 : ws[i]? = some w := by
    cases h : ws[i]? with
    | none => rw [h] at e; cases e
    | some u => rw [h] at e; cases e; rfl
  obtain ⟨v, e1, rv⟩ := r.get e2
  refine ⟨v, ?_, rv⟩
  rw [List.getElem?_append_left (by rw [List.length_map, r.length]; exact hi), List.getElem?_map, e1]; rfl

structure FnF (A : Ax) (prog : Program) (w : World) (mg : Str → Option Value) (D : Fns → Nat → EW) (sl np : Nat → Nat) (f : Nat) (a : Addr) (fd : FuncData) (ps : List Str) : Prop where
  ex : ∃ x qual st N, Fun A.K x qual st a fd ∧ FnScope N ps (defScope st) ∧ N.length = sl f ∧ ps.length = np f ∧ ∀ (Φ : Fns) (n : Nat) (X : Cx), StOk A N (defScope st) X → COk A Φ n X → WSs A X (defBody st) (D Φ f)
  bi : Binds A.K fd ps []

structure PgOk (A : Ax) (prog : Program) (w : World) (mg : Str → Option Value) (D : Fns → Nat → EW) (sl np : Nat → Nat) (fd : Nat → FuncData) (ps : Nat → List Str) : Prop where
  glob : GlobOk A mg
  fns : ∀ f a, A.fa f = some a → FnF A prog w mg D sl np f a (fd f) (ps f)
  mt : ∀ c m f, A.mt c m = some f → ∃ C a, A.cl c = some C ∧ A.fa f = some a ∧ Meth A.K C (A.mn m) a ∧ Cls A.K C ∧ ∀ g, A.lay c g = true → A.fn g ≠ A.mn m
  ini : ∀ c f, A.ini c = some f → ∃ C a, A.cl c = some C ∧ A.fa f = some a ∧ Mk A.K C a
  hP : prog = A.P
  hW : w = A.w
  ex : ∀ c f, A.exf c = some f → ∀ base, ExOk A prog w mg base c f
  sub : SubOk A

section
variable {A : Ax} {prog : Program} {w : World} {mg : Str → Option Value} {base : Heap} {D : Fns → Nat → EW} {sl np : Nat → Nat} {fd : Nat → FuncData} {ps : Nat → List Str}
theorem sem_ok (E : PgOk A prog w mg D sl np fd ps) : ∀ k f a, A.fa f = some a → FnG prog w A.K mg base (L2.CX prog w) (2 * k + 2) a (fd f) (ps f) (spF A.toGx (sem D sl np k f))
  | 0, f, a, hf => ⟨fun vs H Q _ ⟨_, _, _, _, _, d⟩ => d.elim, fun _ _ _ _ _ _ _ _ _ _ _ _ _ _ ⟨_, _, _, _, _, d⟩ => d.elim⟩
  | k + 1, f, a, hf => by
    obtain ⟨⟨x, qual, st, N, F, S, e1, e2, body⟩, _⟩ := E.fns f a hf
    have ih := sem_ok E k
    have e3 : 2 * (k + 1) + 2 = (2 * k + 3) + 1 := by omega
    rw [e3]
    refine funG F S (fun vs H Q Ex ⟨k1, ws, h, r, x, d⟩ => ?_) fun cdv Ar outer s H vs Q Ex gd hr ⟨k1, ws, h, r, x, d⟩ => ?_
    · by_cases z : ws.length = np f
      · rw [r.length, z, e2]
      · simp only [sem, runF, if_neg z] at d
        exact d.elim
    · by_cases z : ws.length = np f
      · have X1 : StOk A N (defScope st) (cxOf (L2.CX prog w) prog w A.K mg base N qual (defScope st) a cdv Ar outer s H Ex) :=
          { hK := rfl, hP := E.hP, hw := E.hW, hN := rfl, nd := S.nd, hsc := rfl, calm := rfl, gd := gd, glob := E.glob, un := by have := hr.un; show (Ar.deeper _).units + 70 < _; omega, fn := fun _ => rfl, stack := rfl, frame := rfl }
        have C1 : COk A (sem D sl np k) (2 * k + 2) (cxOf (L2.CX prog w) prog w A.K mg base N qual (defScope st) a cdv Ar outer s H Ex) :=
          { room := hr, lv := by omega, ex := fun c f e => E.ex c f e base, sub := E.sub, fn := fun g b hb => ⟨fd g, ps g, ih g b hb, by obtain ⟨⟨_, _, _, _, F', _⟩, _⟩ := E.fns g b hb; exact F'.kp, (E.fns g b hb).bi⟩, mt := E.mt, ini := E.ini }
        have tk := L2.takes_of (X := cxOf (L2.CX prog w) prog w A.K mg base N qual (defScope st) a cdv Ar outer s H Ex) rfl rfl rfl rfl
        refine ⟨_, (body _ _ _ X1 C1) _ tk (L2.passes_of rfl), k1, ws.map some ++ List.replicate (sl f - np f) none, h, ?_, x, ?_⟩
        · show SRep A.toGx k1 (ws.map some ++ List.replicate (sl f - np f) none) (vs.map some ++ List.replicate (N.length - vs.length) none)
          rw [e1, r.length, z]
          exact srep_start r
        · simp only [sem, runF, if_pos z] at d
          cases er : D (sem D sl np k) f (ws.map some ++ List.replicate (sl f - np f) none) h with
          | no => rw [er] at d; exact d.elim
          | exc s' c fs us h' =>
            rw [er] at d
            exact fun σ' C dd k' H' n' x' _ xr => d C dd k' H' n' x' xr
          | ok fl h' =>
            rw [er] at d
            cases fl with
            | next s' =>
              intro σ' k' H' n' x' _
              obtain ⟨k2, n2, x2, r2⟩ := x.gc x' n' (w := .non) (v := .non) (by simp only [Rep])
              exact d _ k2 H' n2 x2 r2
            | ret u =>
              intro v k' H' n' x' rv
              obtain ⟨k2, n2, x2, r2⟩ := x.gc x' n' rv
              exact d _ k2 H' n2 x2 r2
            | brk s' => exact d.elim
            | cont s' => exact d.elim
      · simp only [sem, runF, if_neg z] at d
        exact d.elim
end

/-- what is asked of the law's def -/
def spL (K : PySem.W.Frag) : Sp := fun vs H Q E => ∃ (a : Addr) (ns : List Int), vs = [V.ref a] ∧ SqL K H a (ns.map V.int) ∧ ns.length ≤ 63 ∧ ∀ v H', v = .bl true → Q v H'
theorem spL_of {G : Gx} {φ : List W → WH → R W} (h : ∀ ns : List Int, ns.length ≤ 63 → ∃ h', φ [.scr ns] [] = .ok (.bl true) h') : ∀ vs H Q E, spL G.K vs H Q E → spF G φ vs H Q E := by
  rintro vs H Q E ⟨a, ns, rfl, q, hl, hq⟩
  obtain ⟨h', e⟩ := h ns hl
  refine ⟨⟨H, []⟩, [.scr ns], [], ?_, ⟨fun a o z => z, rfl, List.nodup_nil, fun a z => by simp at z, fun i o p e1 => by simp at e1⟩, ?_⟩
  · refine RepL.one ?_
    simp only [Rep]
    exact ⟨a, rfl, q⟩
  · rw [e]
    intro v k' H' _ _ r
    simp only [Rep] at r
    exact hq v H' r
theorem walk {l : PySem.W.OpenLaw} {q : Program} {loose : List Str} {XP : (Str → Option Value) → Heap → Prop} {YP : World → Heap → Prop} {d : DefRec} {K : Params → PySem.W.Frag} {x : Str} {k : Nat} (hn : l.most = some 63) (hdf : d.params.defaults = []) (hr : Room k callerA)
    (hY : ∀ (w : World) (h : Heap), YP w h → (K w.params).In h)
    (F : ∀ (w : World) (mg : Str → Option Value) (fa : Addr) (h : Heap), (K w.params).In h → h.Ns mainGlobals mg → mg d.name = some (.ref fa) →
      ∃ fd : FuncData, (∀ (s : Shared) (u : Value), BindsTo s fd ⟨[u], []⟩ [(x, u)]) ∧ ∀ base : Heap, (K w.params).In base → base.Ns mainGlobals mg → FnG l.prog w (K w.params) mg base (L2.CX l.prog w) k fa fd [x] (spL (K w.params))) :
    PySem.W.WalkO q loose XP YP l.row.toRowW d [] (fun f vs => PySem.call f vs) :=
  walk_ofG (n := 63) (k := k) (x := x) (cx := fun w => L2.CX l.prog w) (sp := fun w => spL (K w.params)) hn (by decide) hdf hr hY F (fun _ _ a ns hl _ hS => ⟨a, ns, rfl, hS, hl, fun _ _ e => e⟩)
    fun _ _ _ _ _ ⟨_, _, _, _, _, _, _, _, _, _, _, _, z⟩ => z
end KW

set_option Elab.async false
set_option linter.all false
set_option maxRecDepth 100000
set_option maxHeartbeats 4000000
/-! the rules as the printer names them: one look each -/
namespace KW
open PySem L2
def Gk.same : Gk → Gk → Bool
  | .fn a, .fn b => decide (a = b)
  | .cls a, .cls b => decide (a = b)
  | .cst a, .cst b => decide (a = b)
  | .blt, .blt => true
  | _, _ => false
theorem Gk.same_ok : ∀ {a b : Gk}, Gk.same a b = true → a = b
  | .fn a, .fn b, h => by rw [of_decide_eq_true h]
  | .cls a, .cls b, h => by rw [of_decide_eq_true h]
  | .cst a, .cst b, h => by rw [of_decide_eq_true h]
  | .blt, .blt, _ => rfl
  | .fn _, .cls _, h => by cases h
  | .fn _, .cst _, h => by cases h
  | .fn _, .blt, h => by cases h
  | .cls _, .fn _, h => by cases h
  | .cls _, .cst _, h => by cases h
  | .cls _, .blt, h => by cases h
  | .cst _, .fn _, h => by cases h
  | .cst _, .cls _, h => by cases h
  | .cst _, .blt, h => by cases h
  | .blt, .fn _, h => by cases h
  | .blt, .cls _, h => by cases h
  | .blt, .cst _, h => by cases h
def gtB (t : List (Str × Gk)) (n : Str) (g : Gk) : Bool := match t.lookup n with | some u => Gk.same u g | none => false
theorem gtB_ok {t : List (Str × Gk)} {n : Str} {g : Gk} (h : gtB t n g = true) : t.lookup n = some g := by
  unfold gtB at h
  split at h
  · rename_i u e
    rw [e, Gk.same_ok h]
  · cases h
/-- what a name of the code is -/
def varB (N : List Str) (sc : Scope) (i : Nat) (n : Str) : Bool := decide (N[i]? = some n) && (decide (sc.names.lookup n = some .local) || decide (sc.names.lookup n = some .cell) || decide (sc.names.lookup n = some .free)) && !(n == ("__debug__" : Str)) && !(n == ("__classdict__" : Str))
def locB (N : List Str) (sc : Scope) (i : Nat) (n : Str) : Bool := decide (N[i]? = some n) && (decide (sc.names.lookup n = some .local) || decide (sc.names.lookup n = some .cell))
def cmpB (N : List Str) (sc : Scope) (i : Nat) (n : Str) : Bool := decide (N[i]? = some n) && decide (sc.names.lookup n = some .local)
def gloB (sc : Scope) (n : Str) : Bool := decide (sc.names.lookup n = some .globalImplicit) && !(n == ("__debug__" : Str)) && !(n == ("__name__" : Str))
section
variable {A : Ax} {X : Cx} {N : List Str} {sc : Scope} {Φ : Fns} {n : Nat} {a b c e tg o : Expr} {ea eb ec : EV} {aa : EA} {p p2 pos apos : Pos} {es : List Expr}
theorem gloB_ok {nm : Str} (h : gloB sc nm = true) : sc.names.lookup nm = some .globalImplicit ∧ (nm == ("__debug__" : Str)) = false ∧ nm ≠ ("__name__" : Str) := by
  unfold gloB at h
  simp only [Bool.and_eq_true, decide_eq_true_eq, Bool.not_eq_true'] at h
  exact ⟨h.1.1, h.1.2, fun z => by rw [z] at h; simp at h⟩
theorem we_v (x : XOk A N sc X) (i : Nat) {nm : Str} (h : varB N sc i nm = true) : WE A X (.Name nm pos) (dVar i) := by
  unfold varB at h
  simp only [Bool.and_eq_true, decide_eq_true_eq, Bool.not_eq_true', Bool.or_eq_true] at h
  obtain ⟨⟨⟨h1, h2⟩, h3⟩, h4⟩ := h
  exact we_var x h1 (h2.elim (fun q => q.elim .inl fun q => .inr (.inl q)) fun q => .inr (.inr q)) h3 h4
theorem we_k (x : XOk A N sc X) {nm : Str} {w : W} (hg : A.gt.lookup nm = some (.cst w)) (h : gloB sc nm = true) : WE A X (.Name nm pos) (dC w) := we_cst x hg (gloB_ok h).1 (gloB_ok h).2.1
theorem wa_c (h1 : WE A X e ea) (h2 : WA A X es aa) (hs : nonStar e = true) : WA A X (e :: es) (aCons ea aa) := wa_cons h1 h2 (star_ok hs)
theorem we_f (x : XOk A N sc X) (C : COk A Φ n X) (f : Nat) {nm : Str} (hg : A.gt.lookup nm = some (.fn f)) (h : gloB sc nm = true) (ha : WA A X (e :: es) aa) (h3 : (e :: es).all nonStar = true) : WE A X (.Call (.Name nm p) (e :: es) [] pos) (dCall (Φ f) aa) :=
  we_call x C (gloB_ok h).1 hg (gloB_ok h).2.1 ha h3
theorem we_f0 (x : XOk A N sc X) (C : COk A Φ n X) (f : Nat) {nm : Str} (hg : A.gt.lookup nm = some (.fn f)) (h : gloB sc nm = true) : WE A X (.Call (.Name nm p) [] [] pos) (dCall (Φ f) aNil) := we_call0 x C (gloB_ok h).1 hg (gloB_ok h).2.1
theorem we_mk (x : XOk A N sc X) (C : COk A Φ n X) {c f : Nat} {nm : Str} (hi : A.ini c = some f) (hg : A.gt.lookup nm = some (.cls c)) (h : gloB sc nm = true) (ha : WA A X (e :: es) aa) (h3 : (e :: es).all nonStar = true) : WE A X (.Call (.Name nm p) (e :: es) [] pos) (dMake A Φ c aa) :=
  we_make x C hi (gloB_ok h).1 hg (gloB_ok h).2.1 ha h3
/-! built-ins -/
theorem bB (x : XOk A N sc X) {nm : Str} {id : String} {r : List V → Hp → VK → Prop} {f : List W → WH → R W} (hc : CallR X (.builtin id) r) (hf : CallW A X r f) (hv : bootBuiltins nm = some (.builtin id)) (hg : A.gt.lookup nm = some .blt) (h : gloB sc nm = true) (ha : WA A X (e :: es) aa) (h3 : (e :: es).all nonStar = true) :
    WE A X (.Call (.Name nm p) (e :: es) [] pos) (dBi f aa) := we_biB x hc hf (gloB_ok h).1 hg hv ha (gloB_ok h).2.2 (gloB_ok h).2.1 h3
theorem bT (x : XOk A N sc X) {nm : Str} {id : String} {r : List V → Hp → VK → Prop} {f : List W → WH → R W} (hc : CallR X (.type id) r) (hf : CallW A X r f) (hv : bootBuiltins nm = some (.type id)) (hg : A.gt.lookup nm = some .blt) (h : gloB sc nm = true) (ha : WA A X (e :: es) aa) (h3 : (e :: es).all nonStar = true) :
    WE A X (.Call (.Name nm p) (e :: es) [] pos) (dBi f aa) := we_biT x hc hf (gloB_ok h).1 hg hv ha (gloB_ok h).2.2 (gloB_ok h).2.1 h3
theorem b_len (x : XOk A N sc X) (hg : A.gt.lookup ("len" : Str) = some .blt) (h : gloB sc ("len" : Str) = true) (ha : WA A X (e :: es) aa) (h3 : (e :: es).all nonStar = true) : WE A X (.Call (.Name "len" p) (e :: es) [] pos) (dBi bLen aa) := bB x call_len (cw_len x.hK) (by rfl) hg h ha h3
theorem b_abs (x : XOk A N sc X) (hg : A.gt.lookup ("abs" : Str) = some .blt) (h : gloB sc ("abs" : Str) = true) (ha : WA A X (e :: es) aa) (h3 : (e :: es).all nonStar = true) : WE A X (.Call (.Name "abs" p) (e :: es) [] pos) (dBi bAbs aa) := bB x call_abs cw_abs (by rfl) hg h ha h3
theorem b_max (x : XOk A N sc X) (hg : A.gt.lookup ("max" : Str) = some .blt) (h : gloB sc ("max" : Str) = true) (ha : WA A X (e :: es) aa) (h3 : (e :: es).all nonStar = true) : WE A X (.Call (.Name "max" p) (e :: es) [] pos) (dBi bMax2 aa) := bB x (call_max2 x.calm) cw_max2 (by rfl) hg h ha h3
theorem b_min (x : XOk A N sc X) (hg : A.gt.lookup ("min" : Str) = some .blt) (h : gloB sc ("min" : Str) = true) (ha : WA A X (e :: es) aa) (h3 : (e :: es).all nonStar = true) : WE A X (.Call (.Name "min" p) (e :: es) [] pos) (dBi bMin2 aa) := bB x (call_min2 x.calm) cw_min2 (by rfl) hg h ha h3
theorem b_int (x : XOk A N sc X) (hg : A.gt.lookup ("int" : Str) = some .blt) (h : gloB sc ("int" : Str) = true) (ha : WA A X (e :: es) aa) (h3 : (e :: es).all nonStar = true) : WE A X (.Call (.Name "int" p) (e :: es) [] pos) (dBi bInt aa) := bT x call_int1 cw_int (by rfl) hg h ha h3
theorem b_list (x : XOk A N sc X) (m : Bool) (hg : A.gt.lookup ("list" : Str) = some .blt) (h : gloB sc ("list" : Str) = true) (ha : WA A X (e :: es) aa) (h3 : (e :: es).all nonStar = true) : WE A X (.Call (.Name "list" p) (e :: es) [] pos) (dBi (bList m) aa) := bT x call_list_of (cw_list x.hK) (by rfl) hg h ha h3
theorem b_tuple (x : XOk A N sc X) (hg : A.gt.lookup ("tuple" : Str) = some .blt) (h : gloB sc ("tuple" : Str) = true) (ha : WA A X (e :: es) aa) (h3 : (e :: es).all nonStar = true) : WE A X (.Call (.Name "tuple" p) (e :: es) [] pos) (dBi bTup aa) := bT x call_tuple_of (cw_tup x.hK) (by rfl) hg h ha h3
theorem b_all (x : XOk A N sc X) (hg : A.gt.lookup ("all" : Str) = some .blt) (h : gloB sc ("all" : Str) = true) (ha : WA A X (e :: es) aa) (h3 : (e :: es).all nonStar = true) : WE A X (.Call (.Name "all" p) (e :: es) [] pos) (dBi bAll aa) := bB x (cr_all x.calm) (cw_all x.hK) (by rfl) hg h ha h3
theorem b_any (x : XOk A N sc X) (hg : A.gt.lookup ("any" : Str) = some .blt) (h : gloB sc ("any" : Str) = true) (ha : WA A X (e :: es) aa) (h3 : (e :: es).all nonStar = true) : WE A X (.Call (.Name "any" p) (e :: es) [] pos) (dBi bAny aa) := bB x (cr_any x.calm) (cw_any x.hK) (by rfl) hg h ha h3
theorem b_sum (x : XOk A N sc X) (hg : A.gt.lookup ("sum" : Str) = some .blt) (h : gloB sc ("sum" : Str) = true) (ha : WA A X (e :: es) aa) (h3 : (e :: es).all nonStar = true) : WE A X (.Call (.Name "sum" p) (e :: es) [] pos) (dBi bSum aa) := bB x (cr_sum x.calm) (cw_sum x.hK) (by rfl) hg h ha h3
theorem b_isT (x : XOk A N sc X) {T : Str} {id : String} (hv : bootBuiltins T = some (.type id)) (hg : A.gt.lookup ("isinstance" : Str) = some .blt) (h : gloB sc ("isinstance" : Str) = true) (hg2 : A.gt.lookup T = some .blt) (h2 : gloB sc T = true) (ha : WE A X a ea) (h3 : nonStar a = true) :
    WE A X (.Call (.Name "isinstance" p) [a, .Name T p2] [] pos) (dIsT id ea) := we_isT x ha (gloB_ok h).1 hg (gloB_ok h2).1 hg2 hv (gloB_ok h2).2.2 (gloB_ok h2).2.1 h3
theorem m_append (x : XOk A N sc X) (ho : WE A X o ea) (ha : WA A X (e :: es) aa) (h0 : notCall0 o = true) (h3 : (e :: es).all nonStar = true) (hl : (e :: es).length < 29) (hline : (apos.endLine == pos.line) = true) : WE A X (.Call (.Attribute o "append" apos) (e :: es) [] pos) (dBM "list" fAppend ea aa) :=
  we_bm x.hK PySem.F.plainAttrs_list PySem.F.slot_list_append PySem.F.type_list_append mt_append mw_append ho ha h0 h3 hl hline
theorem m_extend (x : XOk A N sc X) (ho : WE A X o ea) (ha : WA A X (e :: es) aa) (h0 : notCall0 o = true) (h3 : (e :: es).all nonStar = true) (hl : (e :: es).length < 29) (hline : (apos.endLine == pos.line) = true) : WE A X (.Call (.Attribute o "extend" apos) (e :: es) [] pos) (dBM "list" fExtend ea aa) :=
  we_bm x.hK PySem.F.plainAttrs_list PySem.F.slot_list_extend PySem.F.type_list_extend mt_extend mw_extend ho ha h0 h3 hl hline
theorem m_popAt (x : XOk A N sc X) (ho : WE A X o ea) (ha : WA A X (e :: es) aa) (h0 : notCall0 o = true) (h3 : (e :: es).all nonStar = true) (hl : (e :: es).length < 29) (hline : (apos.endLine == pos.line) = true) : WE A X (.Call (.Attribute o "pop" apos) (e :: es) [] pos) (dBM "list" fPopAt ea aa) :=
  we_bm x.hK PySem.F.plainAttrs_list PySem.F.slot_list_pop PySem.F.type_list_pop mt_popAt mw_popAt ho ha h0 h3 hl hline
theorem m_pop (x : XOk A N sc X) (ho : WE A X o ea) (h0 : notCall0 o = true) (hline : (apos.endLine == pos.line) = true) : WE A X (.Call (.Attribute o "pop" apos) [] [] pos) (dBM "list" fPop ea aNil) :=
  we_bm0 x.hK PySem.F.plainAttrs_list PySem.F.slot_list_pop PySem.F.type_list_pop mt_pop mw_pop ho h0 hline
theorem m_join (x : XOk A N sc X) (ho : WE A X o ea) (ha : WA A X (e :: es) aa) (h0 : notCall0 o = true) (h3 : (e :: es).all nonStar = true) (hl : (e :: es).length < 29) (hline : (apos.endLine == pos.line) = true) : WE A X (.Call (.Attribute o "join" apos) (e :: es) [] pos) (dBM "str" fJoin ea aa) :=
  we_bm x.hK PySem.F.plainAttrs_str PySem.F.slot_str_join PySem.F.type_str_join mt_join (mw_join x.hK) ho ha h0 h3 hl hline
/-! ranges -/
theorem i_rg1 (x : XOk A N sc X) (hg : A.gt.lookup ("range" : Str) = some .blt) (h : gloB sc ("range" : Str) = true) (ha : WA A X [a] aa) (h3 : nonStar a = true) : WI A X tg (.Call (.Name "range" p) [a] [] pos) (iRg1 aa) := wi_rg1 x (gloB_ok h).1 hg ha h3
theorem i_rg2 (x : XOk A N sc X) (hg : A.gt.lookup ("range" : Str) = some .blt) (h : gloB sc ("range" : Str) = true) (ha : WA A X [a, b] aa) (h3 : [a, b].all nonStar = true) : WI A X tg (.Call (.Name "range" p) [a, b] [] pos) (iRg2 aa) := wi_rg2 x (gloB_ok h).1 hg ha h3
theorem i_rg3 (x : XOk A N sc X) (hg : A.gt.lookup ("range" : Str) = some .blt) (h : gloB sc ("range" : Str) = true) (ha : WA A X [a, b, c] aa) (h3 : [a, b, c].all nonStar = true) : WI A X tg (.Call (.Name "range" p) [a, b, c] [] pos) (iRg3 aa) := wi_rg3 x (gloB_ok h).1 hg ha h3
/-- list, tuple or text -/
def iAny (a : EV) : EI := fun sw h => (a sw h).bind fun w h1 => match w with
  | .str x => .ok (signs x, none) h1
  | .tup ws => .ok (ws, none) h1
  | .lst ws => .ok (ws, none) h1
  | .ref r => (match h1[r]? with | some (.lst ws) => .ok (ws, some r) h1 | _ => .no)
  | _ => .no
theorem i_any (x : XOk A N sc X) (ha : WE A X a ea) : WI A X tg a (iAny ea) := fun wx tk =>
  PI_imp (PI_or (wi_seq (tg := tg) x.hK ha wx tk) (wi_str (tg := tg) ha wx tk)) fun σ H Q ⟨k, sw, h, hs, hh, d⟩ => by
    by_cases z : ∃ s h1, ea sw h = .ok (.str s) h1
    · obtain ⟨s, h1, e⟩ := z
      refine .inr ⟨k, sw, h, hs, hh, ?_⟩
      have q : iAny ea sw h = iStrW ea sw h := by unfold iAny iStrW; rw [e]; rfl
      rw [← q]; exact d
    · refine .inl ⟨k, sw, h, hs, hh, ?_⟩
      have q : iAny ea sw h = iSeq ea sw h := by
        unfold iAny iSeq
        cases e : ea sw h with
        | ok w h1 => cases w <;> first | rfl | exact absurd ⟨_, _, e⟩ z
        | exc => rfl
        | no => rfl
      rw [← q]; exact d
/-! targets, comprehensions, statements -/
theorem g_nm (x : StOk A N sc X) (i : Nat) {y : Str} (h : locB N sc i y = true) : WG A X (.Name y pos) (.nm i) := by
  unfold locB at h
  simp only [Bool.and_eq_true, decide_eq_true_eq, Bool.or_eq_true] at h
  exact wg_nm x.toXOk h.1 h.2 (.inl (x.fn y))
theorem g_cm (x : XOk A N sc X) (i : Nat) {y : Str} (h : cmpB N sc i y = true) : WG A X (.Name y pos) (.nm i) := by
  unfold cmpB at h
  simp only [Bool.and_eq_true, decide_eq_true_eq] at h
  exact wg_nm x h.1 (.inl h.2) (.inr h.2)
theorem gs_c {t : Tg} {ts : List Tg} (h1 : WG A X e t) (h2 : WGs A X es ts) (hs : nonStar e = true) : WGs A X (e :: es) (t :: ts) := wgs_cons h1 h2 (assignEach_cons hs)
theorem s_set (x : StOk A N sc X) (i : Nat) {y : Str} {py : Pos} (h : locB N sc i y = true) (ha : WE A X a ea) (hc : notComp a = true) : WSt A X (.Assign [.Name y py] a pos) (sSet i ea) := by
  unfold locB at h
  simp only [Bool.and_eq_true, decide_eq_true_eq, Bool.or_eq_true] at h
  exact ws_set x h.1 h.2 ha hc
theorem s_par (x : StOk A N sc X) (i j : Nat) {y z : Str} {px py pt pt2 : Pos} {kt k2 : Nat} (h : (cmpB N sc i y && cmpB N sc j z && !(i == j)) = true) (ha : WA A X [a, b] aa)
    (hw : swappedStores [.Tuple [.Name y px, .Name z py] kt pt] (.Tuple [a, b] k2 pt2) X.env = pure (some [y, z])) (hs : swapsWithSole [.Tuple [.Name y px, .Name z py] kt pt] (.Tuple [a, b] k2 pt2) pos.line X.env = pure false) :
    WSt A X (.Assign [.Tuple [.Name y px, .Name z py] kt pt] (.Tuple [a, b] k2 pt2) pos) (sPar i j aa) := by
  unfold cmpB at h
  simp only [Bool.and_eq_true, decide_eq_true_eq, Bool.not_eq_true', beq_eq_false_iff_ne] at h
  exact ws_par x.toXOk h.1.1.1 h.1.2.1 h.2 h.1.1.2 h.1.2.2 ha hw hs
theorem XOk.u64 (x : XOk A N sc X) : X.A.units + 64 < cLine := by have := x.un; omega
theorem XOk.u65 (x : XOk A N sc X) : X.A.units + 65 < cLine := by have := x.un; omega
theorem StOk.nox (x : StOk A N sc X) : StOk A N sc X.nox := { hK := x.hK, hP := x.hP, hw := x.hw, hN := x.hN, nd := x.nd, hsc := x.hsc, calm := x.calm, gd := x.gd, glob := x.glob, un := x.un, fn := x.fn, stack := x.stack, frame := x.frame }
theorem COk.nox (C : COk A Φ n X) : COk A Φ n X.nox := { room := C.room, lv := C.lv, ex := C.ex, sub := C.sub, fn := C.fn, mt := C.mt, ini := C.ini }
theorem s_thru {body : List Stmt} {h₀ : ExceptHandler} {hs : List ExceptHandler} {s : EW} (hb : WSs A X.nox body s) : WSt A X (.Try body (h₀ :: hs) [] [] pos) (sThru s) := fun wx tk po =>
  PS_imp (ps_try_thru0 (hb _ takes0 PassesOwn.never)) fun D σ H ⟨k, sw, h, hs', hh, d⟩ => by
    refine ⟨k, sw, h, hs', hh, ?_⟩
    unfold sThru at d
    cases e : s sw h with
    | ok f h1 => rw [e] at d; cases f <;> exact d
    | exc => rw [e] at d; exact d.elim
    | no => rw [e] at d; exact d.elim
/-! stores of a pair, by the scope alone -/
def envS (X : Cx) (sc : Scope) : Env := { X.env with scope := sc }
theorem swapped_env {ts : List Expr} {v : Expr} {env env' : Env} (h : env.scope = env'.scope) : swappedStores ts v env = swappedStores ts v env' := by
  have k : env.kindOf = env'.kindOf := by
    funext y
    unfold Env.kindOf
    rw [h]
  have b : env.blockKind = env'.blockKind := by
    unfold Env.blockKind
    rw [h]
  unfold swappedStores
  rw [k, b]
theorem s_par2 (x : StOk A N sc X) (i j : Nat) {y z : Str} {px py pt pt2 : Pos} {kt k2 : Nat} (h : (cmpB N sc i y && cmpB N sc j z && !(i == j)) = true) (ha : WA A X [a, b] aa)
    (hw : swappedStores [.Tuple [.Name y px, .Name z py] kt pt] (.Tuple [a, b] k2 pt2) (envS X sc) = pure (some [y, z])) (hs : swapsWithSole [.Tuple [.Name y px, .Name z py] kt pt] (.Tuple [a, b] k2 pt2) pos.line X.env = pure false) :
    WSt A X (.Assign [.Tuple [.Name y px, .Name z py] kt pt] (.Tuple [a, b] k2 pt2) pos) (sPar i j aa) := s_par x i j h ha ((swapped_env x.hsc).trans hw) hs
theorem s_asgT (x : StOk A N sc X) {t : Tg} {k2 : Nat} {pt2 : Pos} (hg : WG A X tg t) (ha : WE A X (.Tuple es k2 pt2) ea) (hs : swapsWithSole [tg] (.Tuple es k2 pt2) pos.line X.env = pure false) (hw : swappedStores [tg] (.Tuple es k2 pt2) (envS X sc) = pure none) (h1 : (assignEach [tg] X.env).map (·.2) = [assign tg X.env]) :
    WSt A X (.Assign [tg] (.Tuple es k2 pt2) pos) (sTg (tgW t) ea) := ws_asg hg ha hs ((swapped_env x.hsc).trans hw) h1
/-! the same by tables -/
def mkT (ini : Nat → Option Nat) (val : Nat → Bool) (Φ : Fns) (c : Nat) (ws : List W) (h : WH) : R W := match ini c with
  | none => .no
  | some f => (Φ f (.ref h.length :: ws) (h ++ [.ins c [] []])).bind fun v h2 => match v with
    | .non => if val c then (match h2[h.length]? with
        | some (.ins c' fs vs) => .ok (.ins c' fs vs) (gc h.length (.ins c' fs vs) h (h2.set h.length .dead))
        | _ => .no) else .ok (.ref h.length) h2
    | _ => .no
def dMk (ini : Nat → Option Nat) (val : Nat → Bool) (Φ : Fns) (c : Nat) (a : EA) : EV := fun sw h => (a sw h).bind (mkT ini val Φ c)
theorem we_mkT (x : XOk A N sc X) (C : COk A Φ n X) {c f : Nat} {nm : Str} (hi : A.ini c = some f) (hg : A.gt.lookup nm = some (.cls c)) (h : gloB sc nm = true) (ha : WA A X (e :: es) aa) (h3 : (e :: es).all nonStar = true) : WE A X (.Call (.Name nm p) (e :: es) [] pos) (dMk A.ini A.val Φ c aa) :=
  we_mk x C hi hg h ha h3
def dMt (mt : Nat → Nat → Option Nat) (Φ : Fns) (m : Nat) (o : EV) (a : EA) : EV := fun sw h => (o sw h).bind fun x h1 => match insOf h1 x with
  | some (c, _, _) => (match mt c m with | some f => (a sw h1).bind fun ws h2 => Φ f (x :: ws) h2 | none => .no)
  | none => .no
theorem we_mtT (x : XOk A N sc X) (C : COk A Φ n X) {m : Nat} {nm : Str} (hn : A.mn m = nm) (ho : WE A X a ea) (ha : WA A X (e :: es) aa) (h3 : (e :: es).all nonStar = true) {pl : Sem Bool}
    (ht : eval (.Call (.Attribute a nm apos) (e :: es) [] pos) X.env = (do
      let ov ← eval a X.env
      standAt apos.atName
      let (f, first) ← holding [ov] (getMethod ov nm pl)
      callWith pos f first (backTo pos (starEach (e :: es) X.env)) (backToKw pos (keywordEach [] X.env)))) :
    WE A X (.Call (.Attribute a nm apos) (e :: es) [] pos) (dMt A.mt Φ m ea aa) := we_meth x C hn ho ha h3 ht
theorem we_mtT0 (x : XOk A N sc X) (C : COk A Φ n X) {m : Nat} {nm : Str} (hn : A.mn m = nm) (ho : WE A X a ea) {pl : Sem Bool}
    (ht : eval (.Call (.Attribute a nm apos) [] [] pos) X.env = (do
      let ov ← eval a X.env
      standAt apos.atName
      let (f, first) ← holding [ov] (getMethod ov nm pl)
      callWith pos f first (backTo pos (starEach [] X.env)) (backToKw pos (keywordEach [] X.env)))) :
    WE A X (.Call (.Attribute a nm apos) [] [] pos) (dMt A.mt Φ m ea aNil) := we_meth0 x C hn ho ht
def fStF (lay : Nat → Nat → Bool) (o : W) (f : Nat) (v : W) (h : WH) : Option WH := match o with
  | .ref a => match h[a]? with
    | some (.ins c fs vs) => if lay c f = true ∧ fs.length < 900 then some (h.set a (.ins c (putFs f fs) (putVs f v fs vs))) else none
    | _ => none
  | _ => none
def sStF (lay : Nat → Nat → Bool) (o : EV) (f : Nat) (v : EV) : EW := fun sw h => (v sw h).st sw fun x h1 => (o sw h1).st sw fun y h2 => match fStF lay y f x h2 with | some h4 => .ok (.next sw) h4 | none => .no
theorem s_stF (x : XOk A N sc X) (F : FldOk A) {f : Nat} {nm : Str} (hn : A.fn f = nm) (ho : WE A X a ea) (hv : WE A X b eb) {tp : Pos} : WSt A X (.Assign [.Attribute a nm tp] b pos) (sStF A.lay ea f eb) := ws_setF x F hn ho hv
end
end KW

set_option Elab.async false
set_option linter.all false
set_option maxRecDepth 100000
set_option maxHeartbeats 4000000
/-! enumerate over a tuple or a list -/
namespace KW
open PySem L2 PySem.Spec PyProof.Rows
/-- enumerate over a tuple -/
def ItU (K : PySem.W.Frag) (a : Addr) : It :=
  ⟨fun i H => ∃ (xs : List V) (x : V), SqT K H a xs ∧ xs[i]? = some x, fun i H v H' => ∃ T x, v = .ref T ∧ H T = none ∧ H' = upd H T (.tup [.int (i : Nat), x]) ∧ ∀ xs, SqT K H a xs → xs[i]? = some x, fun i H => ∃ xs : List V, SqT K H a xs ∧ xs.length = i⟩
theorem turn_enumT {P : Program} {w : World} {K : PySem.W.Frag} {elts : List Expr} {kk : Nat} {tpos : Pos} (a e it : Addr) :
    Turn P w K (.Tuple elts kk tpos) (ItU K a) [e, it] e (fun i h => (∃ old, IsEnum h e it ((i : Nat) : Int) old) ∧ h.IsTupleIter it a i ∧ e ≠ it ∧ a ≠ it ∧ a ≠ e) where
  mem := by simp
  obj := by
    rintro i h ⟨⟨old, he⟩, ⟨o, ho, hc, hd⟩, _⟩ b hb
    rcases List.mem_cons.mp hb with z | z
    · rw [z]; exact ⟨_, he, fun v q => nomatch q⟩
    · rw [List.mem_singleton.mp z]
      exact ⟨o, ho, fun v q => by rw [hd] at q; cases q⟩
  keep := by
    rintro i h h' ⟨⟨old, he⟩, hi, hn⟩ k
    exact ⟨⟨old, k e (List.mem_cons_self ..) _ he⟩, hi.at fun o q => k it (by simp) o q, hn⟩
  item := by
    intro X hP hw hK hc i pins s σ H E I hf st hg
    subst hP; subst hw; subst hK
    obtain ⟨⟨old, he⟩, hit, hn1, hn2, hn3⟩ := st
    obtain ⟨xs, x, hq, hx⟩ := hg
    obtain ⟨its, rv, p, _⟩ := I.tuple hq
    obtain ⟨u, hu, ru⟩ := rv.get hx
    have hu' : its.toArray[i]? = some u := by simpa using hu
    have hlt : i < its.toArray.size := (Array.getElem?_eq_some_iff.mp hu').1
    have le1 : e < s.heap.objs.size := Heap.lt_size he
    have le2 : it < s.heap.objs.size := by obtain ⟨_, q, _⟩ := hit; exact Heap.lt_size q
    have hh : X.A.in1.handled = none := by simp [I.ok.hd hc]
    have D := Draws.tuple (prog := X.prog) (w := X.w) hh it a hn2 its.toArray
    refine wpAny_pyNext_enum_itemC D he ⟨hit, p⟩ hlt hn1 (by simp [hn1, hn3.symm]) fun y h' tk hy ho hst hT hsz hk => ?_
    have ey : y = u := Option.some.inj (hy.symm.trans hu')
    subst ey
    refine ⟨_, rfl, wpAny_letOwnedTupleGo_enum (s := { s with heap := h', toks := tk + 1 }) ho fun h2 he2 sb => ?_⟩
    have hT2 : h2.get? s.heap.objs.size = some { cls := .type "tuple", data := .seq #[.int i tk, y] } := (sb.2 _ (Nat.ne_of_gt le1)).trans hT
    have ob : ObjOk X.prog X.w (upd H s.heap.objs.size (.tup [.int (i : Nat), x])) h2 s.heap.objs.size (.tup [.int (i : Nat), x]) :=
      ⟨by show 2 ≤ sizeLine; decide, [.int i tk, y], .cons ⟨_, rfl⟩ (.cons ru .nil), ⟨_, hT2, rfl, _, rfl⟩⟩
    have I2 : Inv X pins σ (upd H s.heap.objs.size (.tup [.int (i : Nat), x])) { s with heap := h2, toks := tk + 1 } :=
      I.turnedNew (ch := [e, it]) (fun b o hb q => (sb.2 b fun z => hb (by simp [z])).trans (hk b o (fun z => hb (by simp [z])) (fun z => hb (by simp [z])) q)) hf (Nat.le_refl _) ob
    refine ⟨.ref s.heap.objs.size, _, I2, rfl, ⟨_, x, rfl, I.hok.fresh (Nat.le_refl _), rfl, fun ys hy => by rw [I.tuple_inj hy hq]; exact hx⟩, ⟨⟨y, ?_⟩, ?_, hn1, hn2, hn3⟩, fun b hb => ?_⟩
    · rw [show ((i + 1 : Nat) : Int) = (i : Int) + 1 from by omega]
      exact he2
    · exact hst.1.at fun o q => (sb.2 it hn1.symm).trans q
    · have lb : b < s.heap.objs.size := by
        rcases List.mem_cons.mp hb with z | z
        · exact z ▸ le1
        · exact List.mem_singleton.mp z ▸ le2
      rw [upd_ne (Nat.ne_of_lt lb)]
      exact (hf b hb).1
  done := by
    intro X hP hw hK hc i pins s σ H E I hf st hg
    subst hP; subst hw; subst hK
    obtain ⟨⟨old, he⟩, hit, hn1, hn2, hn3⟩ := st
    obtain ⟨xs, hq, hx⟩ := hg
    obtain ⟨its, rv, p, _⟩ := I.tuple hq
    obtain ⟨f0, f1, f2, f3, f4, f5⟩ := hf it (by simp)
    have ln : its.toArray.size = i := by rw [List.size_toArray, ← rv.length]; exact hx
    have hh : X.A.in1.handled = none := by simp [I.ok.hd hc]
    have D := Draws.tuple (prog := X.prog) (w := X.w) hh it a hn2 its.toArray
    exact wpAny_pyNext_enum_endD D he ⟨ln ▸ hit, p⟩ fun h' eb => ⟨rfl, I.turned (t' := s.toks) (fun b o hb q => eb b o hb q) f0 f1 f3 f4 f5⟩
  self := fun A i s Q E st h => let ⟨⟨_, he⟩, _⟩ := st; wpAny_pyIter_enum he h

/-- enumerate(t): its two new cells -/
theorem meets_enumT (l : Addr) (items : Array Value) :
    Meets (Builtin.«enumerate.__new__» ⟨[.type "enumerate", .ref l], []⟩) (fun _ R s => s.heap.IsTuple l items ∧
      R (.ok (.ret (.ref (s.heap.objs.size + 1)))) { s with heap := (s.heap.push { cls := .type "tuple_iterator", data := .fields #[.ref l, .int 0 0] }).push { cls := .type "enumerate", data := .fields #[.none, .bool false, .ref s.heap.objs.size, rawInt 0, .none, .none] } }) :=
  .of_wp fun prog w A R s h => by
    obtain ⟨hp, g, d, tk, os⟩ := s
    obtain ⟨ht, h⟩ := h
    have hsub := sub_enumerate
    have hz : (hp.push { cls := .type "tuple_iterator", data := .fields #[.ref l, .int 0 0] }).objs.size = hp.objs.size + 1 := Heap.size_push ..
    have q1 : ∀ {A' : Around} {E : Value → Shared → Prop} {Q : Value → Shared → Prop}, Q (.ref hp.objs.size) ⟨hp.push { cls := .type "tuple_iterator", data := .fields #[.ref l, .int 0 0] }, g, d, tk, os⟩ → wpAny (model prog w) A' (pyIter (.ref l)) Q E ⟨hp, g, d, tk, os⟩ :=
      fun q => wpAny_pyIter_tuple (s := ⟨hp, g, d, tk, os⟩) ht q
    wp_walk using q1
    refine wpAny_stack_any fun st => wpAny_pure ?_
    split
    · rename_i c _ _ _ _ _
      cases (c == Value.type "enumerate")
      · wp_walk using q1
        exact ⟨_, rfl, hz ▸ h⟩
      · wp_walk using q1
        exact ⟨_, rfl, hz ▸ h⟩
    · wp_walk using q1
      exact ⟨_, rfl, hz ▸ h⟩
theorem call_enumT {prog : Program} {w : World} {A : Around} {E : Value → Shared → Prop} {s : Shared} {l : Addr} {items : Array Value} {Q : Value → Shared → Prop} (hL : s.heap.IsTuple l items)
    (h : ∀ h', IsEnum h' (s.heap.objs.size + 1) s.heap.objs.size 0 .none → h'.IsTupleIter s.heap.objs.size l 0 → (∀ b o, s.heap.get? b = some o → h'.get? b = some o) → Q (.ref (s.heap.objs.size + 1)) { s with heap := h' }) :
    wpAny (model prog w) A (call (.type "enumerate") [.ref l]) Q E s := by
  refine callType_new F.called_enumerate (by decide) (F.typeCall_enumerate_1 _) (F.newCall_enumerate_1 _) (fun obj => F.args_object_init_2 obj _) F.entry_enumerate_new (meets_enumT l items) ⟨hL, ?_⟩
  have hz : (s.heap.push { cls := .type "tuple_iterator", data := .fields #[.ref l, .int 0 0] }).objs.size = s.heap.objs.size + 1 := Heap.size_push ..
  have he := Heap.get?_push_size (s.heap.push { cls := .type "tuple_iterator", data := .fields #[.ref l, .int 0 0] }) (o := { cls := .type "enumerate", data := .fields #[.none, .bool false, .ref s.heap.objs.size, rawInt 0, .none, .none] }) rfl
  rw [hz] at he
  exact ⟨⟨_, he, rfl⟩, h _ he ⟨_, Heap.get?_push_of_some _ (Heap.get?_push_size _ rfl), rfl, rfl⟩ fun b o x => Heap.get?_push_of_some _ (Heap.get?_push_of_some _ x)⟩
def iEnumT (K : PySem.W.Frag) (ta : TA) : TI := fun σ H R => ta σ H fun vs H1 => ∃ a xs, vs = [.ref a] ∧ SqT K H1 a xs ∧ R (ItU K a) H1
theorem pi_enumT {X : Cx} {e : Expr} {ta : TA} {p pos tpos : Pos} {elts : List Expr} {kk : Nat} (hg : Gl X "enumerate") (hm : X.mg "enumerate" = none) (ha : PA X [e] ta) (hs : starEach [e] X.env = [(false, eval e X.env)]) :
    PI X (.Tuple elts kk tpos) (.Call (.Name "enumerate" p) [e] [] pos) (iEnumT X.K ta) := by
  refine ⟨fun pins s σ H R I h => ?_⟩
  refine Call_ (ld_blt I hg hm boot_enumerate (PyProof.Rows.callWith_type1 (thn (ha.run pos pins s σ H _ I h) fun us s1 ⟨vs, H1, I1, r1, a, xs, ex, hq, q⟩ => ?_) hs rfl))
  subst ex
  obtain ⟨u, rfl, ru⟩ := r1.one
  cases ru
  obtain ⟨its, rv, pl, hz⟩ := I1.tuple hq
  have la : a < s1.heap.objs.size := by obtain ⟨_, q, _⟩ := pl; exact Heap.lt_size q
  refine call_enumT pl fun h' he hit hk => wpAny_pyIter_enum he ?_
  have I2 : Inv X pins σ H1 { s1 with heap := h' } := I1.kept (t' := s1.toks) hk
  refine ⟨s1.heap.objs.size + 1, [s1.heap.objs.size + 1, s1.heap.objs.size], _, _, H1, rfl, I2, turn_enumT a (s1.heap.objs.size + 1) s1.heap.objs.size, ⟨⟨.none, he⟩, hit, Nat.succ_ne_self _, Nat.ne_of_lt la, Nat.ne_of_lt (Nat.lt_succ_of_lt la)⟩, fun b hb => ?_, q⟩
  have hle : s1.heap.objs.size ≤ b := by
    rcases List.mem_cons.mp hb with z | z
    · rw [z]; exact Nat.le_succ _
    · rw [List.mem_singleton.mp z]; exact Nat.le_refl _
  exact I1.fpOk hle (I1.hok.fresh hle)

/-! ### as values -/
def enumW (ws : List W) : List W := ws.zipIdx.map fun p => .tup [.int (p.2 : Nat), p.1]
theorem enumW_get {ws : List W} {i : Nat} {w : W} (h : (enumW ws)[i]? = some w) : ∃ x, ws[i]? = some x ∧ w = .tup [.int (i : Nat), x] := by
  simp only [enumW, List.getElem?_map, List.getElem?_zipIdx, Option.map_map, Option.map_eq_some_iff] at h
  obtain ⟨x, e, rfl⟩ := h
  exact ⟨x, e, by simp⟩
theorem enumW_len {ws : List W} : (enumW ws).length = ws.length := by simp [enumW]
theorem pair_new {G : Gx} {k : Ka} {H : Hp} {h : WH} {T : Addr} {i : Int} {w : W} {v : V} (x : HRep G k H h) (hT : H T = none) (r : Rep G k w v) :
    ∃ k', Nxt k H k' (upd H T (.tup [.int i, v])) ∧ HRep G k' (upd H T (.tup [.int i, v])) h ∧ Rep G k' (.tup [.int i, w]) (.ref T) := by
  refine ⟨k.froz T (.tup [.int i, v]), Nxt.froz x hT, x.froz hT, ?_⟩
  simp only [Rep]
  refine ⟨T, _, rfl, .inl (.inl upd_same), ?_⟩
  simp only [RepL]
  exact ⟨_, _, rfl, by simp only [Rep], _, _, rfl, r.mono (Nxt.froz x hT (o := .tup [.int i, v])).le, rfl⟩
theorem walks_enumT {G : Gx} {k : Ka} {H : Hp} {p : Addr} {ws : List W} {vs : List V} (q : SqT G.K k.F p vs) (r : RepL G k ws vs) : Walks G (ItU G.K p) k H (enumW ws) none where
  go := fun i k2 H2 h2 n2 x2 _ hi => by
    rw [enumW_len] at hi
    exact ⟨vs, vs[i]'(by rw [r.length]; exact hi), Ka.Le.seqT x2.sub (Ka.Le.seqT n2.le.F q), by simp⟩
  stop := fun k2 H2 h2 n2 x2 _ => ⟨vs, Ka.Le.seqT x2.sub (Ka.Le.seqT n2.le.F q), by rw [r.length, enumW_len]⟩
  yld := fun i k2 H2 h2 y H3 w n2 x2 _ e yy => by
    obtain ⟨T, v, rfl, hT, rfl, yy⟩ := yy
    obtain ⟨x, e2, rfl⟩ := enumW_get e
    obtain ⟨v2, e3, r3⟩ := (r.mono n2.le).get e2
    have e4 := yy vs (Ka.Le.seqT x2.sub (Ka.Le.seqT n2.le.F q))
    rw [e3] at e4; cases e4
    exact pair_new x2 hT r3
theorem walks_enumF {G : Gx} {k : Ka} {H : Hp} {p : Addr} {ws : List W} {vs : List V} (q : k.F p = some (.lst vs)) (r : RepL G k ws vs) : Walks G (Ite G.K p) k H (enumW ws) none where
  go := fun i k2 H2 h2 n2 x2 _ hi => by
    rw [enumW_len] at hi
    exact ⟨vs, vs[i]'(by rw [r.length]; exact hi), SqL.of (x2.sub _ _ (n2.le.F _ _ q)), by simp⟩
  stop := fun k2 H2 h2 n2 x2 _ => ⟨vs, SqL.of (x2.sub _ _ (n2.le.F _ _ q)), by rw [r.length, enumW_len]; exact Nat.le_refl _⟩
  yld := fun i k2 H2 h2 y H3 w n2 x2 _ e yy => by
    obtain ⟨T, v, rfl, hT, rfl, yy⟩ := yy
    obtain ⟨x, e2, rfl⟩ := enumW_get e
    obtain ⟨v2, e3, r3⟩ := (r.mono n2.le).get e2
    have e4 := yy vs (SqL.of (x2.sub _ _ (n2.le.F _ _ q)))
    rw [e3] at e4; cases e4
    exact pair_new x2 hT r3
/-- over enumerate(a tuple or a frozen list) -/
def iEnumW (a : EV) : EI := fun sw h => (a sw h).bind fun w h1 => match w with
  | .tup ws => .ok (enumW ws, none) h1
  | .lst ws => .ok (enumW ws, none) h1
  | _ => .no
section
variable {A : Ax} {X : Cx} {N : List Str} {sc : Scope} {a : Expr} {ea : EV} {p pos tpos : Pos} {elts : List Expr} {kk : Nat}
theorem i_enum (x : XOk A N sc X) (hg : A.gt.lookup ("enumerate" : Str) = some .blt) (h : gloB sc ("enumerate" : Str) = true) (ha : WE A X a ea) (h3 : nonStar a = true) : WI A X (.Tuple elts kk tpos) (.Call (.Name "enumerate" p) [a] [] pos) (iEnumW ea) := fun wx tk =>
  PI_imp (PI_or (pi_enum (gl_of x (gloB_ok h).1) (x.glob.blt _ hg) (pa_cons (ha wx tk) pa_nil (star_ok h3)) (star_ok h3)) (pi_enumT (gl_of x (gloB_ok h).1) (x.glob.blt _ hg) (pa_cons (ha wx tk) pa_nil (star_ok h3)) (star_ok h3))) fun σ H Q ⟨k, sw, h, hs, hh, d⟩ => by
    have d0 := DenI.bind (rp := Rep A.toGx) d
    have d1 : DenI A.toGx wx k H σ (iEnumW ea sw h) Q := d
    unfold iEnumW at d1
    cases er : ea sw h with
    | no => rw [er] at d0; exact d0.elim
    | exc c fs vs h1 => rw [er] at d0; exact .inl ⟨k, sw, h, hs, hh, by rw [er]; exact d0⟩
    | ok w h1 =>
      rw [er] at d1
      dsimp only [R.bind] at d1
      have E : ∀ {Q' : VK}, (∀ v k' H', Nxt k H k' H' → HRep A.toGx k' H' h1 → Rep A.toGx k' w v → Q' v H') → TEx A.toGx wx ea σ H Q' := fun q => ⟨k, sw, h, hs, hh, by rw [er]; exact q⟩
      rw [x.hK]
      cases w <;> dsimp only at d1 <;> first | exact d1.elim | skip
      · refine .inr (E fun v k' H' n x r => ?_)
        simp only [Rep] at r
        obtain ⟨p, vs, rfl, q, r⟩ := r
        exact ⟨p, vs, rfl, Ka.Le.seqT x.sub q, d1 _ k' H' n x (walks_enumT q r)⟩
      · refine .inl (E fun v k' H' n x r => ?_)
        simp only [Rep] at r
        obtain ⟨p, vs, rfl, q, r⟩ := r
        exact ⟨p, vs, rfl, SqL.of (x.sub _ _ q), d1 _ k' H' n x (walks_enumF q r)⟩
end
end KW

set_option Elab.async false
set_option linter.all false
set_option maxRecDepth 100000
set_option maxHeartbeats 4000000
/-! len(set(texts)) -/
namespace KW
open PySem L2 PySem.Spec PyProof.Rows
/-- the unlike ones, in order -/
def unlike (xs : List Str) : List Str := xs.foldl (fun acc x => if x ∈ acc then acc else acc ++ [x]) []
theorem unlike_snoc (xs : List Str) (x : Str) : unlike (xs ++ [x]) = if x ∈ unlike xs then unlike xs else unlike xs ++ [x] := by
  rw [unlike, List.foldl_append]; rfl
theorem mem_foldl (y : Str) : ∀ (xs acc : List Str), y ∈ xs.foldl (fun acc x => if x ∈ acc then acc else acc ++ [x]) acc ↔ y ∈ acc ∨ y ∈ xs
  | [], acc => by simp
  | x :: xs, acc => by
    rw [List.foldl_cons, mem_foldl y xs]
    split
    · rename_i h
      constructor
      · rintro (q | q)
        · exact .inl q
        · exact .inr (List.mem_cons_of_mem _ q)
      · rintro (q | q)
        · exact .inl q
        · rcases List.mem_cons.mp q with e | q
          · exact .inl (e ▸ h)
          · exact .inr q
    · simp [or_assoc]
theorem mem_unlike {y : Str} {xs : List Str} : y ∈ unlike xs ↔ y ∈ xs := by rw [unlike, mem_foldl]; simp
theorem unlike_len : ∀ (xs acc : List Str), (xs.foldl (fun acc x => if x ∈ acc then acc else acc ++ [x]) acc).length ≤ acc.length + xs.length
  | [], acc => by simp
  | x :: xs, acc => by
    rw [List.foldl_cons]
    have := unlike_len xs (if x ∈ acc then acc else acc ++ [x])
    by_cases z : x ∈ acc
    · simp only [if_pos z, List.length_cons] at this ⊢
      omega
    · simp only [if_neg z, List.length_cons, List.length_append, List.length_nil] at this ⊢
      omega
abbrev emptySet (led : Bool) : Obj := { cls := .type "set", dict := none, data := .set #[] 0 (.fresh 0 0 led) }
section
variable {prog : Program} {w : World} {A : Around} {R : Result → Shared → Prop} {I : Addr} {fp wr : List Addr} {G : Array GenState → Array GenState → Prop} {n : Nat} {P : Nat → Value → Prop} {St : Nat → Shared → Prop}
/-- what the set holds after i items -/
abbrev HasTo (prog : Program) (w : World) (h : Heap) (S : Addr) (xs : List Str) : Prop := h.SetOf (PySem.strKind prog w) S (fun k => decide (k ∈ xs)) (unlike xs).length
theorem HasTo.at {S : Addr} {xs : List Str} {h h' : Heap} (x : HasTo prog w h S xs) (k : ∀ o, h.get? S = some o → h'.get? S = some o) : HasTo prog w h' S xs := by
  obtain ⟨o, es, ep, t, ho, rest⟩ := x
  exact ⟨o, es, ep, t, k o ho, rest⟩
theorem fillTexts (W : WalksS prog w A.in1 I fp wr G n P St) (S : Addr) (hSf : S ∉ fp) (xs : List Str) (hsz : xs.length = n) (hn : n < 4000) (hval : ∀ i v, P i v → ∃ x t, xs[i]? = some x ∧ v = .str x t) :
    ∀ (k i : Nat) (s : Shared), n - i = k → i ≤ n → St i s → HasTo prog w s.heap S (xs.take i) → (∀ s', Moved (S :: wr) G s s' → HasTo prog w s'.heap S xs → R (.ok (.ret .none)) s') →
      codeAny (model prog w) A (.builtin "set.update.loop" ⟨[.ref S, .ref I], []⟩) R s := by
  have nw : S ∉ wr := fun q => hSf (W.sub _ q)
  have up : ∀ b ∈ wr, b ∈ S :: wr := fun b q => List.mem_cons_of_mem _ q
  intro k
  induction k with
  | zero =>
    intro i s e1 e2 st hS fin
    obtain rfl : i = n := Nat.le_antisymm e2 (Nat.le_of_sub_eq_zero e1)
    rw [List.take_of_length_le (Nat.le_of_eq hsz)] at hS
    refine codeAny_builtin F.entry_set_update_loop ?_
    rw [Around.under_plainId F.plain_set_update_loop _]
    refine wpAny_bind (W.done s _ _ st fun s1 mv => ?_)
    exact wpAny_pure (fin s1 (mv.mono up) (hS.at fun o q => mv.heap S o nw q))
  | succ k ih =>
    intro i s e1 e2 st hS fin
    have lt : i < n := by omega
    refine codeAny_builtin F.entry_set_update_loop ?_
    rw [Around.under_plainId F.plain_set_update_loop _]
    refine wpAny_bind (W.item i s _ _ lt st fun v s1 hv st1 mv => ?_)
    obtain ⟨x, t, ex, rfl⟩ := hval i v hv
    have hS1 : HasTo prog w s1.heap S (xs.take i) := hS.at fun o q => mv.heap S o nw q
    show wpAny _ A.in1 (holding [Value.str x t] (setAdd S (.str x t)) >>= _) _ _ s1
    refine wpAny_bind (wpAny_holding ?_)
    unfold setAdd
    have ln : (unlike (xs.take i)).length ≤ i := by
      have := unlike_len (xs.take i) []
      simp only [List.length_nil, Nat.zero_add, List.length_take] at this
      exact Nat.le_trans this (Nat.min_le_left ..)
    refine wpAny_holding (wpAny_bind ((PySem.strKind prog w).pyHash (k := x) (strKind_is _ _ _ _) ?_))
    refine wpAny_setAddHashed_of (knd := PySem.strKind prog w) (s := { s1 with toks := s1.toks + 1 }) (strKind_is _ _ _ _) rfl hS1 (by unfold scanBound; omega) fun h2 sb hS2 => ?_
    have e3 : xs.take (i + 1) = xs.take i ++ [x] := by rw [List.take_add_one, ex]; rfl
    have hS3 : HasTo prog w h2 S (xs.take (i + 1)) := by
      refine SetOf_congr hS2 (fun y => ?_) ?_
      · rw [e3]
        simp [List.mem_append]
      · rw [e3, unlike_snoc]
        by_cases z : x ∈ xs.take i
        · rw [if_pos (decide_eq_true z), if_pos (mem_unlike.mpr z)]
        · rw [if_neg (by simpa using z), if_neg (fun q => z (mem_unlike.mp q)), List.length_append]; rfl
    refine wpAny_pure ⟨plainId_quiet F.plain_set_update_loop _, ih (i + 1) _ (by omega) lt (W.frame _ s1 _ _ st1 (Nat.le_succ _) fun b hb o q => ?_) hS3 fun s2 mv2 hS4 => fin s2 ?_ hS4⟩
    · rw [sb.2 b fun z : b = S => hSf (z ▸ hb)]; exact q
    · refine Moved.trans W.gtrans ((mv.mono up).then_heap (Nat.le_succ _) fun b o hb q => ?_) mv2
      rw [sb.2 b fun z : b = S => hb (z ▸ List.mem_cons_self ..)]; exact q
end
section
variable {prog : Program} {w : World} {A : Around} {E : Value → Shared → Prop} {s : Shared}
theorem texts_at : ∀ {us : List Value} {xs : List Str} {i : Nat} {v : Value}, StrsAre us xs → us[i]? = some v → ∃ x t, xs[i]? = some x ∧ v = .str x t
  | _, _, i, v, .nil, h => by simp at h
  | _, _, 0, v, .cons n t hr, h => by
    simp only [List.getElem?_cons_zero, Option.some.injEq] at h
    exact ⟨_, t, rfl, h.symm⟩
  | _, _, i + 1, v, .cons n t hr, h => by
    rw [List.getElem?_cons_succ] at h ⊢
    exact texts_at hr h
theorem call_setT {l : Addr} {items : Array Value} {xs : List Str} {Q : Value → Shared → Prop} (hh : A.handled = none) (hl : s.heap.IsTuple l items) (hi : StrsAre items.toList xs) (hn : xs.length < 4000)
    (h : ∀ (h' : Heap) (tk : Nat), HasTo prog w h' s.heap.objs.size xs → (∀ b o, s.heap.get? b = some o → h'.get? b = some o) → Q (.ref s.heap.objs.size) { s with heap := h', toks := tk }) :
    wpAny (model prog w) A (call (.type "set") [.ref l]) Q E s := by
  obtain ⟨c, tl, hmro⟩ := F.called_set.mro
  have k1 := F.called_set.made
  have k2 := F.called_set.sub
  refine wpAny_call (codeAny_of_tree ?_)
  show wpAny _ _ (callAny (.type "set") _) _ _ _
  refine wpAny_pure ⟨Code.quiet_builtin _ (by decide +kernel), codeAny_builtin F.entry_type_call ?_⟩
  rw [Around.under_plain (weight_type_call_type "set" [.ref l] []) rfl]
  have k3 := F.called_set.notType
  have k4 := F.called_set.canCreate
  have k5 := F.typeCall_set_1 (.ref l)
  repeat (any_goals (first | assumption | wp_step))
  refine codeAny_mono (code_set_new_1 (.ref l) (E := E) (Q₁ := fun ob s1 => ∃ led : Bool, ob = .ref s.heap.objs.size ∧ s1 = { s with heap := s.heap.push (emptySet led) }) fun led => ⟨led, rfl, rfl⟩) fun r s1 hr => ?_
  cases r with
  | error e => exact hr
  | ok fl =>
    cases fl with
    | ret ob =>
      obtain ⟨led, rfl, rfl⟩ := hr
      have hS : (s.heap.push (emptySet led)).get? s.heap.objs.size = some (emptySet led) := Heap.get?_push_size _ rfl
      have hT : Shared.TypeIs { s with heap := s.heap.push (emptySet led) } (.ref s.heap.objs.size) "set" := ⟨_, hS, rfl⟩
      have k6 := F.called_set.init.lookup
      have k7 := F.called_set.init.bind (.ref s.heap.objs.size)
      repeat (any_goals (first | assumption | wp_step))
      refine codeAny_mono (codeAny_call_builtin (R := wants (fun r s2 => r = .none ∧ ∃ h' tk, s2 = { s with heap := h', toks := tk } ∧ HasTo prog w h' s.heap.objs.size xs ∧ (∀ b o, s.heap.get? b = some o → h'.get? b = some o)) E)
        F.called_set.init.plain F.entry_set_init (check_set_init_1 hT ?_)) fun r2 s2 hr2 => ?_
      · obtain ⟨⟨cl, dc, dt, sl⟩, ho, e1, nl, e2⟩ := hl
        simp only at e1 e2
        subst e1 e2
        have ho2 : (s.heap.push (emptySet led)).get? l = some { cls := .type "tuple", dict := dc, data := .seq items nl, slots := sl } := Heap.get?_push_of_some _ ho
        have k8 := F.sub_tuple_set
        have k9 := F.sub_tuple_frozenset
        have ne : (Value.type "tuple" == Value.type "dict") = false := by decide
        have hl2 : (s.heap.push (emptySet led)).IsTuple l items := ⟨_, ho2, rfl, nl, rfl⟩
        unfold Builtin.«set.__init__» noKeywords Builtin.Frozenset.updateFrom
        generalize hPI : pyIter = PI
        wp_walk
        subst hPI
        refine wpAny_pyIter_tuple hl2 (wpAny_bind (wpAny_runValue ?_))
        have lS : l < s.heap.objs.size := Heap.lt_size ho
        have hh3 : A.in1.in1.in1.handled = none := by simp [hh]
        have zz : (s.heap.push (emptySet led)).objs.size = s.heap.objs.size + 1 := Heap.size_push ..
        have nI : l ≠ (s.heap.push (emptySet led)).objs.size := by rw [zz]; exact Nat.ne_of_lt (Nat.lt_succ_of_lt lS)
        have nS : s.heap.objs.size ∉ [(s.heap.push (emptySet led)).objs.size, l] := by
          rw [zz]
          simp only [List.mem_cons, List.not_mem_nil, or_false, not_or]
          exact ⟨Nat.ne_of_lt (Nat.lt_succ_self _), Nat.ne_of_gt lS⟩
        have sz : xs.length = items.size := by rw [← StrsAre.len_eq hi, Array.length_toList]
        refine fillTexts ((Walks.tuple hh3 _ l nI items).toS) s.heap.objs.size nS xs sz (by omega) (fun i v hv => texts_at hi (by rw [Array.getElem?_toList]; exact hv)) (items.size - 0) 0 _ rfl (Nat.zero_le _)
          ⟨⟨_, Heap.get?_push_size _ rfl, rfl, rfl⟩, hl2.push _⟩ ?first ?last
        case first =>
          have g := Heap.get?_push_of_some { cls := .type "tuple_iterator", data := .fields #[.ref l, .int 0 0] } hS
          exact SetOf_congr ((setObjOf_fresh (knd := PySem.strKind prog w) led).setOf g (by unfold scanBound; omega)) (fun _ => by simp) (by simp [unlike])
        case last =>
          intro s3 mv hS3
          obtain ⟨h3, g3, d3, t3, o3⟩ := s3
          obtain rfl : g3 = s.gens := mv.gens
          obtain rfl : d3 = s.drawn := mv.drawn
          obtain rfl : o3 = s.os := mv.os
          show wpAny _ _ _ _ _ _
          refine wpAny_pure ?_
          show wpAny _ _ (ret Value.none) _ _ _
          refine wpAny_pure ⟨rfl, h3, t3, rfl, hS3, fun b o q => ?_⟩
          have lb := Heap.lt_size q
          refine mv.heap b o ?_ (Heap.get?_push_of_some _ (Heap.get?_push_of_some _ q))
          rw [zz]
          simp only [List.mem_cons, List.not_mem_nil, or_false, not_or]
          exact ⟨Nat.ne_of_lt lb, Nat.ne_of_lt (Nat.lt_succ_of_lt lb)⟩
      · cases r2 with
        | error e => exact hr2
        | ok f2 =>
          cases f2 with
          | ret r =>
            obtain ⟨rfl, h2, tk, rfl, hS2, hk2⟩ := hr2
            repeat (any_goals (first | assumption | wp_step))
            exact h _ _ hS2 hk2
          | _ => exact hr2.elim
    | _ => exact hr.elim
end
/-- len(set(t)), t a tuple of texts -/
def tLenSetT (K : PySem.W.Frag) (ta : TE) : TE := fun σ H Q => ta σ H fun x H1 => ∃ l, ∃ xs : List Str, x = .ref l ∧ SqT K H1 l (xs.map V.str) ∧ xs.length < 4000 ∧ Q (.int (unlike xs).length) H1
theorem pe_lenSetT {X : Cx} {a : Expr} {ta : TE} {p p2 q pos : Pos} (hc : X.calm = true) (hg : Gl X "len") (hm : X.mg "len" = none) (hg2 : Gl X "set") (hm2 : X.mg "set" = none) (ha : PE X a ta)
    (na : starEach [a] X.env = (false, eval a X.env) :: starEach [] X.env) : PE X (.Call (.Name "len" p) [.Call (.Name "set" p2) [a] [] q] [] pos) (tLenSetT X.K ta) := by
  refine ⟨fun pins s σ H Q I h => Call_ (ld_blt I hg hm boot_len ?_)⟩
  refine PyProof.Rows.callWith_builtin1 (PyProof.Rows.args_cons ?_ rfl) rfl rfl
  refine Call_ (ld_blt I hg2 hm2 boot_set ?_)
  refine PyProof.Rows.callWith_type1 (PyProof.Rows.args_cons (thn (ha.run pins s σ H _ I h) fun v s1 ⟨x, H1, I1, r1, l, xs, ex, hq, hn, q1⟩ => PyProof.Rows.args_nil ?_) na) na rfl
  subst ex
  cases r1
  obtain ⟨its, r, pl, hz⟩ := I1.tuple hq
  refine call_setT (I1.ok.hd hc) pl (by simpa using strsAre_of r) hn fun h' tk hS hk => PyProof.Rows.args_nil ?_
  obtain ⟨o, es, ep, t, ho, hex, hd, _, _, _, hf, ec⟩ := hS
  have I2 : Inv X pins σ H1 { s1 with heap := h', toks := tk } := I1.kept hk
  have ln := unlike_len xs []
  simp only [List.length_nil, Nat.zero_add] at ln
  have ec2 : es.size = (unlike xs).length := ec
  exact call_len_set ho hex hd hf (by rw [ec2]; have : (unlike xs).length < 4000 := Nat.lt_of_le_of_lt ln hn; omega) ⟨.int (unlike xs).length, H1, I2.tok _, ⟨_, by rw [ec2]⟩, q1⟩
def dLenSet (a : EV) : EV := fun sw h => (a sw h).bind fun w h1 => match w with
  | .tup ws => (match strsOf ws with | some ss => if ss.length < 4000 then .ok (.int (unlike ss).length) h1 else .no | none => .no)
  | _ => .no
section
variable {A : Ax} {X : Cx} {N : List Str} {sc : Scope} {a : Expr} {ea : EV} {p p2 q pos : Pos}
theorem b_lenSet (x : XOk A N sc X) (hg : A.gt.lookup ("len" : Str) = some .blt) (h : gloB sc ("len" : Str) = true) (hg2 : A.gt.lookup ("set" : Str) = some .blt) (h2 : gloB sc ("set" : Str) = true) (ha : WE A X a ea) (h3 : nonStar a = true) :
    WE A X (.Call (.Name "len" p) [.Call (.Name "set" p2) [a] [] q] [] pos) (dLenSet ea) := fun wx tk =>
  PE_imp (pe_lenSetT x.calm (gl_of x (gloB_ok h).1) (x.glob.blt _ hg) (gl_of x (gloB_ok h2).1) (x.glob.blt _ hg2) (ha wx tk) (star_ok h3)) fun σ H Q t => by
    obtain ⟨k, sw, h, hs, hh, d⟩ := TEx.bind t
    refine ⟨k, sw, h, hs, hh, d.imp fun v H1 ⟨k1, sw1, w, h1, hs1, hh1, r, d1⟩ => ?_⟩
    split at d1
    · split at d1
      · rename_i ss es
        split at d1
        · rename_i hn
          obtain ⟨l, vs, rfl, q, r2⟩ := tupAt hh1 r
          cases strs_rep r2 es
          exact ⟨l, ss, rfl, x.hK ▸ q, hn, d1 _ k1 H1 (.refl _ _) hh1 (by simp only [Rep])⟩
        · exact d1.elim
      · exact d1.elim
    · exact d1.elim
end
end KW

set_option Elab.async false
set_option linter.all false
set_option maxRecDepth 100000
set_option maxHeartbeats 4000000
/-! what the module's names hold, from a list -/
namespace KW
open PySem L2
def GE (A : Ax) (mg : Str → Option Value) (x : Str) : Gk → Prop
  | .fn f => ∃ a, A.fa f = some a ∧ mg x = some (.ref a)
  | .cls c => ∃ C, A.cl c = some C ∧ mg x = some (.ref C)
  | .cst w => ∃ u v, mg x = some u ∧ RelV v u ∧ ∀ k, Rep A.toGx k w v
  | .blt => mg x = none
def GEs (A : Ax) (mg : Str → Option Value) : List (Str × Gk) → Prop
  | [] => True
  | e :: r => GE A mg e.1 e.2 ∧ GEs A mg r
theorem GEs.at {A : Ax} {mg : Str → Option Value} {x : Str} {g : Gk} : ∀ {t : List (Str × Gk)}, GEs A mg t → t.lookup x = some g → GE A mg x g
  | [], _, h => by cases h
  | (y, u) :: r, ⟨h1, h2⟩, h => by
    rw [List.lookup_cons] at h
    split at h
    · rename_i e
      cases h
      rw [beq_iff_eq.mp e]; exact h1
    · exact GEs.at h2 h
theorem glob_of {A : Ax} {mg : Str → Option Value} (h : GEs A mg A.gt) : GlobOk A mg where
  fn := fun x f e => GEs.at h e
  cls := fun x c e => GEs.at h e
  cst := fun x w e => GEs.at h e
  blt := fun x e => GEs.at h e
theorem ge_str {A : Ax} {mg : Str → Option Value} {x s : Str} {t : Tok} (h : mg x = some (.str s t)) : GE A mg x (.cst (.str s)) := ⟨_, .str s, h, ⟨t, rfl⟩, fun _ => by simp only [Rep]⟩
theorem ge_int {A : Ax} {mg : Str → Option Value} {x : Str} {i : Int} {t : Tok} (h : mg x = some (.int i t)) : GE A mg x (.cst (.int i)) := ⟨_, .int i, h, ⟨t, rfl⟩, fun _ => by simp only [Rep]⟩
theorem ge_non {A : Ax} {mg : Str → Option Value} {x : Str} (h : mg x = some .none) : GE A mg x (.cst .non) := ⟨_, .non, h, rfl, fun _ => by simp only [Rep]⟩
theorem ge_bl {A : Ax} {mg : Str → Option Value} {x : Str} {b : Bool} (h : mg x = some (.bool b)) : GE A mg x (.cst (.bl b)) := ⟨_, .bl b, h, rfl, fun _ => by simp only [Rep]⟩
end KW

set_option Elab.async false
set_option linter.all false
set_option maxRecDepth 100000
set_option maxHeartbeats 4000000
/-! running the meanings by simp -/
namespace KW
open PySem L2
section
variable {α β : Type} {i j : Nat} {sw : WS} {h : WH} {w u : W} {a b c : EV} {ta tb : EB} {s r : EW} {m : Bool} {f g : W → W → WH → R W} {e : EA} {es : List W}
@[simp] theorem x_bind (x : α) (f : α → WH → R β) : (R.ok x h).bind f = f x h := rfl
@[simp] theorem x_bindN (f : α → WH → R β) : (R.no : R α).bind f = .no := rfl
@[simp] theorem x_bindX {c fs vs} (f : α → WH → R β) : (R.exc c fs vs h : R α).bind f = .exc c fs vs h := rfl
@[simp] theorem x_st (x : α) (f : α → WH → RS) : (R.ok x h).st sw f = f x h := rfl
@[simp] theorem x_stN (f : α → WH → RS) : (R.no : R α).st sw f = .no := rfl
@[simp] theorem x_stX {c fs vs} (f : α → WH → RS) : (R.exc c fs vs h : R α).st sw f = .exc sw c fs vs h := rfl
@[simp] theorem x_var : dVar i sw h = match sw[i]? with | some (some w) => .ok w h | _ => .no := rfl
@[simp] theorem x_c : dC w sw h = .ok w h := rfl
@[simp] theorem x_op : dOp f a b sw h = (a sw h).bind fun w h1 => (b sw h1).bind fun u h2 => f w u h2 := rfl
@[simp] theorem x_nil : aNil sw h = .ok [] h := rfl
@[simp] theorem x_cons : aCons a e sw h = (a sw h).bind fun w h1 => (e sw h1).bind fun ws h2 => .ok (w :: ws) h2 := rfl
@[simp] theorem x_tup : dTup e sw h = (e sw h).bind fun ws h1 => if ws.length ≤ lim then .ok (.tup ws) h1 else .no := rfl
@[simp] theorem x_lst : dLst m e sw h = (e sw h).bind fun ws h1 => if ws.length ≤ lim then newL m ws h1 else .no := rfl
@[simp] theorem x_newF : newL false es h = .ok (.lst es) h := rfl
@[simp] theorem x_newT : newL true es h = .ok (.ref h.length) (h ++ [.lst es]) := rfl
@[simp] theorem x_if : dIf ta a b sw h = (ta sw h).bind fun c h1 => if c then a sw h1 else b sw h1 := rfl
@[simp] theorem x_tst : dTst a sw h = (a sw h).bind fun w h1 => match w with | .bl b => .ok b h1 | _ => .no := rfl
@[simp] theorem x_tru : dTru a sw h = (a sw h).bind fun w h1 => match truW h1 w with | some b => .ok b h1 | none => .no := rfl
@[simp] theorem x_notT : dNotT ta sw h = (ta sw h).bind fun c h1 => .ok (!c) h1 := rfl
@[simp] theorem x_andT : dAndT ta tb sw h = (ta sw h).bind fun c h1 => if c then tb sw h1 else .ok false h1 := rfl
@[simp] theorem x_orT : dOrT ta tb sw h = (ta sw h).bind fun c h1 => if c then .ok true h1 else tb sw h1 := rfl
@[simp] theorem x_and : dAnd a b sw h = (a sw h).bind fun w h1 => match truW h1 w with | some true => b sw h1 | some false => .ok w h1 | none => .no := rfl
@[simp] theorem x_or : dOr a b sw h = (a sw h).bind fun w h1 => match truW h1 w with | some true => .ok w h1 | some false => b sw h1 | none => .no := rfl
@[simp] theorem x_not : dNot a sw h = (a sw h).bind fun w h1 => match truW h1 w with | some c => .ok (.bl (!c)) h1 | none => .no := rfl
@[simp] theorem x_neg : dNeg a sw h = (a sw h).bind fun w h1 => match w with | .int i => .ok (.int (-i)) h1 | _ => .no := rfl
@[simp] theorem x_chn : dChn f g a b c sw h = (a sw h).bind fun x h1 => (b sw h1).bind fun y h2 => (f x y h2).bind fun z h3 => match z with
  | .bl true => (c sw h3).bind fun u h4 => g y u h4 | .bl false => .ok (.bl false) h3 | _ => .no := rfl
@[simp] theorem x_call {φ : List W → WH → R W} : dCall φ e sw h = (e sw h).bind φ := rfl
@[simp] theorem x_bi {φ : List W → WH → R W} : dBi φ e sw h = (e sw h).bind φ := rfl
@[simp] theorem x_oNo : oNo sw h = .ok none h := rfl
@[simp] theorem x_oSome : oSome a sw h = (a sw h).bind fun w h1 => match w with | .int i => .ok (some i) h1 | _ => .no := rfl
@[simp] theorem x_sl {lo hi : EO} : dSl m a lo hi sw h = (a sw h).bind fun x h1 => (lo sw h1).bind fun l h2 => (hi sw h2).bind fun u h3 => fSl m x l u h3 := rfl
@[simp] theorem x_isT {T} : dIsT T a sw h = (a sw h).bind fun w h1 => match (tyW h1 w).bind fun t => kitB t T with | some b => .ok (.bl b) h1 | none => .no := rfl
@[simp] theorem x_bm {T} {F : FM} : dBM T F a e sw h = (a sw h).bind fun w h1 => if tyIs T h1 w then (e sw h1).bind fun ws h2 => F w ws h2 else .no := rfl
@[simp] theorem x_fld : dFld a i sw h = (a sw h).bind fun w h1 => match insOf h1 w with
  | some (_, fs, vs) => (match lookF i fs vs with | some x => .ok x h1 | none => .no) | none => .no := rfl
@[simp] theorem x_sNil : sNil sw h = .ok (.next sw) h := rfl
/-- one thing after another, as a function of the first one's result -/
def RS.seq (x : RS) (r : EW) : RS := match x with | .ok (.next sw1) h1 => r sw1 h1 | x => x
@[simp] theorem x_seq : sSeq s r sw h = (s sw h).seq r := rfl
@[simp] theorem q_next : (RS.ok (.next sw) h).seq r = r sw h := rfl
@[simp] theorem q_ret : (RS.ok (.ret w) h).seq r = .ok (.ret w) h := rfl
@[simp] theorem q_brk : (RS.ok (.brk sw) h).seq r = .ok (.brk sw) h := rfl
@[simp] theorem q_cont : (RS.ok (.cont sw) h).seq r = .ok (.cont sw) h := rfl
@[simp] theorem q_no : RS.no.seq r = .no := rfl
@[simp] theorem q_exc {c fs vs} : (RS.exc sw c fs vs h).seq r = .exc sw c fs vs h := rfl
@[simp] theorem x_set : sSet i a sw h = (a sw h).st sw fun w h1 => .ok (.next (sw.set i (some w))) h1 := rfl
@[simp] theorem x_par : sPar i j e sw h = (e sw h).st sw fun ws h1 => match ws with | [w, u] => .ok (.next ((sw.set i (some w)).set j (some u))) h1 | _ => .no := rfl
@[simp] theorem x_tg {t : W → WS → Option WS} : sTg t a sw h = (a sw h).st sw fun w h1 => match t w sw with | some sw' => .ok (.next sw') h1 | none => .no := rfl
@[simp] theorem x_sexpr : sExpr a sw h = (a sw h).st sw fun _ h1 => .ok (.next sw) h1 := rfl
@[simp] theorem x_ret : sRet a sw h = (a sw h).st sw fun w h1 => .ok (.ret w) h1 := rfl
@[simp] theorem x_sif : sIf ta s r sw h = (ta sw h).st sw fun c h1 => if c then s sw h1 else r sw h1 := rfl
@[simp] theorem x_setI : sSetI a b c sw h = (c sw h).st sw fun x h1 => (a sw h1).st sw fun y h2 => (b sw h2).st sw fun z h3 => match fSetI y z x h3 with | some h4 => .ok (.next sw) h4 | none => .no := rfl
@[simp] theorem x_stF {lay} : sStF lay a i b sw h = (b sw h).st sw fun x h1 => (a sw h1).st sw fun y h2 => match fStF lay y i x h2 with | some h4 => .ok (.next sw) h4 | none => .no := rfl
@[simp] theorem x_for {it : EI} {t : Tg} : sFor it t s sw h = (it sw h).st sw fun x h1 => forL x.2 x.1 (tgW t) s x.1 sw h1 := rfl
@[simp] theorem x_thru : sThru s sw h = match s sw h with | .exc .. => .no | r => r := rfl
@[simp] theorem x_any : iAny a sw h = (a sw h).bind fun w h1 => match w with
  | .str x => .ok (signs x, none) h1 | .tup ws => .ok (ws, none) h1 | .lst ws => .ok (ws, none) h1
  | .ref r => (match h1[r]? with | some (.lst ws) => .ok (ws, some r) h1 | _ => .no) | _ => .no := rfl
@[simp] theorem x_enum : iEnumW a sw h = (a sw h).bind fun w h1 => match w with | .tup ws => .ok (enumW ws, none) h1 | .lst ws => .ok (enumW ws, none) h1 | _ => .no := rfl
@[simp] theorem x_rg1 : iRg1 e sw h = (e sw h).bind fun ws h1 => match ws with | [.int j] => if -lim ≤ j ∧ j ≤ lim then .ok (rngW 0 j.toNat, none) h1 else .no | _ => .no := rfl
@[simp] theorem x_comp {it : EI} {t : Tg} {cd : EB} {own : List Nat} : dComp m it t cd a own sw h = (it sw h).bind fun x h1 => (compL x.2 x.1 (tgW t) cd a (wipeW sw own) x.1 [] h1).bind fun ws h2 => newL m ws h2 := rfl
@[simp] theorem x_yes : bYes sw h = .ok true h := rfl
/-! the operators on numbers and texts -/
@[simp] theorem f_add {i j : Int} : fAdd m (.int i) (.int j) h = .ok (.int (i + j)) h := rfl
@[simp] theorem f_sub {i j : Int} : fSub (.int i) (.int j) h = .ok (.int (i - j)) h := rfl
/-- small enough -/
def mulB (i j : Int) : Bool := decide (i.natAbs.log2 + j.natAbs.log2 < 1000000)
def divB (j : Int) : Bool := decide (0 < j ∧ j.natAbs.log2 < 9000)
def powB (i j : Int) : Bool := decide (0 ≤ j ∧ (i.natAbs.log2 + 1) * j.toNat ≤ 1000000)
@[simp] theorem f_mul {i j : Int} : fMul m (.int i) (.int j) h = if mulB i j then .ok (.int (i * j)) h else .no := by simp [fMul, mulB]
@[simp] theorem f_div {i j : Int} : fDiv (.int i) (.int j) h = if divB j then .ok (.int (i / j)) h else .no := by simp [fDiv, divB]
@[simp] theorem f_pow {i j : Int} : fPow (.int i) (.int j) h = if powB i j then .ok (.int (i ^ j.toNat)) h else .no := by simp [fPow, powB]
@[simp] theorem f_mod {i j : Int} : fMod (.int i) (.int j) h = if 0 < j then .ok (.int (i % j)) h else .no := rfl
@[simp] theorem f_int {p : Int → Int → Bool} {i j : Int} : fInt p (.int i) (.int j) h = .ok (.bl (p i j)) h := rfl
@[simp] theorem f_ixT {ws : List W} {i : Int} : fIx (.tup ws) (.int i) h = match atI ws i with | some w => .ok w h | none => .no := rfl
@[simp] theorem f_ixL {ws : List W} {i : Int} : fIx (.lst ws) (.int i) h = match atI ws i with | some w => .ok w h | none => .no := rfl
theorem f_ixR {r : Nat} {ws : List W} {i : Int} (e : h[r]? = some (.lst ws)) : fIx (.ref r) (.int i) h = match atI ws i with | some w => .ok w h | none => .no := by
  have q : seqOf h (.ref r) = some ws := by simp [seqOf, lstOf, e]
  have q1 : dkOf h (.ref r) = none := by simp [dkOf, e]
  have q2 : tdOf h (.ref r) = none := by simp [tdOf, e]
  have q3 : fIx (.ref r) (.int i) h = fIxS (.ref r) (.int i) h := by simp [fIx, q1, q2]
  rw [q3]
  unfold fIxS
  simp only [q]
  try (cases atI ws i <;> rfl)
theorem f_ixDr {r : Nat} {ks ws : List W} {y : W} (e : h[r]? = some (.dct ks ws)) : fIx (.ref r) y h = dIx y h ks ws := by
  have q1 : dkOf h (.ref r) = some (ks, ws) := by simp [dkOf, e]
  simp [fIx, q1]
@[simp] theorem f_ixD {ks ws : List W} {y : W} : fIx (.dct ks ws) y h = dIx y h ks ws := rfl
theorem f_inT {r : Nat} {ks ws : List W} {y : W} (e : h[r]? = some (.td ks ws)) : fIn m y (.ref r) h = tIn m y h ks ws := by
  have q1 : dkOf h (.ref r) = none := by simp [dkOf, e]
  have q2 : tdOf h (.ref r) = some (ks, ws) := by simp [tdOf, e]
  simp [fIn, q1, q2]
theorem f_inS {x : W} {ws : List W} : fIn m x (.tup ws) h = fInS m x (.tup ws) h := rfl
@[simp] theorem at0 (x : α) (xs : List α) : atI (x :: xs) 0 = some x := by
  simp [atI, ixN]
@[simp] theorem at1 (x y : α) (xs : List α) : atI (x :: y :: xs) 1 = some y := by
  have : (1 : Int) < ((x :: y :: xs).length : Nat) := by simp only [List.length_cons]; omega
  rw [atI, ixN, if_pos (by decide), if_pos this]; rfl
@[simp] theorem at2 (x y z : α) (xs : List α) : atI (x :: y :: z :: xs) 2 = some z := by
  have : (2 : Int) < ((x :: y :: z :: xs).length : Nat) := by simp only [List.length_cons]; omega
  rw [atI, ixN, if_pos (by decide), if_pos this]; rfl
theorem atN {xs : List α} {i : Int} (h0 : 0 ≤ i) (h1 : i < xs.length) : atI xs i = some (xs[i.toNat]'(by omega)) := by
  rw [atI, ixN, if_pos h0, if_pos h1]
  exact List.getElem?_eq_getElem _
theorem atLast {xs : List α} {x : α} : atI (xs ++ [x]) (-1) = some x := atI_last xs x
theorem setI_ok {r : Nat} {ws : List W} {v : W} (e : h[r]? = some (.lst ws)) {n : Nat} {i : Int} (hi : ixN ws.length i = some n) : fSetI (.ref r) (.int i) v h = some (h.set r (.lst (ws.set n v))) := by
  simp [fSetI, e, hi]
theorem get_same {r : Nat} {x y : Ob} (e : h[r]? = some y) : (h.set r x)[r]? = some x := by
  rw [List.getElem?_set_self (List.getElem?_eq_some_iff.mp e).1]
/-! what a call leaves of the heap -/
theorem gc_len {h h' : WH} (e : h'.length = h.length) : gc h.length w h h' = h' := by
  unfold gc
  split
  · exact List.take_of_length_le (by omega)
  · rfl
@[simp] theorem gc_set {r : Nat} {o : Ob} : gc h.length w h (h.set r o) = h.set r o := gc_len (by simp)
@[simp] theorem gc_self : gc h.length w h h = h := gc_len rfl
theorem gc_drop {h h1 e : WH} (el : h1.length = h.length) (hw : w.lt h.length = true) (ho : ∀ i, i < h.length → h1[i]? = h[i]? ∨ ∃ o, h1[i]? = some o ∧ o.lt h.length = true) : gc h.length w h (h1 ++ e) = h1 := by
  unfold gc
  rw [if_pos]
  · rw [← el]; simp
  · simp only [Bool.and_eq_true, List.all_eq_true, List.mem_range, Bool.or_eq_true, decide_eq_true_eq]
    refine ⟨hw, fun i hi => ?_⟩
    have q : (h1 ++ e)[i]? = h1[i]? := List.getElem?_append_left (by omega)
    rw [q]
    rcases ho i hi with z | ⟨o, z, z2⟩
    · exact .inl z
    · rw [z]; exact .inr z2
theorem lg {i : Int} (n : Nat) (h : i.natAbs < 2 ^ n) (hn : 0 < n) : i.natAbs.log2 < n := by
  by_cases z : i.natAbs = 0
  · rw [z]; simpa using hn
  · exact (Nat.log2_lt z).mpr h
theorem lg0 {i : Int} (n : Nat) (h : i.natAbs < 2 ^ n) : i.natAbs.log2 ≤ n := by
  by_cases z : i.natAbs = 0
  · rw [z]; simp
  · exact Nat.le_of_lt ((Nat.log2_lt z).mpr h)
theorem mulB_of {i j : Int} (n : Nat) (hi : i.natAbs < 2 ^ n) (hj : j.natAbs < 2 ^ n) (hn : n < 400000) : mulB i j = true := by
  have := lg0 n hi
  have := lg0 n hj
  exact decide_eq_true (by omega)
theorem divB_of {j : Int} (h0 : 0 < j) (hj : j < 2 ^ 100) : divB j = true := decide_eq_true ⟨h0, by have := lg0 (i := j) 100 (by omega); omega⟩
theorem powB5 {i : Int} (n : Nat) (hi : i.natAbs < 2 ^ n) (hn : n < 100000) : powB i 5 = true := decide_eq_true ⟨by decide, by have := lg0 n hi; show (_ + 1) * 5 ≤ _; omega⟩
theorem atMem {xs : List α} {i : Int} (h0 : 0 ≤ i) (h1 : i < xs.length) : ∃ x, x ∈ xs ∧ atI xs i = some x := ⟨_, List.getElem_mem _, atN h0 h1⟩
/-! loops by what stands at each turn -/
theorem forL_go {src : Option Nat} {ws0 : List W} {t : W → WS → Option WS} {body : EW} (P : Nat → WS → WH → Prop) {n : Nat} :
    ∀ (items : List W) (i : Nat) (sw : WS) (h : WH), i + items.length = n → P i sw h → (∀ i sw h, i ≤ n → P i sw h → srcOk src ws0 h = true) →
      (∀ j w sw h, items[j]? = some w → P (i + j) sw h → ∃ sw1 sw2 h2, t w sw = some sw1 ∧ (body sw1 h = .ok (.next sw2) h2 ∨ body sw1 h = .ok (.cont sw2) h2) ∧ P (i + j + 1) sw2 h2) → ∃ sw' h', forL src ws0 t body items sw h = .ok (.next sw') h' ∧ P n sw' h'
  | [], i, sw, h, e, p, hs, _ => by
    obtain rfl : i = n := by simpa using e
    exact ⟨sw, h, by unfold forL; rw [if_pos (hs i sw h (Nat.le_refl _) p)], p⟩
  | w :: rest, i, sw, h, e, p, hs, st => by
    obtain ⟨sw1, sw2, h2, e1, e2, p2⟩ := st 0 w sw h rfl p
    have e' : i + 1 + rest.length = n := by simp only [List.length_cons] at e; omega
    obtain ⟨sw', h', e3, p3⟩ := forL_go (src := src) (ws0 := ws0) (t := t) (body := body) P rest (i + 1) sw2 h2 e' p2 hs fun j u s g ej pj => by
      have := st (j + 1) u s g (by simpa using ej) (by rw [show i + (j + 1) = i + 1 + j from by omega]; exact pj)
      rw [show i + (j + 1) = i + 1 + j from by omega] at this
      exact this
    refine ⟨sw', h', ?_, p3⟩
    unfold forL
    rw [if_pos (hs i sw h (by omega) p), e1]
    rcases e2 with e2 | e2
    · simp only [e2]; exact e3
    · simp only [e2]; exact e3
theorem forL_run {src : Option Nat} {ws0 : List W} {t : W → WS → Option WS} {body : EW} {items : List W} {sw : WS} {h : WH} (P : Nat → WS → WH → Prop) (p0 : P 0 sw h) (hs : ∀ i sw h, i ≤ items.length → P i sw h → srcOk src ws0 h = true)
    (st : ∀ i w sw h, items[i]? = some w → P i sw h → ∃ sw1 sw2 h2, t w sw = some sw1 ∧ (body sw1 h = .ok (.next sw2) h2 ∨ body sw1 h = .ok (.cont sw2) h2) ∧ P (i + 1) sw2 h2) :
    ∃ sw' h', forL src ws0 t body items sw h = .ok (.next sw') h' ∧ P items.length sw' h' :=
  forL_go P items 0 sw h (by simp) p0 hs fun j w s g e p => by
    rw [Nat.zero_add] at p ⊢
    exact st j w s g e p
theorem compL_go {src : Option Nat} {ws0 : List W} {t : W → WS → Option WS} {cond : EB} {elt : EV} {sw : WS} (P : Nat → List W → WH → Prop) {n : Nat} :
    ∀ (items : List W) (i : Nat) (acc : List W) (h : WH), i + items.length = n → P i acc h → (∀ i acc h, i ≤ n → P i acc h → srcOk src ws0 h = true) →
      (∀ j w acc h, items[j]? = some w → P (i + j) acc h → ∃ sw1 h1, t w sw = some sw1 ∧ ((cond sw1 h = .ok false h1 ∧ P (i + j + 1) acc h1) ∨ ∃ y h2, cond sw1 h = .ok true h1 ∧ elt sw1 h1 = .ok y h2 ∧ acc.length < lim ∧ P (i + j + 1) (acc ++ [y]) h2)) →
      ∃ acc' h', compL src ws0 t cond elt sw items acc h = .ok acc' h' ∧ P n acc' h'
  | [], i, acc, h, e, p, hs, _ => by
    obtain rfl : i = n := by simpa using e
    exact ⟨acc, h, by unfold compL; rw [if_pos (hs i acc h (Nat.le_refl _) p)], p⟩
  | w :: rest, i, acc, h, e, p, hs, st => by
    have e' : i + 1 + rest.length = n := by simp only [List.length_cons] at e; omega
    have st' : ∀ j u a g, rest[j]? = some u → P (i + 1 + j) a g → ∃ sw1 h1, t u sw = some sw1 ∧ ((cond sw1 g = .ok false h1 ∧ P (i + 1 + j + 1) a h1) ∨ ∃ y h2, cond sw1 g = .ok true h1 ∧ elt sw1 h1 = .ok y h2 ∧ a.length < lim ∧ P (i + 1 + j + 1) (a ++ [y]) h2) := fun j u a g ej pj => by
      have := st (j + 1) u a g (by simpa using ej) (by rw [show i + (j + 1) = i + 1 + j from by omega]; exact pj)
      rw [show i + (j + 1) = i + 1 + j from by omega] at this
      exact this
    obtain ⟨sw1, h1, e1, e2⟩ := st 0 w acc h rfl p
    unfold compL
    rw [if_pos (hs i acc h (by omega) p), e1]
    rcases e2 with ⟨e2, p2⟩ | ⟨y, h2, e2, e3, hl, p2⟩
    · simp only [e2]
      exact compL_go P rest (i + 1) acc h1 e' p2 hs st'
    · simp only [e2, e3, if_pos hl]
      exact compL_go P rest (i + 1) (acc ++ [y]) h2 e' p2 hs st'
theorem compL_run {src : Option Nat} {ws0 : List W} {t : W → WS → Option WS} {cond : EB} {elt : EV} {sw : WS} {items : List W} {h : WH} (P : Nat → List W → WH → Prop) (p0 : P 0 [] h) (hs : ∀ i acc h, i ≤ items.length → P i acc h → srcOk src ws0 h = true)
    (st : ∀ i w acc h, items[i]? = some w → P i acc h → ∃ sw1 h1, t w sw = some sw1 ∧ ((cond sw1 h = .ok false h1 ∧ P (i + 1) acc h1) ∨ ∃ y h2, cond sw1 h = .ok true h1 ∧ elt sw1 h1 = .ok y h2 ∧ acc.length < lim ∧ P (i + 1) (acc ++ [y]) h2)) :
    ∃ acc' h', compL src ws0 t cond elt sw items [] h = .ok acc' h' ∧ P items.length acc' h' :=
  compL_go P items 0 [] h (by simp) p0 hs fun j w s g e p => by
    rw [Nat.zero_add] at p ⊢
    exact st j w s g e p
/-- a comprehension that changes nothing: a map -/
theorem compL_map {ws0 : List W} {t : W → WS → Option WS} {elt : EV} {sw : WS} {h : WH} (f : W → W) : ∀ (items acc : List W), (∀ w ∈ items, ∃ sw1, t w sw = some sw1 ∧ elt sw1 h = .ok (f w) h) → acc.length + items.length ≤ lim → compL none ws0 t bYes elt sw items acc h = .ok (acc ++ items.map f) h
  | [], acc, _, _ => by unfold compL; simp [srcOk]
  | w :: rest, acc, st, hl => by
    obtain ⟨sw1, e1, e2⟩ := st w (List.mem_cons_self ..)
    simp only [List.length_cons] at hl
    unfold compL
    have q : srcOk none ws0 h = true := rfl
    rw [if_pos q, e1]
    simp only [x_yes, e2]
    rw [if_pos (by omega), compL_map f rest (acc ++ [f w]) (fun u hu => st u (List.mem_cons_of_mem _ hu)) (by simp only [List.length_append, List.length_singleton]; omega)]
    simp
end
end KW

set_option Elab.async false
set_option linter.all false
set_option maxRecDepth 100000
set_option maxHeartbeats 4000000
/-! a def, run: what it leaves -/
namespace KW
open PySem L2
theorem set_self {h : WH} {r : Nat} {x : Ob} (e : h[r]? = some x) : h = h.set r x := by
  refine List.ext_getElem? fun i => ?_
  by_cases z : r = i
  · subst z
    rw [e, List.getElem?_set_self (List.getElem?_eq_some_iff.mp e).1]
  · rw [List.getElem?_set_ne z]
def fin (h : WH) (x : RS) : R W := match x with
  | .ok (.ret w) h' => .ok w (gc h.length w h h')
  | .ok (.next _) h' => .ok .non (gc h.length .non h h')
  | .exc _ c fs vs h' => .exc c fs vs h'
  | _ => .no
theorem run_fin {sl np : Nat} {D : EW} {args : List W} {h : WH} (e : args.length = np) : runF sl np D args h = fin h (D (args.map some ++ List.replicate (sl - np) none) h) := by
  rw [runF, if_pos e]
  unfold fin
  cases D (args.map some ++ List.replicate (sl - np) none) h with
  | ok f h' => cases f <;> rfl
  | exc => rfl
  | no => rfl
@[simp] theorem fin_ret {h h' : WH} {w : W} : fin h (.ok (.ret w) h') = .ok w (gc h.length w h h') := rfl
@[simp] theorem fin_next {h h' : WH} {s : WS} : fin h (.ok (.next s) h') = .ok .non (gc h.length .non h h') := rfl
end KW

set_option Elab.async false
set_option linter.all false
set_option maxRecDepth 100000
set_option maxHeartbeats 4000000
/-! raise, try .. except -/
namespace KW
open PySem L2
section
variable {A : Ax} {X : Cx} {N : List Str} {sc : Scope} {Φ : Fns} {n : Nat} {e : Expr} {ea : EV} {p pos apos pos2 : Pos}
def sRaise (c f : Nat) (a : EV) : EW := fun sw h => (a sw h).st sw fun w h1 => .exc sw c [f] [w] h1
@[simp] theorem x_raise {c f : Nat} {a : EV} {sw : WS} {h : WH} : sRaise c f a sw h = (a sw h).st sw fun w h1 => .exc sw c [f] [w] h1 := rfl
theorem upd_xd {H : Hp} {a C dx : Addr} {fs : List (Str × V)} (ha : H a = none) (hd : dx ≠ a) :
    upd (del (upd (upd (upd H a (exo a C none)) dx (exd dx fs)) a (exo a C (some dx))) a) dx (.xd fs) = upd H dx (.xd fs) := by
  funext b
  by_cases z : b = dx
  · subst z; rw [upd_same, upd_same]
  · rw [upd_ne z, upd_ne z]
    by_cases y : b = a
    · subst y; rw [del_same, ha]
    · rw [del_ne y, upd_ne y, upd_ne z, upd_ne y]
theorem s_raise (x : StOk A N sc X) (C : COk A Φ n X) {c f : Nat} {nm : Str} (hx : A.exf c = some f) (hg : A.gt.lookup nm = some (.cls c)) (h : gloB sc nm = true) (ha : WE A X e ea) (hns : nonStar e = true) :
    WSt A X (.Raise (some (.Call (.Name nm p) [e] [] pos)) none pos2) (sRaise c f ea) := fun wx tk po => by
  obtain ⟨C1, fI, fd, p1, e1, T, iC, tI, hno, F1, hb⟩ := C.ex c f hx
  obtain ⟨C2, e2, hm⟩ := x.glob.cls nm c hg
  rw [e1] at e2
  cases e2
  have hK := x.hK
  refine PS_imp (ps_raise x.calm tk (pmk_oex (X := X) (CX := L2.CX X.prog X.w) (by rw [hK]; exact T) (by rw [hK]; exact iC) (by rw [hK]; exact tI) (by rw [hK]; exact F1) (C.room.mono (by have := C.lv; omega)) (by rw [hK]; exact hb) .nil
    (passes_call (E := fun _ _ _ => False) tk fun _ _ _ _ z => z.elim) (gl_of x.toXOk (gloB_ok h).1) hm (pa_cons (ha wx tk) pa_nil (star_ok hns)) (gloB_ok h).2.1 (star_ok hns) (stars_any (es := []) rfl))) fun D σ H ⟨k, sw, h0, hs, hh, d⟩ => ?_
  refine ⟨k, sw, h0, hs, hh, (DenS.bind (rp := Rep A.toGx) hs d).imp fun v H1 ⟨k1, w, h1, n1, hh1, r1, hs1, d1⟩ => ?_⟩
  refine ⟨by show 1 ≤ 1000; decide, fun a na => ⟨a, C1, v, rfl, T, hno, upd_same, fun dx nd hda => ?_⟩⟩
  have nd1 : H1 dx = none := by rw [upd_ne hda] at nd; exact nd
  refine ⟨rfl, dx, [(A.fn f, v)], upd_same, by rw [upd_ne hda, upd_same], nd1, ?_⟩
  show wx (.ref C1) (some dx) σ _
  rw [upd_xd na hda]
  exact d1 σ C1 (some dx) k1 _ (Nxt.other nd1) (hh1.other nd1) hs1 ⟨e1, [(A.fn f, v)], upd_same, rfl, RepL.one r1⟩
/-! ### try .. except C: -/
def sTryO (cat : Nat → Option Bool) (b s : EW) : EW := fun sw h => match b sw h with
  | .exc sw' c _ _ h' => (match cat c with
    | some true => (match s sw' h' with | .exc .. => .no | r => r)
    | some false => b sw h
    | none => .no)
  | r => r
@[simp] theorem x_try {cat : Nat → Option Bool} {b s : EW} {sw : WS} {h : WH} : sTryO cat b s sw h = match b sw h with
  | .exc sw' c _ _ h' => (match cat c with
    | some true => (match s sw' h' with | .exc .. => .no | r => r)
    | some false => b sw h
    | none => .no)
  | r => r := rfl
/-- in an except suite: what s gives -/
def WSuite (A : Ax) (X : Cx) (ss : List Stmt) (s : EW) : Prop := ∀ (a : Addr) (oe : Obj) (cls : Value) (d : Option Addr) (pn : List (Addr × Obj)), Zc cls d oe → (∃ vs, oe.data = .fields vs) → WSs A (X.suite a ((a, oe) :: pn)) ss s
theorem DenS.wx {G : Gx} {wx wy : WX} {k : Ka} {H : Hp} {D : Ends} : ∀ {r : RS}, (∀ sw c fs vs h, r ≠ .exc sw c fs vs h) → DenS G wx k H r D → DenS G wy k H r D
  | .ok (.next _) _, _, d => d
  | .ok (.ret _) _, _, d => d
  | .ok (.brk _) _, _, d => d
  | .ok (.cont _) _, _, d => d
  | .exc sw c fs vs h, n, _ => absurd rfl (n sw c fs vs h)
  | .no, _, d => d
theorem StOk.tr (x : StOk A N sc X) {pn : List (Addr × Obj)} {xe : Value → Shared → Prop} : StOk A N sc (X.tr pn xe) := { hK := x.hK, hP := x.hP, hw := x.hw, hN := x.hN, nd := x.nd, hsc := x.hsc, calm := x.calm, gd := x.gd, glob := x.glob, un := x.un, fn := x.fn, stack := x.stack, frame := x.frame }
theorem COk.tr (C : COk A Φ n X) {pn : List (Addr × Obj)} {xe : Value → Shared → Prop} : COk A Φ n (X.tr pn xe) := { room := C.room, lv := C.lv, ex := C.ex, sub := C.sub, fn := C.fn, mt := C.mt, ini := C.ini }
theorem s_tryO (x : StOk A N sc X) (C : COk A Φ n X) {d : Nat} {nm : Str} {np hp : Pos} {body suite : List Stmt} {b0 : Stmt} {b s : EW} (hg : A.gt.lookup nm = some (.cls d)) (h : gloB sc nm = true)
    (hb : ∀ (pn : List (Addr × Obj)) (xe : Value → Shared → Prop), WSs A (X.tr pn xe) body b) (hs : WSuite A X (b0 :: suite) s) :
    WSt A X (.Try body [.ExceptHandler (some (.Name nm np)) none (b0 :: suite) hp] [] [] pos) (sTryO (fun c => A.sub c d) b s) := fun wx tk po => by
  obtain ⟨D1, e1, hm⟩ := x.glob.cls nm d hg
  refine PS_imp (ps_try_only (c := .ref D1) x.stack x.frame ⟨gl_of x.toXOk (gloB_ok h).1, (gloB_ok h).2.1, .inl hm⟩ tk (fun W pn xe tk' po' => hb pn xe W tk' po') (fun a oe cls dd pn hz hf => hs a oe cls dd pn hz hf (fun _ _ _ _ => False) takes0 PassesOwn.never)) fun D σ H ⟨k, sw, h0, hs0, hh, dd⟩ => ?_
  refine ⟨k, sw, h0, hs0, hh, ?_⟩
  unfold sTryO at dd
  cases eb : b sw h0 with
  | no => rw [eb] at dd; exact dd.elim
  | ok fl h1 => rw [eb] at dd; cases fl <;> exact dd
  | exc sw' c fs vs h1 =>
    rw [eb] at dd
    intro σ' C1 dx k' H' n' hh' hs' xr
    have ec : A.cl c = some C1 := xr.1
    cases es : A.sub c d with
    | none =>
      simp only [es] at dd
      exact dd.elim
    | some bb =>
      obtain ⟨C2, D2, e2, e3, ex⟩ := C.sub c d bb es
      rw [ec] at e2; cases e2
      rw [e1] at e3; cases e3
      refine ⟨bb, by rw [x.hK]; exact ex, fun hb' a na => ?_, fun hb' => ?_⟩
      · subst hb'
        simp only [es] at dd
        refine ⟨k', sw', h1, hs', hh', ?_⟩
        cases er : s sw' h1 with
        | exc => rw [er] at dd; exact dd.elim
        | no => rw [er] at dd; exact dd.elim
        | ok fl h2 =>
          rw [er] at dd
          exact DenS.wx (fun _ _ _ _ _ q => by cases q) (DenS.nxt n' dd)
      · subst hb'
        simp only [es] at dd
        exact dd σ' C1 dx k' H' n' hh' hs' xr
end
end KW

set_option Elab.async false
set_option linter.all false
set_option maxRecDepth 100000
set_option maxHeartbeats 4000000
/-! dicts made: {}, displays, comprehensions; a, *b = .. -/
namespace KW
open PySem L2
/-- a new dict: frozen, or a logical object -/
def newD (m : Bool) (r : List W × List W) (h : WH) : R W := if m then .ok (.ref h.length) (h ++ [.dct r.1 r.2]) else .ok (.dct r.1 r.2) h
@[simp] theorem x_newD0 {r : List W × List W} {h : WH} : newD false r h = .ok (.dct r.1 r.2) h := rfl
@[simp] theorem x_newD1 {r : List W × List W} {h : WH} : newD true r h = .ok (.ref h.length) (h ++ [.dct r.1 r.2]) := rfl
/-- {} with keys that will be nested tuples -/
def dTd : EV := fun _ h => .ok (.ref h.length) (h ++ [.td [] []])
@[simp] theorem x_td {sw : WS} {h : WH} : dTd sw h = .ok (.ref h.length) (h ++ [.td [] []]) := rfl
def ePairs : List (EV × EV) → WS → WH → R (List (W × W))
  | [], _, h => .ok [] h
  | (a, b) :: r, sw, h => (a sw h).bind fun x h1 => (b sw h1).bind fun y h2 => (ePairs r sw h2).bind fun ps h3 => .ok ((x, y) :: ps) h3
def foldD : List (W × W) → List W × List W → Option (List W × List W)
  | [], acc => some acc
  | (x, y) :: r, acc => match keyOfW x with | some k => foldD r (putD (keyW k) y acc.1 acc.2) | none => none
def dDisp (m : Bool) (ps : List (EV × EV)) : EV := fun sw h => (ePairs ps sw h).bind fun xs h1 => if xs.length ≤ 15 then (match foldD xs ([], []) with | some r => newD m r h1 | none => .no) else .no
@[simp] theorem x_disp {m : Bool} {ps : List (EV × EV)} {sw : WS} {h : WH} : dDisp m ps sw h = (ePairs ps sw h).bind fun xs h1 => if xs.length ≤ 15 then (match foldD xs ([], []) with | some r => newD m r h1 | none => .no) else .no := rfl
@[simp] theorem x_ePn {sw : WS} {h : WH} : ePairs [] sw h = .ok [] h := rfl
@[simp] theorem x_ePc {a b : EV} {r : List (EV × EV)} {sw : WS} {h : WH} : ePairs ((a, b) :: r) sw h = (a sw h).bind fun x h1 => (b sw h1).bind fun y h2 => (ePairs r sw h2).bind fun ps h3 => .ok ((x, y) :: ps) h3 := rfl
section
variable {A : Ax} {X : Cx} {N : List Str} {sc : Scope} {pos : Pos}
theorem we_td (x : XOk A N sc X) : WE A X (.Dict [] [] pos) dTd := fun wx tk =>
  PE_imp pe_dnewN fun σ H Q ⟨k, sw, h, hs, hh, d⟩ => by
    intro p hp
    refine d (.ref p) (k.more p) _ (Nxt.more hh hp) (hh.more hp ⟨[], ?_, List.nodup_nil, rfl, rfl⟩ trivial) ?_
    · rw [x.hP, x.hw]; exact upd_same
    · simp only [Rep]
      refine ⟨p, rfl, ?_⟩
      show (k.mu ++ [p])[h.length]? = some p
      rw [← hh.len]; simp
/-- what a dict that was made is, told -/
theorem newD_ok {G : Gx} {wx : WX} {m : Bool} {k k1 : Ka} {H1 H2 : Hp} {σ : St} {h : WH} {D : Addr} {kvs : List (Key × V)} {ks ws : List W} {Q : VK} (n : Nxt k1 H1 k H2) (x : HRep G k H2 h) (h0 : H1 D = none) (hF : k.F D = none) (hm : D ∉ k.mu) (eD : H2 D = some (.dK kvs))
    (nd : (kvs.map (·.1)).Nodup) (ek : ks = kvs.map fun x => keyW x.1) (r : RepL G k ws (kvs.map (·.2))) (d : Den G (Rep G) wx k1 H1 σ (newD m (ks, ws) h) Q) : Q (.ref D) H2 := by
  unfold newD at d
  split at d
  · refine d (.ref D) (k.more D) H2 (n.adoptM h0) (x.adoptM hF hm ⟨kvs, eD, nd, ek, r.mono le_more⟩ (by rw [eD]; trivial) (by rw [eD]; simp)) ?_
    simp only [Rep]
    refine ⟨D, rfl, ?_⟩
    show (k.mu ++ [D])[h.length]? = some D
    rw [← x.len]; simp
  · refine d (.ref D) (k.froz D (.dK kvs)) H2 (n.adoptF h0 hF) (x.adoptF hF hm eD) ?_
    simp only [Rep]
    exact ⟨D, kvs, rfl, upd_same, ek, r.mono (le_froz hF)⟩
theorem keepO {k k' : Ka} {H H' : Hp} {D : Addr} {o : HO} (nn : Nxt k H k' H') (fa : k.F D = none) (ma : D ∉ k.mu) (ea : H D = some o) : k'.F D = none ∧ D ∉ k'.mu ∧ H' D = some o := by
  have hne : H D ≠ none := by rw [ea]; simp
  refine ⟨?_, fun z => (nn.new D z).elim ma hne, (nn.oth D hne ma).trans ea⟩
  cases q : k'.F D with
  | none => rfl
  | some u =>
    rcases nn.fro D u q with z | z | z
    · rw [fa] at z; cases z
    · exact absurd z hne
    · exact absurd z ma
/-- {} -/
def dDict0 (m : Bool) : EV := fun _ h => newD m ([], []) h
@[simp] theorem x_dict0 {m : Bool} {sw : WS} {h : WH} : dDict0 m sw h = newD m ([], []) h := rfl
theorem we_dict0 {m : Bool} : WE A X (.Dict [] [] pos) (dDict0 m) := fun wx tk =>
  PE_imp pe_dnewK fun σ H Q ⟨k, sw, h, hs, hh, d⟩ => by
    intro p hp
    exact newD_ok (k := k) (k1 := k) (H1 := H) (kvs := []) (Nxt.other hp) (hh.other hp) hp (hh.noF hp) (hh.noMu hp) upd_same List.nodup_nil rfl (by simp only [List.map_nil, RepL]) d
/-! displays -/
def PsW (A : Ax) (X : Cx) : List Expr → List Expr → List (EV × EV) → Prop
  | [], [], [] => True
  | k :: ks, v :: vs, (a, b) :: r => WE A X k a ∧ WE A X v b ∧ PsW A X ks vs r
  | _, _, _ => False
def psT (G : Gx) (wx : WX) (ps : List (EV × EV)) : List (TE × TE) := ps.map fun p => (TEx G wx p.1, TEx G wx p.2)
theorem pps_of {wx : WX} (tk : Takes X wx) : ∀ {ks vs : List Expr} {ps : List (EV × EV)}, PsW A X ks vs ps → PPs X pos (ks.map some) vs (psT A.toGx wx ps)
  | [], [], [], _ => pps_nil
  | [], [], _ :: _, h => h.elim
  | [], _ :: _, _, h => h.elim
  | _ :: _, [], _, h => h.elim
  | _ :: _, _ :: _, [], h => h.elim
  | k :: ks, v :: vs, (a, b) :: r, ⟨h1, h2, h3⟩ => pps_cons (h1 wx tk) (h2 wx tk) (pps_of tk h3)
theorem psw_len : ∀ {ks vs : List Expr} {ps : List (EV × EV)}, PsW A X ks vs ps → ks.length = vs.length
  | [], [], [], _ => rfl
  | [], [], _ :: _, h => h.elim
  | [], _ :: _, _, h => h.elim
  | _ :: _, [], _, h => h.elim
  | _ :: _, _ :: _, [], h => h.elim
  | k :: ks, v :: vs, (a, b) :: r, ⟨_, _, h⟩ => by simp [psw_len h]
/-- pairs of values, told -/
def RepP (G : Gx) (k : Ka) (xs : List (W × W)) (ps : List (V × V)) : Prop := RepL G k (xs.map (·.1)) (ps.map (·.1)) ∧ RepL G k (xs.map (·.2)) (ps.map (·.2))
theorem tPairs_of {G : Gx} {wx : WX} {σ : St} {Q : List (V × V) → Hp → Prop} : ∀ {ps : List (EV × EV)} {k : Ka} {sw : WS} {h : WH} {H : Hp}, SRep G k sw σ → HRep G k H h → Den G (RepP G) wx k H σ (ePairs ps sw h) (fun v H' => Q v H') → tPairs (psT G wx ps) σ H Q
  | [], k, sw, h, H, hs, hh, d => d [] k H (.refl _ _) hh ⟨by simp only [List.map_nil, RepL], by simp only [List.map_nil, RepL]⟩
  | (a, b) :: r, k, sw, h, H, hs, hh, d => by
    have d : Den G (RepP G) wx k H σ ((a sw h).bind fun x h1 => (b sw h1).bind fun y h2 => (ePairs r sw h2).bind fun ps h3 => .ok ((x, y) :: ps) h3) (fun v H' => Q v H') := d
    refine ⟨k, sw, h, hs, hh, Den.imp (Den.bind (rp := Rep G) d) fun x H1 ⟨k1, wx1, h1, n1, x1, r1, d1⟩ => ?_⟩
    refine ⟨k1, sw, h1, hs.mono n1.le, x1, Den.imp (Den.bind (rp := Rep G) d1) fun y H2 ⟨k2, wy, h2, n2, x2, r2, d2⟩ => ?_⟩
    refine tPairs_of ((hs.mono n1.le).mono n2.le) x2 (Den.imp (Den.bind (rp := RepP G) d2) fun ps H3 ⟨k3, xs, h3, n3, x3, r3, d3⟩ => ?_)
    refine d3 ((x, y) :: ps) k3 H3 (.refl _ _) x3 ⟨?_, ?_⟩
    · simp only [List.map_cons, RepL]; exact ⟨x, _, rfl, (r1.mono n2.le).mono n3.le, r3.1⟩
    · simp only [List.map_cons, RepL]; exact ⟨y, _, rfl, r2.mono n3.le, r3.2⟩
theorem foldD_ok {G : Gx} {k : Ka} : ∀ {xs : List (W × W)} {ps : List (V × V)} {acc : List (Key × V)} {ks ws : List W} {r : List W × List W}, RepP G k xs ps → (acc.map (·.1)).Nodup → ks = acc.map (fun x => keyW x.1) → RepL G k ws (acc.map (·.2)) → foldD xs (ks, ws) = some r →
    ∃ kvs : List (Key × V), ps = kvs.map (fun kv => (kV kv.1, kv.2)) ∧ ((mergeK acc kvs).map (·.1)).Nodup ∧ r.1 = (mergeK acc kvs).map (fun x => keyW x.1) ∧ RepL G k r.2 ((mergeK acc kvs).map (·.2))
  | [], ps, acc, ks, ws, r, hr, nd, e1, rw', e => by
    have := hr.1.length
    simp at this
    subst this
    simp only [foldD, Option.some.injEq] at e
    subst e
    exact ⟨[], rfl, nd, e1, rw'⟩
  | (x, y) :: xs, ps, acc, ks, ws, r, hr, nd, e1, rw', e => by
    cases ps with
    | nil => have := hr.1.length; simp at this
    | cons p ps =>
      obtain ⟨u, v⟩ := p
      obtain ⟨h1, h2⟩ := hr
      simp only [List.map_cons, RepL] at h1 h2
      obtain ⟨u', t1, q1, ru, h1⟩ := h1
      obtain ⟨v', t2, q2, rv, h2⟩ := h2
      cases q1; cases q2
      unfold foldD at e
      split at e
      · rename_i key ek
        obtain ⟨rfl, _⟩ := keyOf_rep ru ek
        subst e1
        obtain ⟨i1, i2⟩ := putD_rep (y := key) rv nd rw'
        obtain ⟨kvs, f1, f2, f3, f4⟩ := foldD_ok (acc := putK acc key v) ⟨h1, h2⟩ (putK_keys nd) i1 i2 e
        exact ⟨(key, v) :: kvs, by rw [f1]; rfl, f2, f3, f4⟩
      · cases e
theorem we_disp {m : Bool} {ks vs : List Expr} {ps : List (EV × EV)} (hp : PsW A X ks vs ps) (h0 : (ks.map some) ≠ []) (h15 : ks.length ≤ 15) : WE A X (.Dict (ks.map some) vs pos) (dDisp m ps) := fun wx tk =>
  PE_imp (pe_disp (pps_of (A := A) tk hp) (by simp) (by rw [List.length_map]; exact psw_len hp) h0 (by rw [List.length_map]; exact h15)) fun σ H Q ⟨k, sw, h, hs, hh, d⟩ => by
    intro p hn
    have d : Den A.toGx (Rep A.toGx) wx k H σ ((ePairs ps sw h).bind fun xs h1 => if xs.length ≤ 15 then (match foldD xs ([], []) with | some r => newD m r h1 | none => .no) else .no) Q := d
    have n0 : Nxt k H k (upd H p (.dK [])) := Nxt.other hn
    cases ev : ePairs ps sw h with
    | no => rw [ev] at d; exact d.elim
    | exc c fs us h' =>
      rw [ev] at d
      exact tPairs_of hs (hh.other hn) (by rw [ev]; exact fun C dx k' H' n' => d C dx k' H' (n0.trans n'))
    | ok xs h2 =>
      rw [ev] at d
      dsimp only [R.bind] at d
      refine tPairs_of hs (hh.other hn) ?_
      rw [ev]
      intro pv k2 H2 n2 x2 rp
      obtain ⟨f2, m2, e2⟩ := keepO n2 (hh.noF hn) (hh.noMu hn) upd_same
      refine ⟨e2, ?_⟩
      split at d
      · rename_i hl
        split at d
        · rename_i r er
          obtain ⟨kvs, g1, g2, g3, g4⟩ := foldD_ok (acc := []) rp List.nodup_nil rfl (by simp only [List.map_nil, RepL]) er
          have hlen : kvs.length ≤ 15 := by
            have := rp.1.length
            rw [g1] at this
            simp at this
            omega
          exact ⟨kvs, g1, hlen, newD_ok (k := k2) (k1 := k) (H1 := H) (kvs := mergeK [] kvs) ((n0.trans n2).off hn) (x2.off f2 m2) hn f2 m2 upd_same g2 g3 g4 d⟩
        · exact d.elim
      · exact d.elim
end
end KW

set_option Elab.async false
set_option linter.all false
set_option maxRecDepth 100000
set_option maxHeartbeats 4000000
namespace KW
open PySem L2
section
variable {A : Ax} {X : Cx} {N : List Str} {sc : Scope} {pos p : Pos} {a : Expr} {ea : EV}
/-! a, *b = x -/
def sStar (i j : Nat) (a : EV) : EW := fun sw h => (a sw h).st sw fun w h1 => match w with | .tup (x :: rest) => .ok (.next ((sw.set i (some x)).set j (some (.lst rest)))) h1 | _ => .no
@[simp] theorem x_star {i j : Nat} {a : EV} {sw : WS} {h : WH} : sStar i j a sw h = (a sw h).st sw fun w h1 => match w with | .tup (x :: rest) => .ok (.next ((sw.set i (some x)).set j (some (.lst rest)))) h1 | _ => .no := rfl
theorem s_star (x : StOk A N sc X) (i j : Nat) {y z : Str} {py pz p2 pt : Pos} {kt : Nat} (hi : locB N sc i y = true) (hj : locB N sc j z = true) (ha : WE A X a ea)
    (e1 : assignEach [.Name y py, .Starred (.Name z pz) p2] X.env = [(false, assign (.Name y py) X.env), (true, assign (.Name z pz) X.env)])
    (e2 : (assignEach [.Name y py, .Name z pz] X.env).map (·.2) = [assign (.Name y py) X.env, assign (.Name z pz) X.env])
    (hs : swapsWithSole [.Tuple [.Name y py, .Starred (.Name z pz) p2] kt pt] a pos.line X.env = pure false) (hw : swappedStores [.Tuple [.Name y py, .Starred (.Name z pz) p2] kt pt] a X.env = pure none)
    (h1 : (assignEach [.Tuple [.Name y py, .Starred (.Name z pz) p2] kt pt] X.env).map (·.2) = [assign (.Tuple [.Name y py, .Starred (.Name z pz) p2] kt pt) X.env]) :
    WSt A X (.Assign [.Tuple [.Name y py, .Starred (.Name z pz) p2] kt pt] a pos) (sStar i j ea) := fun wx tk po =>
  PS_imp (ps_asg (ha wx tk) (pg_star x.calm (gs_c (g_nm x i hi) (gs_c (g_nm x j hj) wgs_nil rfl) rfl) e1 e2) hs hw h1) fun D σ H ⟨k, sw, h, hs, hh, d⟩ => by
    refine ⟨k, sw, h, hs, hh, (DenS.bind (rp := Rep A.toGx) hs d).imp fun v H1 ⟨k1, w, h1, n1, hh1, r1, hs1, d1⟩ => ?_⟩
    split at d1
    · rename_i u rest
      obtain ⟨pt, vs, rfl, q1, r2⟩ := tupAt hh1 r1
      simp only [RepL] at r2
      obtain ⟨v1, vr, rfl, ru, rr⟩ := r2
      refine ⟨pt, v1, vr, rfl, by rw [x.hK]; exact q1, fun l hl => ?_⟩
      have n2 : Nxt k1 H1 (k1.froz l (.lst vr)) (upd H1 l (.lst vr)) := Nxt.froz hh1 hl
      have f2 := hh1.froz (o := .lst vr) hl
      refine ⟨k1.froz l (.lst vr), sw, h1, [u, .lst rest], (sw.set i (some u)).set j (some (.lst rest)), hs1.mono n2.le, f2, ?_, rfl, fun σ' hs' _ => d1 σ' _ _ n2 f2 hs'⟩
      simp only [RepL]
      refine ⟨v1, _, rfl, ru.mono n2.le, .ref l, [], rfl, ?_, rfl⟩
      simp only [Rep]
      exact ⟨l, vr, rfl, upd_same, rr.mono n2.le⟩
    · exact d1.elim
/-! {k: v for t in it} -/
def compD (src : Option Nat) (ws0 : List W) (t : W → WS → Option WS) (cond : EB) (kx vx : EV) (sw : WS) : List W → List W × List W → WH → R (List W × List W)
  | [], acc, h => if srcOk src ws0 h then .ok acc h else .no
  | w :: rest, acc, h => if srcOk src ws0 h then (match t w sw with
      | none => .no
      | some sw1 => match cond sw1 h with
        | .ok true h1 => (match kx sw1 h1 with
          | .ok y h2 => (match vx sw1 h2 with
            | .ok z h3 => (match keyOfW y with | some k => if acc.1.length < lim then compD src ws0 t cond kx vx sw rest (putD (keyW k) z acc.1 acc.2) h3 else .no | none => .no)
            | _ => .no)
          | _ => .no)
        | .ok false h1 => compD src ws0 t cond kx vx sw rest acc h1
        | _ => .no) else .no
def dDComp (m : Bool) (it : EI) (t : Tg) (cond : EB) (kx vx : EV) (own : List Nat) : EV := fun sw h => (it sw h).bind fun x h1 => (compD x.2 x.1 (tgW t) cond kx vx (wipeW sw own) x.1 ([], []) h1).bind fun r h2 => newD m r h2
@[simp] theorem x_dcomp {m : Bool} {it : EI} {t : Tg} {cond : EB} {kx vx : EV} {own : List Nat} {sw : WS} {h : WH} : dDComp m it t cond kx vx own sw h = (it sw h).bind fun x h1 => (compD x.2 x.1 (tgW t) cond kx vx (wipeW sw own) x.1 ([], []) h1).bind fun r h2 => newD m r h2 := rfl
theorem dcomp_core {m : Bool} {it : EI} {t : Tg} {cond : EB} {kx vx : EV} {own : List Nat} {wx : WX} (hsub : ∀ i ∈ t.slots, i ∈ own) {σ : St} {H : Hp} {Q : VK} (tt : TEx A.toGx wx (dDComp m it t cond kx vx own) σ H Q) :
    tDc (TIx A.toGx wx it) (TGx A.toGx t.slots (tgW t)) (TTx A.toGx (fun _ _ _ _ => False) cond) (TEx A.toGx (fun _ _ _ _ => False) kx) (TEx A.toGx (fun _ _ _ _ => False) vx) own σ H Q := by
  obtain ⟨k, sw, h, hs, hh, d⟩ := tt
  refine ⟨k, sw, h, hs, hh, ?_⟩
  unfold dDComp at d
  cases er : it sw h with
  | no => rw [er] at d; exact d
  | exc c fs vs h' => rw [er] at d; exact d
  | ok u h1 =>
    obtain ⟨ws, src⟩ := u
    rw [er] at d
    dsimp only [R.bind] at d
    intro J k1 H1 n1 x1 wk D hD
    have d1 := d.nxt n1
    have n0 : Nxt k1 H1 k1 (upd H1 D (.dK [])) := Nxt.other hD
    refine ⟨fun i m' H2 => m' = ws.length - i ∧ i ≤ ws.length ∧ ∃ k2 h2 acc va, Nxt k1 H1 k2 H2 ∧ k2.F D = none ∧ D ∉ k2.mu ∧ HRep A.toGx k2 H2 h2 ∧ H2 D = some (.dK va) ∧ (va.map (·.1)).Nodup ∧ acc.1 = va.map (fun x => keyW x.1) ∧ RepL A.toGx k2 acc.2 (va.map (·.2)) ∧
        Den A.toGx (Rep A.toGx) wx k1 H1 σ ((compD src ws (tgW t) cond kx vx (wipeW sw own) (ws.drop i) acc h2).bind fun us h3 => newD m us h3) Q,
      ⟨ws.length, rfl, Nat.zero_le _, k1, h1, ([], []), [], n0, x1.noF hD, x1.noMu hD, x1.other hD, upd_same, List.nodup_nil, rfl, by simp only [List.map_nil, RepL], by rw [List.drop_zero]; exact d1⟩, ?_⟩
    rintro i m' H2 ⟨rfl, hi, k2, h2, acc, va, n2, f2, m2, x2, eD, nd, ea, ra, d2⟩
    by_cases hlt : i < ws.length
    · have ed : ws.drop i = ws[i] :: ws.drop (i + 1) := List.drop_eq_getElem_cons hlt
      rw [ed] at d2
      unfold compD at d2
      split at d2
      · rename_i so
        refine .inr ⟨wk.go i k2 H2 h2 n2 x2 so hlt, fun H' => ∃ k' h' acc' va', Nxt k1 H1 k' H' ∧ k'.F D = none ∧ D ∉ k'.mu ∧ HRep A.toGx k' H' h' ∧ H' D = some (.dK va') ∧ (va'.map (·.1)).Nodup ∧ acc'.1 = va'.map (fun x => keyW x.1) ∧ RepL A.toGx k' acc'.2 (va'.map (·.2)) ∧
            Den A.toGx (Rep A.toGx) wx k1 H1 σ ((compD src ws (tgW t) cond kx vx (wipeW sw own) (ws.drop (i + 1)) acc' h').bind fun us h3 => newD m us h3) Q,
          fun H' q => ⟨ws.length - (i + 1), by omega, rfl, hlt, q⟩, fun x H3 y => ?_⟩
        obtain ⟨k3, n3, x3, r3⟩ := wk.yld i k2 H2 h2 x H3 ws[i] n2 x2 so (by simp) y
        obtain ⟨f3, m3, eD3⟩ := keepO n3 f2 m2 eD
        split at d2
        · exact d2.elim
        · rename_i sw1 et
          have s3 : SRep A.toGx k3 (wipeW sw own) (L2.wipe σ own) := ((hs.mono n1.le).mono (n2.le.trans n3.le)).wipe own
          refine ⟨k3, wipeW sw own, h2, ws[i], sw1, s3, x3, r3, et, fun σ3 hs3 o3 => ⟨wipe_off ⟨o3.1, fun j hj => o3.2 j fun z => hj (hsub j z)⟩, k3, sw1, h2, hs3, x3, ?_⟩⟩
          cases ec : cond sw1 h2 with
          | no => rw [ec] at d2; exact d2.elim
          | exc c fs vs h' => rw [ec] at d2; exact d2.elim
          | ok b hc =>
            rw [ec] at d2
            intro b' k4 H4 n4 x4 eb
            subst eb
            obtain ⟨f4, m4, eD4⟩ := keepO n4 f3 m3 eD3
            cases b with
            | false =>
              rw [if_neg (by decide)]
              exact ⟨k4, hc, acc, va, (n2.trans n3).trans n4, f4, m4, x4, eD4, nd, ea, (ra.mono n3.le).mono n4.le, d2⟩
            | true =>
              rw [if_pos rfl]
              refine ⟨k4, sw1, hc, hs3.mono n4.le, x4, ?_⟩
              dsimp only at d2
              cases ee : kx sw1 hc with
              | no => rw [ee] at d2; exact d2.elim
              | exc c fs vs h' => rw [ee] at d2; exact d2.elim
              | ok yk he =>
                rw [ee] at d2
                dsimp only at d2
                intro vk k5 H5 n5 x5 r5
                obtain ⟨f5, m5, eD5⟩ := keepO n5 f4 m4 eD4
                refine ⟨k5, sw1, he, (hs3.mono n4.le).mono n5.le, x5, ?_⟩
                cases ev : vx sw1 he with
                | no => rw [ev] at d2; exact d2.elim
                | exc c fs vs h' => rw [ev] at d2; exact d2.elim
                | ok zv hv =>
                  rw [ev] at d2
                  dsimp only at d2
                  intro vz k6 H6 n6 x6 r6
                  obtain ⟨f6, m6, eD6⟩ := keepO n6 f5 m5 eD5
                  split at d2
                  · rename_i key ek
                    split at d2
                    · rename_i hl
                      obtain ⟨rfl, _⟩ := keyOf_rep r5 ek
                      have ra6 := (((ra.mono n3.le).mono n4.le).mono n5.le).mono n6.le
                      obtain ⟨i1, i2⟩ := putD_rep (y := key) r6 nd ra6
                      have lv : va.length = acc.1.length := by rw [ea, List.length_map]
                      refine ⟨va, key, rfl, eD6, by rw [lv]; exact Nat.lt_of_lt_of_le hl (lim_le (Nat.le_refl _)), k6, hv, putD (keyW key) zv acc.1 acc.2, putK va key vz, ((((n2.trans n3).trans n4).trans n5).trans n6).off hD, f6, m6, x6.off f6 m6, upd_same, putK_keys nd, ?_, ?_, d2⟩
                      · rw [ea]; exact i1
                      · rw [ea]; exact i2
                    · exact d2.elim
                  · exact d2.elim
      · exact d2.elim
    · have ei : i = ws.length := by omega
      subst ei
      rw [List.drop_length] at d2
      unfold compD at d2
      split at d2
      · rename_i so
        refine .inl ⟨wk.stop k2 H2 h2 n2 x2 so, ?_⟩
        dsimp only [R.bind] at d2
        exact newD_ok n2 x2 hD f2 m2 eD nd ea ra d2
      · exact d2.elim
variable {kxe vxe tg iter : Expr} {ifs : List Expr} {scope : Scope} {own : List (Str × Nat)} {it : EI} {t : Tg} {cond : EB} {kx vx : EV}
theorem we_dcomp {m : Bool} (x : XOk A N sc X) (hi : WI A X tg iter it) (ok : BlkOk N sc scope own) (hsub : ∀ i ∈ t.slots, i ∈ own.map (·.2))
    (hg : ∀ (s : Shared) (H : Hp) (C : Addr) (cl : List (Str × Addr)) (fp : List Addr), WG A (X.blk s H scope (compEnvC scope cl C X.env) fp) tg t)
    (ht : ∀ (s : Shared) (H : Hp) (C : Addr) (cl : List (Str × Addr)) (fp : List Addr), WPT A (X.blk s H scope (compEnvC scope cl C X.env) fp) ifs cond)
    (hk : ∀ (s : Shared) (H : Hp) (C : Addr) (cl : List (Str × Addr)) (fp : List Addr), WE A (X.blk s H scope (compEnvC scope cl C X.env) fp) kxe kx)
    (he : ∀ (s : Shared) (H : Hp) (C : Addr) (cl : List (Str × Addr)) (fp : List Addr), WE A (X.blk s H scope (compEnvC scope cl C X.env) fp) vxe vx) (hs : ∀ x, foldedSetIterable iter X.env x = pure x) :
    WE A X (.DictComp kxe vxe [⟨tg, iter, ifs, 0⟩] scope pos) (dDComp m it t cond kx vx (own.map (·.2))) := fun wx tk =>
  PE_imp (pe_dc x.calm (by rw [x.hN]; exact x.nd) (hi wx tk) (by rw [x.hN, x.hsc]; exact ok) hg (fun s H C cl fp => ht s H C cl fp _ takes0) (fun s H C cl fp => hk s H C cl fp _ takes0) (fun s H C cl fp => he s H C cl fp _ takes0) hs) fun σ H Q t => dcomp_core hsub t
end
end KW

set_option Elab.async false
set_option linter.all false
set_option maxRecDepth 100000
set_option maxHeartbeats 4000000
namespace KW
open PySem L2
/-! isinstance of own classes -/
abbrev Ty := Sum String Nat
def tyX (h : WH) : W → Option Ty
  | .ins c _ _ => some (.inr c)
  | .dct _ _ => some (.inl "dict")
  | .ref r => match h[r]? with
    | some (.lst _) => some (.inl "list")
    | some (.dct _ _) => some (.inl "dict")
    | some (.ins c _ _) => some (.inr c)
    | _ => none
  | w => (tyW h w).map .inl
/-- what isinstance asks of an own class -/
structure InsC1 (K : PySem.W.Frag) (C : Addr) : Prop where
  cl : Cls K C
  ha : PySem.W.findIn K (.ref C) "__class__" = some (some (.builtin "object.__class__"))
  hn : PySem.W.specialIn K (.builtin "object.__class__") "__get__" = some (some (.builtin "getset_descriptor.__get__"))
  htk : PySem.W.takesIn K (.builtin "object.__class__") = some true
  hm : PySem.W.mroIn K C (.type "object") = some true
/-- the table of isinstance's answers: own classes -/
def IsaOk (A : Ax) (isa : Ty → Nat → Option Bool) : Prop := ∀ t d b, isa t d = some b → ∃ D, A.cl d = some D ∧ match t with
  | .inl s => PySem.W.kitOne A.K (.type s) (.ref D) = some b
  | .inr c => ∃ C, A.cl c = some C ∧ InsC1 A.K C ∧ PySem.W.kitOne A.K (.ref C) (.ref D) = some b
def dIsC (isa : Ty → Nat → Option Bool) (d : Nat) (a : EV) : EV := fun sw h => (a sw h).bind fun w h1 => match (tyX h1 w).bind fun t => isa t d with | some b => .ok (.bl b) h1 | none => .no
@[simp] theorem x_isC {isa : Ty → Nat → Option Bool} {d : Nat} {a : EV} {sw : WS} {h : WH} : dIsC isa d a sw h = (a sw h).bind fun w h1 => match (tyX h1 w).bind fun t => isa t d with | some b => .ok (.bl b) h1 | none => .no := rfl
section
variable {A : Ax} {X : Cx} {N : List Str} {sc : Scope} {pos p p2 : Pos} {a : Expr} {ea : EV}
theorem tyX_ok {k : Ka} {H : Hp} {h : WH} {w : W} {v : V} {isa : Ty → Nat → Option Bool} (I : IsaOk A isa) {d : Nat} {t : Ty} {b : Bool} (hh : HRep A.toGx k H h) (r : Rep A.toGx k w v) (e : tyX h w = some t) (ei : isa t d = some b) :
    ∃ D tv, A.cl d = some D ∧ TyX A.K H v tv ∧ PySem.W.kitOne A.K tv (.ref D) = some b := by
  obtain ⟨D, e1, ht⟩ := I t d b ei
  have old : ∀ {w : W}, Rep A.toGx k w v → (tyW h w).map Sum.inl = some t → ∃ D tv, A.cl d = some D ∧ TyX A.K H v tv ∧ PySem.W.kitOne A.K tv (.ref D) = some b := fun {w} r e => by
    obtain ⟨s, e2, rfl⟩ := Option.map_eq_some_iff.mp e
    exact ⟨D, .type s, e1, tyW_ok hh r e2, ht⟩
  cases w with
  | ins c fs vs =>
    simp only [tyX, Option.some.injEq] at e
    subst e
    obtain ⟨C, e2, ic, hk⟩ := ht
    simp only [Rep] at r
    obtain ⟨q, C', dx, fvs, rfl, ⟨e3, _⟩, hq, _, _⟩ := r
    rw [e2] at e3; cases e3
    exact ⟨D, .ref C, e1, .base (.ins (hh.sub _ _ hq) ic.cl ic.ha ic.hn ic.htk ic.hm), hk⟩
  | dct ks vs =>
    simp only [tyX, Option.some.injEq] at e
    subst e
    simp only [Rep] at r
    obtain ⟨q, kvs, rfl, hq, _, _⟩ := r
    exact ⟨D, .type "dict", e1, .base (.dK (hh.sub _ _ hq)), ht⟩
  | ref r0 =>
    simp only [tyX] at e
    split at e
    · rename_i ws ho
      cases e
      obtain ⟨q, rfl, em, vs, eH, rr⟩ := ref_at hh r ho
      exact ⟨D, .type "list", e1, .base (.lst eH), ht⟩
    · rename_i ks ws ho
      cases e
      obtain ⟨q, rfl, em, kvs, eH, rr⟩ := ref_at hh r ho
      exact ⟨D, .type "dict", e1, .base (.dK eH), ht⟩
    · rename_i c fs vs ho
      cases e
      obtain ⟨C, e2, ic, hk⟩ := ht
      obtain ⟨q, rfl, em, C', dx, fvs, ⟨e3, _⟩, eH, _, _⟩ := ref_at hh r ho
      rw [e2] at e3; cases e3
      exact ⟨D, .ref C, e1, .base (.ins eH ic.cl ic.ha ic.hn ic.htk ic.hm), hk⟩
    · cases e
  | non => exact old r e
  | bl _ => exact old r e
  | int _ => exact old r e
  | str _ => exact old r e
  | tup _ => exact old r e
  | lst _ => exact old r e
  | scr _ => exact old r e
theorem we_isC (x : XOk A N sc X) {isa : Ty → Nat → Option Bool} (I : IsaOk A isa) (d : Nat) {T : Str} (ha : WE A X a ea) (hg : A.gt.lookup ("isinstance" : Str) = some .blt) (h : gloB sc ("isinstance" : Str) = true) (hg2 : A.gt.lookup T = some (.cls d)) (h2 : gloB sc T = true) (h3 : nonStar a = true) :
    WE A X (.Call (.Name "isinstance" p) [a, .Name T p2] [] pos) (dIsC isa d ea) := fun wx tk => by
  obtain ⟨D, e1, hm⟩ := x.glob.cls T d hg2
  refine PE_imp (pe_callB call_isi (gl_of x (gloB_ok h).1) (x.glob.blt _ hg) (by rfl) (pa_cons (ha wx tk) (pa_cons (pe_glob (v := .ref D) (gl_of x (gloB_ok h2).1) hm rfl (gloB_ok h2).2.1) pa_nil rfl) (star_ok h3)) (by decide +kernel) (by decide +kernel) (star_ok h3) (by rfl)) fun σ H Q t => ?_
  obtain ⟨k, sw, h0, hs, hh, d0⟩ := TEx.bind t
  refine ⟨k, sw, h0, hs, hh, d0.imp fun v H1 ⟨k1, sw1, w, h1, hs1, hh1, r, d1⟩ => ?_⟩
  split at d1
  · rename_i b e
    obtain ⟨t, e2, e3⟩ := Option.bind_eq_some_iff.mp e
    obtain ⟨D', tv, e4, ty, kt⟩ := tyX_ok I hh1 r e2 e3
    rw [e1] at e4; cases e4
    exact ⟨v, .ref D, tv, .ref D, b, rfl, .own D, x.hK ▸ ty, by rw [x.hK]; exact kt, d1 _ k1 H1 (.refl _ _) hh1 (by simp only [Rep])⟩
  · exact d1.elim
/-! isinstance of a built-in class, of wider values -/
def isbT (T : String) : Ty → Option Bool
  | .inl t => kitB t T
  | .inr _ => none
end
end KW

set_option Elab.async false
set_option linter.all false
set_option maxRecDepth 100000
set_option maxHeartbeats 4000000
namespace KW
open PySem L2 RZ
/-! zip -/
def zipW (as bs : List W) : List W := (as.zip bs).map fun p => .tup [p.1, p.2]
theorem zipW_get {as bs : List W} {i : Nat} {w : W} (h : (zipW as bs)[i]? = some w) : ∃ x y, as[i]? = some x ∧ bs[i]? = some y ∧ w = .tup [x, y] := by
  simp only [zipW, List.getElem?_map, Option.map_eq_some_iff] at h
  obtain ⟨⟨x, y⟩, e, rfl⟩ := h
  rw [List.getElem?_zip_eq_some] at e
  exact ⟨x, y, e.1, e.2, rfl⟩
theorem zipW_len {as bs : List W} : (zipW as bs).length = min as.length bs.length := by simp [zipW]
theorem pair2_new {G : Gx} {k : Ka} {H : Hp} {h : WH} {T : Addr} {a b : W} {u v : V} (x : HRep G k H h) (hT : H T = none) (ra : Rep G k a u) (rb : Rep G k b v) :
    ∃ k', Nxt k H k' (upd H T (.tup [u, v])) ∧ HRep G k' (upd H T (.tup [u, v])) h ∧ Rep G k' (.tup [a, b]) (.ref T) := by
  refine ⟨k.froz T (.tup [u, v]), Nxt.froz x hT, x.froz hT, ?_⟩
  simp only [Rep]
  refine ⟨T, _, rfl, .inl (.inl upd_same), ?_⟩
  simp only [RepL]
  have l := (Nxt.froz x hT (o := .tup [u, v])).le
  exact ⟨_, _, rfl, ra.mono l, _, _, rfl, rb.mono l, rfl⟩
theorem walks_zipT {G : Gx} {k : Ka} {H : Hp} {p q : Addr} {as bs : List W} {us vs : List V} (hp : SqT G.K k.F p us) (hq : SqT G.K k.F q vs) (ra : RepL G k as us) (rb : RepL G k bs vs) : Walks G (ItzT G.K p q) k H (zipW as bs) none where
  go := fun i k2 H2 h2 n2 x2 _ hi => by
    rw [zipW_len] at hi
    exact ⟨us, vs, us[i]'(by rw [ra.length]; omega), vs[i]'(by rw [rb.length]; omega), Ka.Le.seqT x2.sub (Ka.Le.seqT n2.le.F hp), Ka.Le.seqT x2.sub (Ka.Le.seqT n2.le.F hq), by simp, by simp⟩
  stop := fun k2 H2 h2 n2 x2 _ => ⟨us, vs, Ka.Le.seqT x2.sub (Ka.Le.seqT n2.le.F hp), Ka.Le.seqT x2.sub (Ka.Le.seqT n2.le.F hq), by rw [ra.length, rb.length, zipW_len]; omega⟩
  yld := fun i k2 H2 h2 y H3 w n2 x2 _ e yy => by
    obtain ⟨T, u, v, rfl, hT, rfl, y1, y2⟩ := yy
    obtain ⟨a, b, e1, e2, rfl⟩ := zipW_get e
    obtain ⟨u2, e3, r3⟩ := (ra.mono n2.le).get e1
    obtain ⟨v2, e4, r4⟩ := (rb.mono n2.le).get e2
    have e5 := y1 us (Ka.Le.seqT x2.sub (Ka.Le.seqT n2.le.F hp))
    have e6 := y2 vs (Ka.Le.seqT x2.sub (Ka.Le.seqT n2.le.F hq))
    rw [e3] at e5; cases e5
    rw [e4] at e6; cases e6
    exact pair2_new x2 hT r3 r4
theorem walks_zipF {G : Gx} {k : Ka} {H : Hp} {p q : Addr} {as bs : List W} {us vs : List V} (hp : k.F p = some (.lst us)) (hq : k.F q = some (.lst vs)) (ra : RepL G k as us) (rb : RepL G k bs vs) : Walks G (Itz G.K p q) k H (zipW as bs) none where
  go := fun i k2 H2 h2 n2 x2 _ hi => by
    rw [zipW_len] at hi
    exact ⟨us, vs, us[i]'(by rw [ra.length]; omega), vs[i]'(by rw [rb.length]; omega), SqL.of (x2.sub _ _ (n2.le.F _ _ hp)), SqL.of (x2.sub _ _ (n2.le.F _ _ hq)), by simp, by simp⟩
  stop := fun k2 H2 h2 n2 x2 _ => ⟨us, vs, SqL.of (x2.sub _ _ (n2.le.F _ _ hp)), SqL.of (x2.sub _ _ (n2.le.F _ _ hq)), by rw [ra.length, rb.length, zipW_len]; omega⟩
  yld := fun i k2 H2 h2 y H3 w n2 x2 _ e yy => by
    obtain ⟨T, u, v, rfl, hT, rfl, y1, y2⟩ := yy
    obtain ⟨a, b, e1, e2, rfl⟩ := zipW_get e
    obtain ⟨u2, e3, r3⟩ := (ra.mono n2.le).get e1
    obtain ⟨v2, e4, r4⟩ := (rb.mono n2.le).get e2
    have e5 := y1 us (SqL.of (x2.sub _ _ (n2.le.F _ _ hp)))
    have e6 := y2 vs (SqL.of (x2.sub _ _ (n2.le.F _ _ hq)))
    rw [e3] at e5; cases e5
    rw [e4] at e6; cases e6
    exact pair2_new x2 hT r3 r4
def iZip (a : EA) : EI := fun sw h => (a sw h).bind fun ws h1 => match ws with
  | [.tup as, .tup bs] => .ok (zipW as bs, none) h1
  | [.lst as, .lst bs] => .ok (zipW as bs, none) h1
  | _ => .no
@[simp] theorem x_zip {a : EA} {sw : WS} {h : WH} : iZip a sw h = (a sw h).bind fun ws h1 => match ws with
  | [.tup as, .tup bs] => .ok (zipW as bs, none) h1
  | [.lst as, .lst bs] => .ok (zipW as bs, none) h1
  | _ => .no := rfl
section
variable {A : Ax} {X : Cx} {N : List Str} {sc : Scope} {a b c : Expr} {aa : EA} {p pos tpos : Pos} {elts : List Expr} {kk : Nat}
theorem i_zip (x : XOk A N sc X) (hg : A.gt.lookup ("zip" : Str) = some .blt) (h : gloB sc ("zip" : Str) = true) (ha : WA A X [a, b] aa) (h3 : [a, b].all nonStar = true) : WI A X (.Tuple elts kk tpos) (.Call (.Name "zip" p) [a, b] [] pos) (iZip aa) := fun wx tk => by
  simp only [List.all_cons, List.all_nil, Bool.and_eq_true] at h3
  refine PI_imp (pi_zipA (gl_of x (gloB_ok h).1) (x.glob.blt _ hg) (ha wx tk) (star_ok h3.1) (stars_any (es := [b]) (by simp [h3.2.1]))) fun σ H Q t => ?_
  obtain ⟨k, sw, h, hs, hh, d⟩ := TIx.args t
  refine ⟨k, sw, h, hs, hh, d.imp fun vs H1 ⟨k1, ws, h1, x1, r1, d1⟩ => ?_⟩
  rw [x.hK]
  split at d1
  · rename_i as bs
    obtain ⟨u, v, rfl, ru, rv⟩ := rep2 r1
    simp only [Rep] at ru rv
    obtain ⟨p1, us, rfl, q1, ra⟩ := ru
    obtain ⟨p2, vs, rfl, q2, rb⟩ := rv
    exact ⟨p1, p2, us, vs, rfl, .inr ⟨Ka.Le.seqT x1.sub q1, Ka.Le.seqT x1.sub q2, d1 _ k1 H1 (.refl _ _) x1 (walks_zipT q1 q2 ra rb)⟩⟩
  · rename_i as bs
    obtain ⟨u, v, rfl, ru, rv⟩ := rep2 r1
    simp only [Rep] at ru rv
    obtain ⟨p1, us, rfl, q1, ra⟩ := ru
    obtain ⟨p2, vs, rfl, q2, rb⟩ := rv
    exact ⟨p1, p2, us, vs, rfl, .inl ⟨SqL.of (x1.sub _ _ q1), SqL.of (x1.sub _ _ q2), d1 _ k1 H1 (.refl _ _) x1 (walks_zipF q1 q2 ra rb)⟩⟩
  · exact d1.elim
/-! a, b, c = x, y, z -/
def sPar3 (i j l : Nat) (a : EA) : EW := fun sw h => (a sw h).st sw fun ws h1 => match ws with | [w, u, v] => .ok (.next (((sw.set i (some w)).set j (some u)).set l (some v))) h1 | _ => .no
@[simp] theorem x_par3 {i j l : Nat} {a : EA} {sw : WS} {h : WH} : sPar3 i j l a sw h = (a sw h).st sw fun ws h1 => match ws with | [w, u, v] => .ok (.next (((sw.set i (some w)).set j (some u)).set l (some v))) h1 | _ => .no := rfl
theorem s_par3 (x : StOk A N sc X) (i j l : Nat) {y z w : Str} {px py pz pt pt2 : Pos} {kt k2 : Nat} (h : (cmpB N sc i y && cmpB N sc j z && cmpB N sc l w && !(i == j) && !(i == l) && !(j == l)) = true) (ha : WA A X [a, b, c] aa)
    (hw : swappedStores [.Tuple [.Name y px, .Name z py, .Name w pz] kt pt] (.Tuple [a, b, c] k2 pt2) (envS X sc) = pure (some [y, z, w])) (hs : swapsWithSole [.Tuple [.Name y px, .Name z py, .Name w pz] kt pt] (.Tuple [a, b, c] k2 pt2) pos.line X.env = pure false) :
    WSt A X (.Assign [.Tuple [.Name y px, .Name z py, .Name w pz] kt pt] (.Tuple [a, b, c] k2 pt2) pos) (sPar3 i j l aa) := fun wx tk po => by
  simp only [Bool.and_eq_true, cmpB, decide_eq_true_eq, Bool.not_eq_true', beq_eq_false_iff_ne] at h
  obtain ⟨⟨⟨⟨⟨h1, h2⟩, h3⟩, h4⟩, h5⟩, h6⟩ := h
  refine PS_imp (ps_par3 x.calm (by rw [x.hN]; exact x.nd) (by rw [x.hN]; exact h1.1) (by rw [x.hN]; exact h2.1) (by rw [x.hN]; exact h3.1) h4 h5 h6 (by rw [x.hsc]; exact h1.2) (by rw [x.hsc]; exact h2.2) (by rw [x.hsc]; exact h3.2) (ha wx tk) ((swapped_env x.hsc).trans hw) hs) fun D σ H ⟨k, sw, h, hs, hh, d⟩ => ?_
  refine ⟨k, sw, h, hs, hh, (DenS.bind (rp := RepL A.toGx) hs d).imp fun vs H1 ⟨k1, ws, h1, n1, hh1, r1, hs1, d1⟩ => ?_⟩
  split at d1
  · simp only [RepL] at r1
    obtain ⟨v1, _, rfl, q1, v2, _, rfl, q2, v3, _, rfl, q3, rfl⟩ := r1
    exact ⟨v1, v2, v3, rfl, d1 _ k1 H1 (.refl _ _) hh1 (((hs1.set i q1).set j q2).set l q3)⟩
  · exact d1.elim
end
/-! tuples that are constants of the module -/
theorem ge_tup {A : Ax} {mg : Str → Option Value} {x : Str} {a : Addr} {d : Option Addr} {its : Array Value} {n : Nat} {sl : Array (Option Value)} {ws : List W} {vs : List V} (h : mg x = some (.ref a)) (hl : A.K.lookup a = some ⟨.type "tuple", d, .seq its n, sl⟩) (hz : its.size ≤ sizeLine)
    (hv : Vals vs its.toList) (hr : ∀ k, RepL A.toGx k ws vs) : GE A mg x (.cst (.tup ws)) :=
  ⟨_, .ref a, h, rfl, fun k => by simp only [Rep]; exact ⟨a, vs, rfl, .inr ⟨_, its, n, hl, rfl, rfl, hz, hv⟩, hr k⟩⟩
theorem repl_nil {G : Gx} {k : Ka} : RepL G k [] [] := by simp only [RepL]
theorem repl_str {G : Gx} {k : Ka} {s : Str} {ws : List W} {vs : List V} (h : RepL G k ws vs) : RepL G k (.str s :: ws) (.str s :: vs) := by
  simp only [RepL]; exact ⟨_, _, rfl, by simp only [Rep], h⟩
theorem repl_int {G : Gx} {k : Ka} {s : Int} {ws : List W} {vs : List V} (h : RepL G k ws vs) : RepL G k (.int s :: ws) (.int s :: vs) := by
  simp only [RepL]; exact ⟨_, _, rfl, by simp only [Rep], h⟩
theorem vals_str {s : Str} {t : Tok} {vs : List V} {us : List Value} (h : Vals vs us) : Vals (.str s :: vs) (.str s t :: us) := .cons ⟨t, rfl⟩ h
theorem vals_int {s : Int} {t : Tok} {vs : List V} {us : List Value} (h : Vals vs us) : Vals (.int s :: vs) (.int s t :: us) := .cons ⟨t, rfl⟩ h
end KW

set_option Elab.async false
set_option linter.all false
set_option maxRecDepth 100000
set_option maxHeartbeats 4000000
/-! repr -/
namespace KW
open PySem L2
def rRepr (K : PySem.W.Frag) : List V → Hp → VK → Prop := fun xs H Q => ∃ x d, xs = [x] ∧ Dp K H x d ∧ d.showable = true ∧ d.depth ≤ 60 ∧ d.shown.length ≤ sizeLine ∧ Q (.str d.shown) H
section
variable {A : Ax} {X : Cx} {N : List Str} {sc : Scope} {e : Expr} {es : List Expr} {aa : EA} {p pos : Pos}
mutual
theorem dp_noD {K : PySem.W.Frag} {H : Hp} : ∀ (d : PyData) (v : V), Dp K H v d → d.hasDict = false
  | .none, _, _ => by simp only [PyData.hasDict]
  | .bool _, _, _ => by simp only [PyData.hasDict]
  | .int _, _, _ => by simp only [PyData.hasDict]
  | .str _, _, _ => by simp only [PyData.hasDict]
  | .list ds, _, h => by
    cases h with
    | lst _ ha => simp only [PyData.hasDict]; exact dps_noD ds _ ha
  | .tuple ds, _, h => by
    cases h with
    | tup _ ha => simp only [PyData.hasDict]; exact dps_noD ds _ ha
  | .dict _, _, h => by cases h
theorem dps_noD {K : PySem.W.Frag} {H : Hp} : ∀ (ds : List PyData) (vs : List V), DpAll K H vs ds → PyData.hasDictAll ds = false
  | [], _, _ => by simp only [PyData.hasDictAll]
  | d :: ds, _, h => by
    cases h with
    | cons h1 h2 => simp only [PyData.hasDictAll, dp_noD d _ h1, dps_noD ds _ h2, Bool.or_self]
end
theorem dp_noDict {K : PySem.W.Frag} {H : Hp} {d : PyData} {v : V} (h : Dp K H v d) : d.hasDict = false := dp_noD d v h
theorem call_repr (x : XOk A N sc X) : CallR X (.builtin "repr") (rRepr X.K) := by
  intro pins s σ H xs us Q I r h
  obtain ⟨v, d, rfl, hd, h1, h3, h4, q⟩ := h
  have hn := dp_noDict hd
  cases r with
  | @cons _ u _ _ r1 rr =>
    cases rr
    have fin : ∀ (h' : Heap) (t : Tok) (tk : Nat), (∀ b o, s.heap.get? b = some o → h'.get? b = some o) → EP X pins σ Q (.str d.shown t) { s with heap := h', toks := tk } := fun h' t tk k => ⟨.str d.shown, H, I.kept k, ⟨t, rfl⟩, q⟩
    have f0 : ∀ (t : Tok) (tk : Nat), EP X pins σ Q (.str d.shown t) { s with toks := tk } := fun t tk => fin s.heap t tk fun _ _ z => z
    obtain ⟨as, rd⟩ := Dp.reads I d _ _ hd r1
    cases rd with
    | none => exact PySem.P.repr_of_none (f0 _ _)
    | bool b => exact PySem.P.repr_of_bool (by have := f0 s.toks (s.toks + 1); cases b <;> exact this)
    | int i t => exact PySem.P.repr_of_int (by simpa [PyData.showable] using h1) (f0 _ _)
    | str y t => exact PySem.P.repr_of_str (f0 _ _) (hsz := h4)
    | list a1 a2 a3 a4 => exact repr_of_reads' (.list a1 a2 a3 a4) h1 (fun z => by rw [hn] at z; cases z) x.gd (by have := x.un; omega) (fun _ _ z => z) (fun h' t tk k => fin h' t tk k) (hsz := h4)
    | tuple a1 a2 a3 a4 => exact repr_of_reads' (.tuple a1 a2 a3 a4) h1 (fun z => by rw [hn] at z; cases z) x.gd (by have := x.un; omega) (fun _ _ z => z) (fun h' t tk k => fin h' t tk k) (hsz := h4)
    | dict a1 a2 a3 a4 a5 => simp [PyData.hasDict] at hn
/-- can it be shown? -/
def showB (d : PyData) : Bool := d.showable && decide (d.depth ≤ 60) && decide (d.shown.length ≤ lim)
def bRepr (ws : List W) (h : WH) : R W := match ws with
  | [w] => (match datH h w with | some d => if showB d = true then .ok (.str d.shown) h else .no | none => .no)
  | _ => .no
theorem cw_repr (hK : X.K = A.K) : CallW A X (rRepr X.K) bRepr := by
  intro wx k H σ h ws vs Q hh r d
  unfold bRepr at d
  split at d
  · rename_i w
    obtain ⟨v, rfl, r1⟩ := rep1 r
    split at d
    · rename_i da e
      split at d
      · rename_i hs
        simp only [showB, Bool.and_eq_true, decide_eq_true_eq] at hs
        exact ⟨v, da, rfl, by rw [hK]; exact dpH_of hh r1 e, hs.1.1, hs.1.2, lim_le hs.2, den_val hh (by simp only [Rep]) d⟩
      · exact d.elim
    · exact d.elim
  · exact d.elim
theorem b_repr (x : XOk A N sc X) (hg : A.gt.lookup ("repr" : Str) = some .blt) (h : gloB sc ("repr" : Str) = true) (ha : WA A X (e :: es) aa) (h3 : (e :: es).all nonStar = true) : WE A X (.Call (.Name "repr" p) (e :: es) [] pos) (dBi bRepr aa) :=
  bB x (call_repr x) (cw_repr x.hK) (by decide +kernel) hg h ha h3
end
end KW

set_option Elab.async false
set_option linter.all false
set_option maxRecDepth 100000
set_option maxHeartbeats 4000000
/-! len(set(a list of texts)) -/
namespace KW
open PySem L2 PySem.Spec PyProof.Rows
section
variable {prog : Program} {w : World} {A : Around} {E : Value → Shared → Prop} {s : Shared}
theorem call_setL {l : Addr} {items : Array Value} {xs : List Str} {Q : Value → Shared → Prop} (hh : A.handled = none) (hl : s.heap.IsList l items) (hi : StrsAre items.toList xs) (hn : xs.length < 4000)
    (h : ∀ (h' : Heap) (tk : Nat), HasTo prog w h' s.heap.objs.size xs → (∀ b o, s.heap.get? b = some o → h'.get? b = some o) → Q (.ref s.heap.objs.size) { s with heap := h', toks := tk }) :
    wpAny (model prog w) A (call (.type "set") [.ref l]) Q E s := by
  obtain ⟨c, tl, hmro⟩ := F.called_set.mro
  have k1 := F.called_set.made
  have k2 := F.called_set.sub
  refine wpAny_call (codeAny_of_tree ?_)
  show wpAny _ _ (callAny (.type "set") _) _ _ _
  refine wpAny_pure ⟨Code.quiet_builtin _ (by decide +kernel), codeAny_builtin F.entry_type_call ?_⟩
  rw [Around.under_plain (weight_type_call_type "set" [.ref l] []) rfl]
  have k3 := F.called_set.notType
  have k4 := F.called_set.canCreate
  have k5 := F.typeCall_set_1 (.ref l)
  repeat (any_goals (first | assumption | wp_step))
  refine codeAny_mono (code_set_new_1 (.ref l) (E := E) (Q₁ := fun ob s1 => ∃ led : Bool, ob = .ref s.heap.objs.size ∧ s1 = { s with heap := s.heap.push (emptySet led) }) fun led => ⟨led, rfl, rfl⟩) fun r s1 hr => ?_
  cases r with
  | error e => exact hr
  | ok fl =>
    cases fl with
    | ret ob =>
      obtain ⟨led, rfl, rfl⟩ := hr
      have hS : (s.heap.push (emptySet led)).get? s.heap.objs.size = some (emptySet led) := Heap.get?_push_size _ rfl
      have hT : Shared.TypeIs { s with heap := s.heap.push (emptySet led) } (.ref s.heap.objs.size) "set" := ⟨_, hS, rfl⟩
      have k6 := F.called_set.init.lookup
      have k7 := F.called_set.init.bind (.ref s.heap.objs.size)
      repeat (any_goals (first | assumption | wp_step))
      refine codeAny_mono (codeAny_call_builtin (R := wants (fun r s2 => r = .none ∧ ∃ h' tk, s2 = { s with heap := h', toks := tk } ∧ HasTo prog w h' s.heap.objs.size xs ∧ (∀ b o, s.heap.get? b = some o → h'.get? b = some o)) E)
        F.called_set.init.plain F.entry_set_init (check_set_init_1 hT ?_)) fun r2 s2 hr2 => ?_
      · obtain ⟨⟨cl, dc, dt, sl⟩, ho, e1, nl, e2⟩ := hl
        simp only at e1 e2
        subst e1 e2
        have ho2 : (s.heap.push (emptySet led)).get? l = some { cls := .type "list", dict := dc, data := .seq items nl, slots := sl } := Heap.get?_push_of_some _ ho
        have k8 := F.sub_list_set
        have k9 := F.sub_list_frozenset
        have ne : (Value.type "list" == Value.type "dict") = false := by decide
        have hl2 : (s.heap.push (emptySet led)).IsList l items := ⟨_, ho2, rfl, nl, rfl⟩
        unfold Builtin.«set.__init__» noKeywords Builtin.Frozenset.updateFrom
        generalize hPI : pyIter = PI
        wp_walk
        subst hPI
        refine wpAny_pyIter_list hl2 (wpAny_bind (wpAny_runValue ?_))
        have lS : l < s.heap.objs.size := Heap.lt_size ho
        have hh3 : A.in1.in1.in1.handled = none := by simp [hh]
        have zz : (s.heap.push (emptySet led)).objs.size = s.heap.objs.size + 1 := Heap.size_push ..
        have nI : l ≠ (s.heap.push (emptySet led)).objs.size := by rw [zz]; exact Nat.ne_of_lt (Nat.lt_succ_of_lt lS)
        have nS : s.heap.objs.size ∉ [(s.heap.push (emptySet led)).objs.size, l] := by
          rw [zz]
          simp only [List.mem_cons, List.not_mem_nil, or_false, not_or]
          exact ⟨Nat.ne_of_lt (Nat.lt_succ_self _), Nat.ne_of_gt lS⟩
        have sz : xs.length = items.size := by rw [← StrsAre.len_eq hi, Array.length_toList]
        refine fillTexts ((Walks.list hh3 _ l nI items).toS) s.heap.objs.size nS xs sz (by omega) (fun i v hv => texts_at hi (by rw [Array.getElem?_toList]; exact hv)) (items.size - 0) 0 _ rfl (Nat.zero_le _)
          ⟨⟨_, Heap.get?_push_size _ rfl, rfl, rfl⟩, hl2.push _⟩ ?first ?last
        case first =>
          have g := Heap.get?_push_of_some { cls := .type "list_iterator", data := .fields #[.ref l, .int 0 0] } hS
          exact SetOf_congr ((setObjOf_fresh (knd := PySem.strKind prog w) led).setOf g (by unfold scanBound; omega)) (fun _ => by simp) (by simp [unlike])
        case last =>
          intro s3 mv hS3
          obtain ⟨h3, g3, d3, t3, o3⟩ := s3
          obtain rfl : g3 = s.gens := mv.gens
          obtain rfl : d3 = s.drawn := mv.drawn
          obtain rfl : o3 = s.os := mv.os
          show wpAny _ _ _ _ _ _
          refine wpAny_pure ?_
          show wpAny _ _ (ret Value.none) _ _ _
          refine wpAny_pure ⟨rfl, h3, t3, rfl, hS3, fun b o q => ?_⟩
          have lb := Heap.lt_size q
          refine mv.heap b o ?_ (Heap.get?_push_of_some _ (Heap.get?_push_of_some _ q))
          rw [zz]
          simp only [List.mem_cons, List.not_mem_nil, or_false, not_or]
          exact ⟨Nat.ne_of_lt lb, Nat.ne_of_lt (Nat.lt_succ_of_lt lb)⟩
      · cases r2 with
        | error e => exact hr2
        | ok f2 =>
          cases f2 with
          | ret r =>
            obtain ⟨rfl, h2, tk, rfl, hS2, hk2⟩ := hr2
            repeat (any_goals (first | assumption | wp_step))
            exact h _ _ hS2 hk2
          | _ => exact hr2.elim
    | _ => exact hr.elim
end
/-- len(set(l)), l a list of texts -/
def tLenSetL (K : PySem.W.Frag) (ta : TE) : TE := fun σ H Q => ta σ H fun x H1 => ∃ l, ∃ xs : List Str, x = .ref l ∧ SqL K H1 l (xs.map V.str) ∧ xs.length < 4000 ∧ Q (.int (unlike xs).length) H1
theorem pe_lenSetL {X : Cx} {a : Expr} {ta : TE} {p p2 q pos : Pos} (hc : X.calm = true) (hg : Gl X "len") (hm : X.mg "len" = none) (hg2 : Gl X "set") (hm2 : X.mg "set" = none) (ha : PE X a ta)
    (na : starEach [a] X.env = (false, eval a X.env) :: starEach [] X.env) : PE X (.Call (.Name "len" p) [.Call (.Name "set" p2) [a] [] q] [] pos) (tLenSetL X.K ta) := by
  refine ⟨fun pins s σ H Q I h => Call_ (ld_blt I hg hm boot_len ?_)⟩
  refine PyProof.Rows.callWith_builtin1 (PyProof.Rows.args_cons ?_ rfl) rfl rfl
  refine Call_ (ld_blt I hg2 hm2 boot_set ?_)
  refine PyProof.Rows.callWith_type1 (PyProof.Rows.args_cons (thn (ha.run pins s σ H _ I h) fun v s1 ⟨x, H1, I1, r1, l, xs, ex, hq, hn, q1⟩ => PyProof.Rows.args_nil ?_) na) na rfl
  subst ex
  cases r1
  obtain ⟨its, r, pl, hz⟩ := I1.list hq
  refine call_setL (I1.ok.hd hc) pl.isList (by simpa using strsAre_of r) hn fun h' tk hS hk => PyProof.Rows.args_nil ?_
  obtain ⟨o, es, ep, t, ho, hex, hd, _, _, _, hf, ec⟩ := hS
  have I2 : Inv X pins σ H1 { s1 with heap := h', toks := tk } := I1.kept hk
  have ln := unlike_len xs []
  simp only [List.length_nil, Nat.zero_add] at ln
  have ec2 : es.size = (unlike xs).length := ec
  exact call_len_set ho hex hd hf (by rw [ec2]; have : (unlike xs).length < 4000 := Nat.lt_of_le_of_lt ln hn; omega) ⟨.int (unlike xs).length, H1, I2.tok _, ⟨_, by rw [ec2]⟩, q1⟩
/-- of a tuple, or of a list -/
def dLenSetA (a : EV) : EV := fun sw h => (a sw h).bind fun w h1 => match w with
  | .tup ws => (match strsOf ws with | some ss => if ss.length < 4000 then .ok (.int (unlike ss).length) h1 else .no | none => .no)
  | w => (match (lstOf h1 w).bind strsOf with | some ss => if ss.length < 4000 then .ok (.int (unlike ss).length) h1 else .no | none => .no)
theorem pe_or {X : Cx} {e : Expr} {t u : TE} (h : PE X e t) (h' : PE X e u) : PE X e (fun σ H Q => t σ H Q ∨ u σ H Q) := ⟨fun pins s σ H Q I q => q.elim (h.run pins s σ H Q I) (h'.run pins s σ H Q I)⟩
section
variable {A : Ax} {X : Cx} {N : List Str} {sc : Scope} {a : Expr} {ea : EV} {p p2 q pos : Pos}
theorem b_lenSetA (x : XOk A N sc X) (hg : A.gt.lookup ("len" : Str) = some .blt) (h : gloB sc ("len" : Str) = true) (hg2 : A.gt.lookup ("set" : Str) = some .blt) (h2 : gloB sc ("set" : Str) = true) (ha : WE A X a ea) (h3 : nonStar a = true) :
    WE A X (.Call (.Name "len" p) [.Call (.Name "set" p2) [a] [] q] [] pos) (dLenSetA ea) := fun wx tk =>
  PE_imp (pe_or (pe_lenSetT x.calm (gl_of x (gloB_ok h).1) (x.glob.blt _ hg) (gl_of x (gloB_ok h2).1) (x.glob.blt _ hg2) (ha wx tk) (star_ok h3)) (pe_lenSetL x.calm (gl_of x (gloB_ok h).1) (x.glob.blt _ hg) (gl_of x (gloB_ok h2).1) (x.glob.blt _ hg2) (ha wx tk) (star_ok h3))) fun σ H Q ⟨k, sw, h, hs, hh, d⟩ => by
    have d0 : Den A.toGx (Rep A.toGx) wx k H σ ((ea sw h).bind fun w h1 => match w with
      | .tup ws => (match strsOf ws with | some ss => if ss.length < 4000 then .ok (.int (unlike ss).length) h1 else .no | none => .no)
      | w => (match (lstOf h1 w).bind strsOf with | some ss => if ss.length < 4000 then .ok (.int (unlike ss).length) h1 else .no | none => .no)) Q := d
    by_cases z : ∃ ws h1, ea sw h = .ok (.tup ws) h1
    · obtain ⟨ws, h1, e⟩ := z
      refine .inl ⟨k, sw, h, hs, hh, ?_⟩
      rw [e] at d0 ⊢
      dsimp only [R.bind] at d0
      intro v k1 H1 n1 hh1 r
      split at d0
      · rename_i ss es
        split at d0
        · rename_i hn
          obtain ⟨l, vs, rfl, q, r2⟩ := tupAt hh1 r
          cases strs_rep r2 es
          exact ⟨l, ss, rfl, x.hK ▸ q, hn, d0 _ k1 H1 n1 hh1 (by simp only [Rep])⟩
        · exact d0.elim
      · exact d0.elim
    · refine .inr ⟨k, sw, h, hs, hh, ?_⟩
      cases e : ea sw h with
      | no => rw [e] at d0; exact d0
      | exc c fs us h' => rw [e] at d0; exact d0
      | ok w h1 =>
        rw [e] at d0
        dsimp only [R.bind] at d0
        intro v k1 H1 n1 hh1 r
        have d1 : Den A.toGx (Rep A.toGx) wx k H σ (match (lstOf h1 w).bind strsOf with | some ss => if ss.length < 4000 then .ok (.int (unlike ss).length) h1 else .no | none => .no) Q := by
          cases w with
          | tup ws => exact absurd ⟨ws, h1, e⟩ z
          | _ => exact d0
        split at d1
        · rename_i ss es
          split at d1
          · rename_i hn
            obtain ⟨us, e1, e2⟩ := Option.bind_eq_some_iff.mp es
            obtain ⟨l, vs, rfl, q, r2⟩ := listAt hh1 r e1
            cases strs_rep r2 e2
            exact ⟨l, ss, rfl, SqL.of q, hn, d1 _ k1 H1 n1 hh1 (by simp only [Rep])⟩
          · exact d1.elim
        · exact d1.elim
end
end KW

set_option Elab.async false
set_option linter.all false
set_option maxRecDepth 100000
set_option maxHeartbeats 4000000
/-! a, b, .. = a list -/
namespace KW
open PySem L2
/-- by the scope alone -/
theorem swapsW_env {v : Expr} {t : Option Expr} {l : Nat} {env env' : Env} (h : env.scope = env'.scope) : swapsWith v t l env = swapsWith v t l env' := by
  have k : env.kindOf = env'.kindOf := by
    funext y
    unfold Env.kindOf
    rw [h]
  have b : env.blockKind = env'.blockKind := by
    unfold Env.blockKind
    rw [h]
  unfold swapsWith
  rw [k, b, h]
section
variable {A : Ax} {X : Cx} {N : List Str} {sc : Scope} {a : Expr} {ea : EV} {p pos : Pos} {es : List Expr}
def sTgL (ts : List Tg) (a : EV) : EW := fun sw h => (a sw h).st sw fun w h1 => match lstOf h1 w with
  | some ws => (match tgWs ts ws sw with | some sw' => .ok (.next sw') h1 | none => .no)
  | none => .no
@[simp] theorem x_tgL {ts : List Tg} {a : EV} {sw : WS} {h : WH} : sTgL ts a sw h = (a sw h).st sw fun w h1 => match lstOf h1 w with
  | some ws => (match tgWs ts ws sw with | some sw' => .ok (.next sw') h1 | none => .no)
  | none => .no := rfl
theorem s_tgL (x : StOk A N sc X) {ts : List Tg} {kk : Nat} (h : WGs A X es ts) (hl : es.length = ts.length) (h3 : es.all nonStar = true) (ha : WE A X a ea)
    (hs : swapsWithSole [.Tuple es kk p] a pos.line X.env = pure false) (hw : swappedStores [.Tuple es kk p] a X.env = pure none) (h1 : (assignEach [.Tuple es kk p] X.env).map (·.2) = [assign (.Tuple es kk p) X.env]) :
    WSt A X (.Assign [.Tuple es kk p] a pos) (sTgL ts ea) := fun wx tk po =>
  PS_imp (ps_asg (ha wx tk) (pg_lst (n := es.length) x.calm h assignEach_len (assignEach_star h3)) hs hw h1) fun D σ H ⟨k, sw, h, hs, hh, d⟩ =>
    ⟨k, sw, h, hs, hh, (DenS.bind (rp := Rep A.toGx) hs d).imp fun v H1 ⟨k1, w, h1, n1, hh1, r1, hs1, d1⟩ => by
      split at d1
      · rename_i ws e
        obtain ⟨p1, vs, rfl, q1, r2⟩ := listAt hh1 r1 e
        split at d1
        · rename_i sw' e2
          exact ⟨p1, vs, rfl, by rw [x.hK]; exact SqL.of q1, by rw [r2.length, hl]; exact tgWs_len e2, k1, sw, h1, ws, sw', hs1, hh1, r2, e2, fun σ' hs' _ => d1 σ' k1 H1 (.refl _ _) hh1 hs'⟩
        · exact d1.elim
      · exact d1.elim⟩
end
end KW

set_option Elab.async false
set_option linter.all false
set_option maxRecDepth 100000
set_option maxHeartbeats 4000000
/-! plain things, no program in sight -/
namespace KW.P
open PySem L2 KW TL
abbrev cl (x : Str) : List Nat := x.cps.toList
theorem cl_inj {x y : Str} (h : cl x = cl y) : x = y := by
  obtain ⟨⟨a⟩⟩ := x
  obtain ⟨⟨b⟩⟩ := y
  simp only [cl] at h
  rw [h]
theorem cl_app (x y : Str) : cl (x ++ y) = cl x ++ cl y := by
  show (x.cps ++ y.cps).toList = _
  simp
theorem cl_len (x : Str) : x.length = (cl x).length := by simp [Str.length]
theorem cl_joinL : ∀ ps : List (List Nat), joinL [] ps = ps.flatten
  | [] => rfl
  | [p] => by simp [joinL]
  | p :: q :: r => by
    rw [joinL, cl_joinL (q :: r)]; simp
theorem cl_join (ps : List Str) : cl (Txt.join Str.empty ps) = (ps.map cl).flatten := by
  rw [join_eq]
  show tl (Str.join Str.empty ps) = _
  rw [tl_join]
  show joinL [] (ps.map tl) = _
  rw [cl_joinL]
def LET : Str := "abcdefghijklmnopqrstuvwxyz"
def Low (l : List Nat) : Prop := ∀ c ∈ l, 97 ≤ c ∧ c ≤ 122
theorem low_let : Low (cl LET) := by unfold Low; decide +kernel
theorem let_len : LET.length = 26 := by decide +kernel
theorem let_nodup : (cl LET).Nodup := by decide +kernel
section
variable {h : WH} {r : Nat} {x y : Ob} {o o' : Ob} {e : WH}
theorem sa_get (hr : r < h.length) : (h.set r x ++ e)[r]? = some x := by
  rw [List.getElem?_append_left (by simpa using hr), List.getElem?_set_self hr]
theorem sa_set (hr : r < h.length) : (h.set r x ++ e).set r y = h.set r y ++ e := by
  rw [List.set_append_left _ _ (by simpa using hr), List.set_set]
theorem sa_end : (h.set r x ++ o :: e)[h.length]? = some o := by
  rw [List.getElem?_append_right (by simp)]
  simp
theorem sa_setE : (h.set r x ++ o :: e).set h.length o' = h.set r x ++ o' :: e := by
  rw [List.set_append_right _ _ (by simp)]
  simp
end
theorem strs_lt {ss : List Str} {n : Nat} : W.lts n (ss.map W.str) = true := by
  induction ss with
  | nil => rfl
  | cons s ss ih => simp [W.lts, W.lt, ih]
theorem strsOf_map (ss : List Str) : strsOf (ss.map W.str) = some ss := by
  induction ss with
  | nil => rfl
  | cons s ss ih => simp [strsOf, ih]
theorem rng_get {i n : Nat} {w : W} (h : (rngW 0 n)[i]? = some w) : w = .int (i : Int) ∧ i < n := by
  have hi : i < n := by
    have := (List.getElem?_eq_some_iff.mp h).1
    simpa [rngW] using this
  simp only [rngW, List.getElem?_map, List.getElem?_range hi, Option.map_some, Option.some.injEq] at h
  exact ⟨by rw [← h]; simp, hi⟩
theorem rng_len {n : Nat} : (rngW 0 n).length = n := by simp [rngW]
theorem seqIx {d : Int} {n : Nat} (h0 : 0 ≤ d) (h1 : d < n) : seqIndex? d n = some d.toNat := by
  have e : ¬ d < 0 := by omega
  unfold seqIndex?
  simp only [if_neg e]
  rw [if_pos (by simp [h0, h1])]
theorem map_erase {α β : Type} (f : α → β) : ∀ (l : List α) (i : Nat), (l.map f).eraseIdx i = (l.eraseIdx i).map f
  | [], _ => rfl
  | _ :: _, 0 => rfl
  | x :: l, i + 1 => by simp [map_erase f l i]
theorem perm_erase {α : Type} : ∀ {l : List α} {i : Nat} (h : i < l.length), (l[i] :: l.eraseIdx i).Perm l
  | x :: l, 0, _ => .refl _
  | x :: l, i + 1, h => by
    simp only [List.getElem_cons_succ, List.eraseIdx_cons_succ]
    exact (List.Perm.swap ..).trans (.cons x (perm_erase (by simpa using h)))
theorem kii : kitB "int" "int" = some true := by decide +kernel
theorem kib : kitB "int" "bool" = some false := by decide +kernel
theorem kss : kitB "str" "str" = some true := by decide +kernel
theorem ktt : kitB "tuple" "tuple" = some true := by decide +kernel
theorem in_let {c : Nat} (h0 : 97 ≤ c ∧ c ≤ 122) : subStr ⟨#[c]⟩ LET = true := by
  have d : ∀ c, c < 123 → 97 ≤ c → subStr ⟨#[c]⟩ LET = true := by decide +kernel
  exact d c (by omega) h0.1
theorem bls_rep {n : Nat} : blsOf (List.replicate n (.bl true)) = some (List.replicate n true) := by
  induction n with
  | zero => rfl
  | succ n ih => simp [List.replicate_succ, blsOf, ih]
theorem unlike_nodup {xs : List Str} (h : xs.Nodup) : (unlike xs).length = xs.length := by
  have q : ∀ (xs acc : List Str), (acc ++ xs).Nodup → xs.foldl (fun acc x => if x ∈ acc then acc else acc ++ [x]) acc = acc ++ xs := by
    intro xs
    induction xs with
    | nil => intro acc _; simp
    | cons x xs ih =>
      intro acc hn
      have hx : x ∉ acc := fun hm => (List.nodup_append.mp hn).2.2 x hm x (List.mem_cons_self ..) rfl
      rw [List.foldl_cons, if_neg hx, ih _ (by simpa using hn)]
      simp
  rw [unlike, q xs [] (by simpa using h)]; rfl
theorem eqFW_str {a b : Str} : eqFW (.str a) (.str b) = decide (a = b) := rfl
theorem in_strs {s : Str} {ss : List Str} : inFW (.str s) (ss.map .str) = decide (s ∈ ss) := by
  induction ss with
  | nil => rfl
  | cons x ss ih =>
    simp only [inFW, List.map_cons, List.any_cons] at ih ⊢
    rw [ih, eqFW_str]
    by_cases e : x = s
    · simp [e]
    · simp [e, Ne.symm (show x ≠ s from e)]
theorem flat_strs {ss : List Str} : (ss.map W.str).all flatW = true := by
  induction ss with
  | nil => rfl
  | cons x ss ih => simp only [List.map_cons, List.all_cons, ih, flatW, Bool.and_self]
def cutN (n : Nat) (lo hi : Option Int) (ss : List Str) : List Str := (ss.drop (HT.sIx n 0 lo)).take (HT.sIx n n hi - HT.sIx n 0 lo)
theorem cut_map {ss : List Str} {lo hi : Option Int} : cutW (ss.map .str) lo hi = (cutN ss.length lo hi ss).map .str := by simp [cutW, cutN]
theorem cut1 {ss : List Str} {m : Nat} (h : m ≤ ss.length) : cutN ss.length none (some (m : Int)) ss = ss.take m := by
  simp only [cutN, HT.sIx, if_neg (show ¬ (m : Int) < 0 by omega), Int.toNat_natCast, Nat.min_eq_left h]
  simp
theorem cut2 {ss : List Str} {m : Nat} (h : m ≤ ss.length) : cutN ss.length (some (m : Int)) none ss = ss.drop m := by
  simp only [cutN, HT.sIx, if_neg (show ¬ (m : Int) < 0 by omega), Int.toNat_natCast, Nat.min_eq_left h]
  exact List.take_of_length_le (by simp)
theorem cut3 {ss : List Str} {m : Nat} (h : m < ss.length) : cutN ss.length (some (m : Int)) (some (-1)) ss = (ss.drop m).take (ss.length - 1 - m) := by
  simp only [cutN, HT.sIx, if_neg (show ¬ (m : Int) < 0 by omega), if_pos (show (-1 : Int) < 0 by decide), Int.toNat_natCast, Nat.min_eq_left (Nat.le_of_lt h)]
  rw [show (-1 + (ss.length : Int)).toNat = ss.length - 1 from by omega]
theorem nodup_comm {α : Type} {a b : List α} (h : (a ++ b).Nodup) : (b ++ a).Nodup := (List.perm_append_comm).nodup_iff.mp h
theorem ref_gc {h h' : WH} {r : Nat} (hr : h.length ≤ r) : gc h.length (.ref r) h h' = h' := by
  unfold gc
  rw [if_neg]
  simp [W.lt]; omega
theorem nodup_map {α β : Type} {f : α → β} : ∀ {l : List α}, l.Nodup → (∀ x ∈ l, ∀ y ∈ l, f x = f y → x = y) → (l.map f).Nodup
  | [], _, _ => List.nodup_nil
  | x :: l, h, hf => by
    rw [List.nodup_cons] at h
    rw [List.map_cons, List.nodup_cons]
    refine ⟨fun hm => ?_, nodup_map h.2 fun a ha b hb => hf a (List.mem_cons_of_mem _ ha) b (List.mem_cons_of_mem _ hb)⟩
    obtain ⟨y, hy, e⟩ := List.mem_map.mp hm
    exact h.1 (hf y (List.mem_cons_of_mem _ hy) x (List.mem_cons_self ..) e ▸ hy)
theorem chars_strs (cs : List Nat) : strsOf (cs.map fun c => W.str ⟨#[c]⟩) = some (cs.map fun c => (⟨#[c]⟩ : Str)) := by
  induction cs with
  | nil => rfl
  | cons c cs ih => simp [strsOf, ih]
theorem cl_chars (cs : List Nat) : cl (Txt.join Str.empty (cs.map fun c => (⟨#[c]⟩ : Str))) = cs := by
  rw [cl_join]
  induction cs with
  | nil => rfl
  | cons c cs ih => simp only [List.map_cons, List.flatten_cons, ih]; rfl
theorem fin_strs {s : Str} {ss : List Str} {g : WH} : fIn false (.str s) (.tup (ss.map .str)) g = .ok (.bl (decide (s ∈ ss))) g := by
  rw [f_inS]
  simp only [fInS, seqOf, flat_strs, flatW, in_strs, and_self, if_true, Bool.bne_false]
theorem fnot_strs {s : Str} {ss : List Str} {g : WH} : fIn true (.str s) (.tup (ss.map .str)) g = .ok (.bl (!decide (s ∈ ss))) g := by
  rw [f_inS]
  simp only [fInS, seqOf, flat_strs, flatW, in_strs, and_self, if_true, Bool.bne_true]
theorem fin_lst {s : Str} {ss : List Str} {g : WH} : fIn false (.str s) (.lst (ss.map .str)) g = .ok (.bl (decide (s ∈ ss))) g := by
  show fInS false (.str s) (.lst (ss.map .str)) g = _
  simp only [fInS, seqOf, lstOf, flat_strs, flatW, in_strs, and_self, if_true, Bool.bne_false]
end KW.P

set_option Elab.async false
set_option linter.all false
set_option maxRecDepth 100000
set_option maxHeartbeats 4000000
set_option pp.maxSteps 300
namespace KW.P
open PySem L2 KW
def top (i : Nat) : Stmt := PySem.Challenge.pw_knockamid_k05_rings_are_told_late.main.body.getD i (.Pass ⟨0, 0, 0, 0⟩)
abbrev i_faces_is_whole : Nat := 0
abbrev i_faces_is_name : Nat := 1
abbrev i_faces_are_unlike : Nat := 2
abbrev i_faces_are_names : Nat := 3
abbrev i_faces_Face_init : Nat := 4
abbrev i_houses_is_thing : Nat := 5
abbrev i_houses_is_sum : Nat := 6
abbrev i_houses_is_named : Nat := 7
abbrev i_houses_fits_row : Nat := 8
abbrev i_houses_is_row : Nat := 9
abbrev i_houses_is_cell : Nat := 10
abbrev i_houses_are_cells : Nat := 11
abbrev i_houses_is_local : Nat := 12
abbrev i_houses_is_body : Nat := 13
abbrev i_houses_are_bodies : Nat := 14
abbrev i_houses_reckoned : Nat := 15
abbrev i_houses_Body_init : Nat := 16
abbrev i_houses_Body_worth_of : Nat := 17
abbrev i_houses_Body_put_in : Nat := 18
abbrev i_houses_Body_put : Nat := 19
abbrev i_houses_Body_onward : Nat := 20
abbrev i_houses_Body_gone_along : Nat := 21
abbrev i_houses_House_init : Nat := 22
abbrev i_houses_House_first : Nat := 23
abbrev i_houses_House_said : Nat := 24
abbrev i_houses_House_knock : Nat := 25
abbrev i_houses_House_answer : Nat := 26
abbrev i_L_hand : Nat := 27
abbrev i_L_take : Nat := 28
abbrev i_L_of : Nat := 29
abbrev i_L_rounds : Nat := 30
abbrev i_L_house : Nat := 31
abbrev i_L_due : Nat := 32
abbrev i_L_law : Nat := 33
abbrev c_Face : Nat := 0
abbrev c_Body : Nat := 1
abbrev c_House : Nat := 2
abbrev c_KnockError : Nat := 3
abbrev c_NoFace : Nat := 4
abbrev c_BadHouse : Nat := 5
abbrev fl_size : Nat := 0
abbrev fl_doors : Nat := 1
abbrev fl_strangers : Nat := 2
abbrev fl_places : Nat := 3
abbrev fl_own_sizes : Nat := 4
abbrev fl_all_sizes : Nat := 5
abbrev fl_all_rows : Nat := 6
abbrev fl_face : Nat := 7
abbrev fl_cells : Nat := 8
abbrev fl_bodies : Nat := 9
abbrev fl_body_by_door : Nat := 10
abbrev fl_field : Nat := 11
abbrev mt_worth_of : Nat := 0
abbrev mt_put_in : Nat := 1
abbrev mt_put : Nat := 2
abbrev mt_onward : Nat := 3
abbrev mt_gone_along : Nat := 4
abbrev mt_first : Nat := 5
abbrev mt_said : Nat := 6
abbrev mt_knock : Nat := 7
abbrev mt_answer : Nat := 8
abbrev xt_NoFace : Stmt := inClass (top 3) 0
abbrev xt_BadHouse : Stmt := inClass (top 4) 0
def gtab : List (Str × Gk) := [(("ASK" : Str), .cst (.str ("ask" : Str))),
  (("BadHouse" : Str), .cls c_BadHouse),
  (("Body" : Str), .cls c_Body),
  (("DEAD" : Str), .cst (.tup [.str ("dead" : Str)])),
  (("Face" : Str), .cls c_Face),
  (("House" : Str), .cls c_House),
  (("LETTERS" : Str), .cst (.str ("abcdefghijklmnopqrstuvwxyz" : Str))),
  (("MAIN" : Str), .cst (.str ("main" : Str))),
  (("MOST_DOORS" : Str), .cst (.int (5))),
  (("MOST_NUMBER" : Str), .cst (.int (999))),
  (("MOST_SIGNS" : Str), .cst (.int (6))),
  (("MOST_SIZE" : Str), .cst (.int (4))),
  (("MOST_STRANGERS" : Str), .cst (.int (4))),
  (("MOST_WORTHS" : Str), .cst (.int (1000))),
  (("NoFace" : Str), .cls c_NoFace),
  (("OPS" : Str), .cst (.tup [.str ("+" : Str), .str ("-" : Str), .str ("*" : Str), .str ("=" : Str), .str ("<" : Str)])),
  (("TELL" : Str), .cst (.str ("tell" : Str))),
  (("_law_due" : Str), .fn i_L_due),
  (("_law_hand" : Str), .fn i_L_hand),
  (("_law_house" : Str), .fn i_L_house),
  (("_law_of" : Str), .fn i_L_of),
  (("_law_rounds" : Str), .fn i_L_rounds),
  (("_law_take" : Str), .fn i_L_take),
  (("abs" : Str), .blt),
  (("all" : Str), .blt),
  (("are_bodies" : Str), .fn i_houses_are_bodies),
  (("are_cells" : Str), .fn i_houses_are_cells),
  (("are_names" : Str), .fn i_faces_are_names),
  (("are_unlike" : Str), .fn i_faces_are_unlike),
  (("bool" : Str), .blt),
  (("enumerate" : Str), .blt),
  (("fits_row" : Str), .fn i_houses_fits_row),
  (("int" : Str), .blt),
  (("is_body" : Str), .fn i_houses_is_body),
  (("is_cell" : Str), .fn i_houses_is_cell),
  (("is_local" : Str), .fn i_houses_is_local),
  (("is_name" : Str), .fn i_faces_is_name),
  (("is_named" : Str), .fn i_houses_is_named),
  (("is_row" : Str), .fn i_houses_is_row),
  (("is_sum" : Str), .fn i_houses_is_sum),
  (("is_thing" : Str), .fn i_houses_is_thing),
  (("is_whole" : Str), .fn i_faces_is_whole),
  (("isinstance" : Str), .blt),
  (("len" : Str), .blt),
  (("list" : Str), .blt),
  (("min" : Str), .blt),
  (("range" : Str), .blt),
  (("reckoned" : Str), .fn i_houses_reckoned),
  (("repr" : Str), .blt),
  (("set" : Str), .blt),
  (("str" : Str), .blt),
  (("tuple" : Str), .blt),
  (("zip" : Str), .blt)]
def fnmT (i : Nat) : Str := (["size", "doors", "strangers", "places", "own_sizes", "all_sizes", "all_rows", "face", "cells", "bodies", "body_by_door", "field"] : List Str).getD i "_"
def mnT (i : Nat) : Str := (["worth_of", "put_in", "put", "onward", "gone_along", "first", "said", "knock", "answer"] : List Str).getD i "_"
def layT : Nat → Nat → Bool
  | 0, 0 => true
  | 0, 1 => true
  | 0, 2 => true
  | 1, 3 => true
  | 1, 4 => true
  | 1, 5 => true
  | 1, 6 => true
  | 2, 7 => true
  | 2, 8 => true
  | 2, 9 => true
  | 2, 10 => true
  | _, _ => false
def iniT : Nat → Option Nat
  | 0 => some 4
  | 1 => some 16
  | 2 => some 22
  | _ => none
def mtT : Nat → Nat → Option Nat
  | 1, 0 => some 17
  | 1, 1 => some 18
  | 1, 2 => some 19
  | 1, 3 => some 20
  | 1, 4 => some 21
  | 2, 5 => some 23
  | 2, 6 => some 24
  | 2, 7 => some 25
  | 2, 8 => some 26
  | _, _ => none
def valT : Nat → Bool
  | 0 => true
  | 1 => true
  | 2 => true
  | _ => false
def exfT : Nat → Option Nat
  | 4 => some fl_field
  | 5 => some fl_field
  | _ => none
def subT : Nat → Nat → Option Bool

  | _, _ => none
def isaT : Ty → Nat → Option Bool
  | .inl "NoneType", 0 => some false
  | .inl "bool", 0 => some false
  | .inl "int", 0 => some false
  | .inl "str", 0 => some false
  | .inl "tuple", 0 => some false
  | .inl "list", 0 => some false
  | .inl "dict", 0 => some false
  | .inr 0, 0 => some true
  | .inr 1, 0 => some false
  | .inr 2, 0 => some false
  | _, _ => none
abbrev AA (P : Program) (W : World) (K : PySem.W.Frag) (a c : Nat → Option Addr) : Ax := { P := P, w := W, K := K, cl := c, fn := fnmT, lay := layT, gt := gtab, fa := a, mt := mtT, mn := mnT, ini := iniT, val := valT, exf := exfT, sub := subT }
section
variable {P : Program} {W : World} {K : PySem.W.Frag} {a c : Nat → Option Addr} {X : Cx} {Φ : Fns} {n : Nat}
theorem g_ASK : (AA P W K a c).gt.lookup ("ASK" : Str) = some (.cst (.str ("ask" : Str))) := gtB_ok (t := gtab) (by decide +kernel)
theorem g_BadHouse : (AA P W K a c).gt.lookup ("BadHouse" : Str) = some (.cls c_BadHouse) := gtB_ok (t := gtab) (by decide +kernel)
theorem g_Body : (AA P W K a c).gt.lookup ("Body" : Str) = some (.cls c_Body) := gtB_ok (t := gtab) (by decide +kernel)
theorem g_DEAD : (AA P W K a c).gt.lookup ("DEAD" : Str) = some (.cst (.tup [.str ("dead" : Str)])) := gtB_ok (t := gtab) (by decide +kernel)
theorem g_Face : (AA P W K a c).gt.lookup ("Face" : Str) = some (.cls c_Face) := gtB_ok (t := gtab) (by decide +kernel)
theorem g_House : (AA P W K a c).gt.lookup ("House" : Str) = some (.cls c_House) := gtB_ok (t := gtab) (by decide +kernel)
theorem g_LETTERS : (AA P W K a c).gt.lookup ("LETTERS" : Str) = some (.cst (.str ("abcdefghijklmnopqrstuvwxyz" : Str))) := gtB_ok (t := gtab) (by decide +kernel)
theorem g_MAIN : (AA P W K a c).gt.lookup ("MAIN" : Str) = some (.cst (.str ("main" : Str))) := gtB_ok (t := gtab) (by decide +kernel)
theorem g_MOST_DOORS : (AA P W K a c).gt.lookup ("MOST_DOORS" : Str) = some (.cst (.int (5))) := gtB_ok (t := gtab) (by decide +kernel)
theorem g_MOST_NUMBER : (AA P W K a c).gt.lookup ("MOST_NUMBER" : Str) = some (.cst (.int (999))) := gtB_ok (t := gtab) (by decide +kernel)
theorem g_MOST_SIGNS : (AA P W K a c).gt.lookup ("MOST_SIGNS" : Str) = some (.cst (.int (6))) := gtB_ok (t := gtab) (by decide +kernel)
theorem g_MOST_SIZE : (AA P W K a c).gt.lookup ("MOST_SIZE" : Str) = some (.cst (.int (4))) := gtB_ok (t := gtab) (by decide +kernel)
theorem g_MOST_STRANGERS : (AA P W K a c).gt.lookup ("MOST_STRANGERS" : Str) = some (.cst (.int (4))) := gtB_ok (t := gtab) (by decide +kernel)
theorem g_MOST_WORTHS : (AA P W K a c).gt.lookup ("MOST_WORTHS" : Str) = some (.cst (.int (1000))) := gtB_ok (t := gtab) (by decide +kernel)
theorem g_NoFace : (AA P W K a c).gt.lookup ("NoFace" : Str) = some (.cls c_NoFace) := gtB_ok (t := gtab) (by decide +kernel)
theorem g_OPS : (AA P W K a c).gt.lookup ("OPS" : Str) = some (.cst (.tup [.str ("+" : Str), .str ("-" : Str), .str ("*" : Str), .str ("=" : Str), .str ("<" : Str)])) := gtB_ok (t := gtab) (by decide +kernel)
theorem g_TELL : (AA P W K a c).gt.lookup ("TELL" : Str) = some (.cst (.str ("tell" : Str))) := gtB_ok (t := gtab) (by decide +kernel)
theorem g__law_due : (AA P W K a c).gt.lookup ("_law_due" : Str) = some (.fn i_L_due) := gtB_ok (t := gtab) (by decide +kernel)
theorem g__law_hand : (AA P W K a c).gt.lookup ("_law_hand" : Str) = some (.fn i_L_hand) := gtB_ok (t := gtab) (by decide +kernel)
theorem g__law_house : (AA P W K a c).gt.lookup ("_law_house" : Str) = some (.fn i_L_house) := gtB_ok (t := gtab) (by decide +kernel)
theorem g__law_of : (AA P W K a c).gt.lookup ("_law_of" : Str) = some (.fn i_L_of) := gtB_ok (t := gtab) (by decide +kernel)
theorem g__law_rounds : (AA P W K a c).gt.lookup ("_law_rounds" : Str) = some (.fn i_L_rounds) := gtB_ok (t := gtab) (by decide +kernel)
theorem g__law_take : (AA P W K a c).gt.lookup ("_law_take" : Str) = some (.fn i_L_take) := gtB_ok (t := gtab) (by decide +kernel)
theorem g_abs : (AA P W K a c).gt.lookup ("abs" : Str) = some (.blt) := gtB_ok (t := gtab) (by decide +kernel)
theorem g_all : (AA P W K a c).gt.lookup ("all" : Str) = some (.blt) := gtB_ok (t := gtab) (by decide +kernel)
theorem g_are_bodies : (AA P W K a c).gt.lookup ("are_bodies" : Str) = some (.fn i_houses_are_bodies) := gtB_ok (t := gtab) (by decide +kernel)
theorem g_are_cells : (AA P W K a c).gt.lookup ("are_cells" : Str) = some (.fn i_houses_are_cells) := gtB_ok (t := gtab) (by decide +kernel)
theorem g_are_names : (AA P W K a c).gt.lookup ("are_names" : Str) = some (.fn i_faces_are_names) := gtB_ok (t := gtab) (by decide +kernel)
theorem g_are_unlike : (AA P W K a c).gt.lookup ("are_unlike" : Str) = some (.fn i_faces_are_unlike) := gtB_ok (t := gtab) (by decide +kernel)
theorem g_bool : (AA P W K a c).gt.lookup ("bool" : Str) = some (.blt) := gtB_ok (t := gtab) (by decide +kernel)
theorem g_enumerate : (AA P W K a c).gt.lookup ("enumerate" : Str) = some (.blt) := gtB_ok (t := gtab) (by decide +kernel)
theorem g_fits_row : (AA P W K a c).gt.lookup ("fits_row" : Str) = some (.fn i_houses_fits_row) := gtB_ok (t := gtab) (by decide +kernel)
theorem g_int : (AA P W K a c).gt.lookup ("int" : Str) = some (.blt) := gtB_ok (t := gtab) (by decide +kernel)
theorem g_is_body : (AA P W K a c).gt.lookup ("is_body" : Str) = some (.fn i_houses_is_body) := gtB_ok (t := gtab) (by decide +kernel)
theorem g_is_cell : (AA P W K a c).gt.lookup ("is_cell" : Str) = some (.fn i_houses_is_cell) := gtB_ok (t := gtab) (by decide +kernel)
theorem g_is_local : (AA P W K a c).gt.lookup ("is_local" : Str) = some (.fn i_houses_is_local) := gtB_ok (t := gtab) (by decide +kernel)
theorem g_is_name : (AA P W K a c).gt.lookup ("is_name" : Str) = some (.fn i_faces_is_name) := gtB_ok (t := gtab) (by decide +kernel)
theorem g_is_named : (AA P W K a c).gt.lookup ("is_named" : Str) = some (.fn i_houses_is_named) := gtB_ok (t := gtab) (by decide +kernel)
theorem g_is_row : (AA P W K a c).gt.lookup ("is_row" : Str) = some (.fn i_houses_is_row) := gtB_ok (t := gtab) (by decide +kernel)
theorem g_is_sum : (AA P W K a c).gt.lookup ("is_sum" : Str) = some (.fn i_houses_is_sum) := gtB_ok (t := gtab) (by decide +kernel)
theorem g_is_thing : (AA P W K a c).gt.lookup ("is_thing" : Str) = some (.fn i_houses_is_thing) := gtB_ok (t := gtab) (by decide +kernel)
theorem g_is_whole : (AA P W K a c).gt.lookup ("is_whole" : Str) = some (.fn i_faces_is_whole) := gtB_ok (t := gtab) (by decide +kernel)
theorem g_isinstance : (AA P W K a c).gt.lookup ("isinstance" : Str) = some (.blt) := gtB_ok (t := gtab) (by decide +kernel)
theorem g_len : (AA P W K a c).gt.lookup ("len" : Str) = some (.blt) := gtB_ok (t := gtab) (by decide +kernel)
theorem g_list : (AA P W K a c).gt.lookup ("list" : Str) = some (.blt) := gtB_ok (t := gtab) (by decide +kernel)
theorem g_min : (AA P W K a c).gt.lookup ("min" : Str) = some (.blt) := gtB_ok (t := gtab) (by decide +kernel)
theorem g_range : (AA P W K a c).gt.lookup ("range" : Str) = some (.blt) := gtB_ok (t := gtab) (by decide +kernel)
theorem g_reckoned : (AA P W K a c).gt.lookup ("reckoned" : Str) = some (.fn i_houses_reckoned) := gtB_ok (t := gtab) (by decide +kernel)
theorem g_repr : (AA P W K a c).gt.lookup ("repr" : Str) = some (.blt) := gtB_ok (t := gtab) (by decide +kernel)
theorem g_set : (AA P W K a c).gt.lookup ("set" : Str) = some (.blt) := gtB_ok (t := gtab) (by decide +kernel)
theorem g_str : (AA P W K a c).gt.lookup ("str" : Str) = some (.blt) := gtB_ok (t := gtab) (by decide +kernel)
theorem g_tuple : (AA P W K a c).gt.lookup ("tuple" : Str) = some (.blt) := gtB_ok (t := gtab) (by decide +kernel)
theorem g_zip : (AA P W K a c).gt.lookup ("zip" : Str) = some (.blt) := gtB_ok (t := gtab) (by decide +kernel)
/-! is_whole -/
abbrev t0 : Stmt := top 12
def N0 : List Str := ["thing", "low", "high"]
def d_faces_is_whole (Φ : Fns) : EW :=
 sSeq (sRet (dAnd (dIsT "int" (dVar 0)) (dAnd (dNot (dIsT "bool" (dVar 0))) (dChn (fInt fun i j => decide (i ≤ j)) (fInt fun i j => decide (i ≤ j)) (dVar 1) (dVar 0) (dVar 2)))))
 (sNil)
set_option maxRecDepth 100000 in
theorem w0 (x : StOk (AA P W K a c) N0 (defScope t0) X) (C : COk (AA P W K a c) Φ n X) (FO : FldOk (AA P W K a c)) (IA : IsaOk (AA P W K a c) isaT) : WSs (AA P W K a c) X (defBody t0) (d_faces_is_whole Φ) :=
 (ws_cons (ws_ret (we_and x.toXOk.hK (b_isT x.toXOk (T := "int") (by rfl) g_isinstance (by decide +kernel) g_int (by decide +kernel) (we_v x.toXOk 0 (by decide +kernel)) rfl) (we_and x.toXOk.hK (we_not x.toXOk.hK (b_isT x.toXOk (T := "bool") (by rfl) g_isinstance (by decide +kernel) g_bool (by decide +kernel) (we_v x.toXOk 0 (by decide +kernel)) rfl)) (we_one (we_chain op_le opw_int op_le opw_int (we_v x.toXOk 1 (by decide +kernel)) (we_v x.toXOk 0 (by decide +kernel)) (we_v x.toXOk 2 (by decide +kernel)) rfl)))))
 ws_nil)
/-! is_name -/
abbrev t1 : Stmt := top 13
def N1 : List Str := ["thing", "sign"]
def d_faces_is_name (Φ : Fns) : EW :=
 sSeq (sRet (dAnd (dIsT "str" (dVar 0)) (dAnd (dChn (fInt fun i j => decide (i ≤ j)) (fInt fun i j => decide (i ≤ j)) (dC (.int 1)) (dBi bLen (aCons (dVar 0) (aNil))) (dC (.int (6)))) (dBi bAll (aCons (dComp false (iAny (dVar 0)) (.nm 1) (bYes) (dOp (fIn false) (dVar 1) (dC (.str ("abcdefghijklmnopqrstuvwxyz" : Str)))) [1]) (aNil))))))
 (sNil)
set_option maxRecDepth 100000 in
theorem w1 (x : StOk (AA P W K a c) N1 (defScope t1) X) (C : COk (AA P W K a c) Φ n X) (FO : FldOk (AA P W K a c)) (IA : IsaOk (AA P W K a c) isaT) : WSs (AA P W K a c) X (defBody t1) (d_faces_is_name Φ) :=
 (ws_cons (ws_ret (we_and x.toXOk.hK (b_isT x.toXOk (T := "str") (by rfl) g_isinstance (by decide +kernel) g_str (by decide +kernel) (we_v x.toXOk 0 (by decide +kernel)) rfl) (we_and x.toXOk.hK (we_chain op_le opw_int op_le opw_int we_int (b_len x.toXOk g_len (by decide +kernel) (wa_c (we_v x.toXOk 0 (by decide +kernel)) wa_nil rfl) rfl) (we_k x.toXOk g_MOST_SIGNS (by decide +kernel)) rfl) (we_one (b_all x.toXOk g_all (by decide +kernel) (wa_c (we_comp x.toXOk (i_any x.toXOk (we_v x.toXOk 0 (by decide +kernel))) (blkOk_by (own := [("sign", 1)]) (by decide +kernel)) (by decide +kernel) (fun _ _ _ _ _ => (g_cm (XOk.blk x.toXOk) 1 (by decide +kernel))) (fun _ _ _ _ _ => wpt_nil) (fun _ _ _ _ _ => (we_cmp (op_inX (XOk.blk x.toXOk)) (opw_in (XOk.blk x.toXOk)) rfl (we_v (XOk.blk x.toXOk) 1 (by decide +kernel)) (we_k (XOk.blk x.toXOk) g_LETTERS (by decide +kernel)))) (fun _ => rfl)) wa_nil rfl) rfl)))))
 ws_nil)
/-! are_unlike -/
abbrev t2 : Stmt := top 14
def N2 : List Str := ["names"]
def d_faces_are_unlike (Φ : Fns) : EW :=
 sSeq (sRet (dOp (fEq false) (dLenSetA (dVar 0)) (dBi bLen (aCons (dVar 0) (aNil)))))
 (sNil)
set_option maxRecDepth 100000 in
theorem w2 (x : StOk (AA P W K a c) N2 (defScope t2) X) (C : COk (AA P W K a c) Φ n X) (FO : FldOk (AA P W K a c)) (IA : IsaOk (AA P W K a c) isaT) : WSs (AA P W K a c) X (defBody t2) (d_faces_are_unlike Φ) :=
 (ws_cons (ws_ret (we_cmp (op_eqW x.toXOk.u64) (opw_eq x.toXOk.hK) rfl (b_lenSetA x.toXOk g_len (by decide +kernel) g_set (by decide +kernel) (we_v x.toXOk 0 (by decide +kernel)) rfl) (b_len x.toXOk g_len (by decide +kernel) (wa_c (we_v x.toXOk 0 (by decide +kernel)) wa_nil rfl) rfl)))
 ws_nil)
/-! are_names -/
abbrev t3 : Stmt := top 15
def N3 : List Str := ["thing", "low", "high", "one"]
def d_faces_are_names (Φ : Fns) : EW :=
 sSeq (sIf (dOrT (dNotT (dTru (dIsT "tuple" (dVar 0)))) (dNotT (dTst (dChn (fInt fun i j => decide (i ≤ j)) (fInt fun i j => decide (i ≤ j)) (dVar 1) (dBi bLen (aCons (dVar 0) (aNil))) (dVar 2))))) (sSeq (sRet (dC (.bl false)))
 (sNil)) (sNil))
 (sSeq (sRet (dAnd (dBi bAll (aCons (dComp false (iAny (dVar 0)) (.nm 3) (bYes) (dCall (Φ i_faces_is_name) (aCons (dVar 3) (aNil))) [3]) (aNil))) (dCall (Φ i_faces_are_unlike) (aCons (dVar 0) (aNil)))))
 (sNil))
set_option maxRecDepth 100000 in
theorem w3 (x : StOk (AA P W K a c) N3 (defScope t3) X) (C : COk (AA P W K a c) Φ n X) (FO : FldOk (AA P W K a c)) (IA : IsaOk (AA P W K a c) isaT) : WSs (AA P W K a c) X (defBody t3) (d_faces_are_names Φ) :=
 (ws_cons (ws_if (wt_of (ww_or (wt_not (wt_gen x.toXOk.hK (b_isT x.toXOk (T := "tuple") (by rfl) g_isinstance (by decide +kernel) g_tuple (by decide +kernel) (we_v x.toXOk 0 (by decide +kernel)) rfl) (fun _ => rfl))) (ww_or1 (wt_not (wt_chain op_le opw_int op_le opw_int (we_v x.toXOk 1 (by decide +kernel)) (b_len x.toXOk g_len (by decide +kernel) (wa_c (we_v x.toXOk 0 (by decide +kernel)) wa_nil rfl) rfl) (we_v x.toXOk 2 (by decide +kernel)) rfl))))) (ws_cons (ws_ret we_bl)
 ws_nil) ws_nil)
 (ws_cons (ws_ret (we_and x.toXOk.hK (b_all x.toXOk g_all (by decide +kernel) (wa_c (we_comp x.toXOk (i_any x.toXOk (we_v x.toXOk 0 (by decide +kernel))) (blkOk_by (own := [("one", 3)]) (by decide +kernel)) (by decide +kernel) (fun _ _ _ _ _ => (g_cm (XOk.blk x.toXOk) 3 (by decide +kernel))) (fun _ _ _ _ _ => wpt_nil) (fun _ _ _ _ _ => (we_f (XOk.blk x.toXOk) (COk.blk C) i_faces_is_name g_is_name (by decide +kernel) (wa_c (we_v (XOk.blk x.toXOk) 3 (by decide +kernel)) wa_nil rfl) rfl)) (fun _ => rfl)) wa_nil rfl) rfl) (we_one (we_f x.toXOk C i_faces_are_unlike g_are_unlike (by decide +kernel) (wa_c (we_v x.toXOk 0 (by decide +kernel)) wa_nil rfl) rfl))))
 ws_nil))
/-! Face.__init__ -/
abbrev t4 : Stmt := inClass (top 16) 0
def N4 : List Str := ["self", "size", "doors", "strangers"]
def d_faces_Face_init (Φ : Fns) : EW :=
 sSeq (sIf (dNotT (dTru (dCall (Φ i_faces_is_whole) (aCons (dVar 1) (aCons (dC (.int 1)) (aCons (dC (.int (4))) (aNil))))))) (sSeq (sRaise c_NoFace fl_field (dC (.str ("size" : Str))))
 (sNil)) (sNil))
 (sSeq (sIf (dNotT (dTru (dCall (Φ i_faces_are_names) (aCons (dVar 2) (aCons (dC (.int 1)) (aCons (dC (.int (5))) (aNil))))))) (sSeq (sRaise c_NoFace fl_field (dC (.str ("doors" : Str))))
 (sNil)) (sNil))
 (sSeq (sIf (dOrT (dNotT (dTru (dCall (Φ i_faces_are_names) (aCons (dVar 3) (aCons (dC (.int 0)) (aCons (dC (.int (4))) (aNil))))))) (dTst (dOp (fIn false) (dC (.str ("main" : Str))) (dVar 3)))) (sSeq (sRaise c_NoFace fl_field (dC (.str ("strangers" : Str))))
 (sNil)) (sNil))
 (sSeq (sStF layT (dVar 0) fl_size (dVar 1))
 (sSeq (sStF layT (dVar 0) fl_doors (dVar 2))
 (sSeq (sStF layT (dVar 0) fl_strangers (dVar 3))
 (sNil))))))
set_option maxRecDepth 100000 in
theorem w4 (x : StOk (AA P W K a c) N4 (defScope t4) X) (C : COk (AA P W K a c) Φ n X) (FO : FldOk (AA P W K a c)) (IA : IsaOk (AA P W K a c) isaT) : WSs (AA P W K a c) X (defBody t4) (d_faces_Face_init Φ) :=
 (ws_cons (ws_if (wt_not (wt_gen x.toXOk.hK (we_f x.toXOk C i_faces_is_whole g_is_whole (by decide +kernel) (wa_c (we_v x.toXOk 1 (by decide +kernel)) (wa_c we_int (wa_c (we_k x.toXOk g_MOST_SIZE (by decide +kernel)) wa_nil rfl) rfl) rfl) rfl) (fun _ => rfl))) (ws_cons (s_raise x C (c := c_NoFace) (f := fl_field) rfl g_NoFace (by decide +kernel) we_str rfl)
 ws_nil) ws_nil)
 (ws_cons (ws_if (wt_not (wt_gen x.toXOk.hK (we_f x.toXOk C i_faces_are_names g_are_names (by decide +kernel) (wa_c (we_v x.toXOk 2 (by decide +kernel)) (wa_c we_int (wa_c (we_k x.toXOk g_MOST_DOORS (by decide +kernel)) wa_nil rfl) rfl) rfl) rfl) (fun _ => rfl))) (ws_cons (s_raise x C (c := c_NoFace) (f := fl_field) rfl g_NoFace (by decide +kernel) we_str rfl)
 ws_nil) ws_nil)
 (ws_cons (ws_if (wt_of (ww_or (wt_not (wt_gen x.toXOk.hK (we_f x.toXOk C i_faces_are_names g_are_names (by decide +kernel) (wa_c (we_v x.toXOk 3 (by decide +kernel)) (wa_c we_int (wa_c (we_k x.toXOk g_MOST_STRANGERS (by decide +kernel)) wa_nil rfl) rfl) rfl) rfl) (fun _ => rfl))) (ww_or1 (wt_cmp (op_inX x.toXOk) (opw_in x.toXOk) rfl (we_k x.toXOk g_MAIN (by decide +kernel)) (we_v x.toXOk 3 (by decide +kernel)))))) (ws_cons (s_raise x C (c := c_NoFace) (f := fl_field) rfl g_NoFace (by decide +kernel) we_str rfl)
 ws_nil) ws_nil)
 (ws_cons (s_stF x.toXOk FO (f := fl_size) rfl (we_v x.toXOk 0 (by decide +kernel)) (we_v x.toXOk 1 (by decide +kernel)))
 (ws_cons (s_stF x.toXOk FO (f := fl_doors) rfl (we_v x.toXOk 0 (by decide +kernel)) (we_v x.toXOk 2 (by decide +kernel)))
 (ws_cons (s_stF x.toXOk FO (f := fl_strangers) rfl (we_v x.toXOk 0 (by decide +kernel)) (we_v x.toXOk 3 (by decide +kernel)))
 ws_nil))))))
/-! is_thing -/
abbrev t5 : Stmt := top 24
def N5 : List Str := ["thing", "names"]
def d_houses_is_thing (Φ : Fns) : EW :=
 sSeq (sIf (dTru (dIsT "str" (dVar 0))) (sSeq (sRet (dOp (fIn false) (dVar 0) (dVar 1)))
 (sNil)) (sNil))
 (sSeq (sRet (dCall (Φ i_faces_is_whole) (aCons (dVar 0) (aCons (dC (.int 0)) (aCons (dC (.int (999))) (aNil))))))
 (sNil))
set_option maxRecDepth 100000 in
theorem w5 (x : StOk (AA P W K a c) N5 (defScope t5) X) (C : COk (AA P W K a c) Φ n X) (FO : FldOk (AA P W K a c)) (IA : IsaOk (AA P W K a c) isaT) : WSs (AA P W K a c) X (defBody t5) (d_houses_is_thing Φ) :=
 (ws_cons (ws_if (wt_gen x.toXOk.hK (b_isT x.toXOk (T := "str") (by rfl) g_isinstance (by decide +kernel) g_str (by decide +kernel) (we_v x.toXOk 0 (by decide +kernel)) rfl) (fun _ => rfl)) (ws_cons (ws_ret (we_cmp (op_inX x.toXOk) (opw_in x.toXOk) rfl (we_v x.toXOk 0 (by decide +kernel)) (we_v x.toXOk 1 (by decide +kernel))))
 ws_nil) ws_nil)
 (ws_cons (ws_ret (we_f x.toXOk C i_faces_is_whole g_is_whole (by decide +kernel) (wa_c (we_v x.toXOk 0 (by decide +kernel)) (wa_c we_int (wa_c (we_k x.toXOk g_MOST_NUMBER (by decide +kernel)) wa_nil rfl) rfl) rfl) rfl))
 ws_nil))
/-! is_sum -/
abbrev t6 : Stmt := top 25
def N6 : List Str := ["thing", "names"]
def d_houses_is_sum (Φ : Fns) : EW :=
 sSeq (sIf (dOrT (dNotT (dTru (dIsT "tuple" (dVar 0)))) (dOrT (dTst (dOp (fEq true) (dBi bLen (aCons (dVar 0) (aNil))) (dC (.int 3)))) (dOrT (dNotT (dTru (dIsT "str" (dOp fIx (dVar 0) (dC (.int 0)))))) (dTst (dOp (fIn true) (dOp fIx (dVar 0) (dC (.int 0))) (dC (.tup [.str ("+" : Str), .str ("-" : Str), .str ("*" : Str), .str ("=" : Str), .str ("<" : Str)]))))))) (sSeq (sRet (dC (.bl false)))
 (sNil)) (sNil))
 (sSeq (sRet (dAnd (dCall (Φ i_houses_is_thing) (aCons (dOp fIx (dVar 0) (dC (.int 1))) (aCons (dVar 1) (aNil)))) (dCall (Φ i_houses_is_thing) (aCons (dOp fIx (dVar 0) (dC (.int 2))) (aCons (dVar 1) (aNil))))))
 (sNil))
set_option maxRecDepth 100000 in
theorem w6 (x : StOk (AA P W K a c) N6 (defScope t6) X) (C : COk (AA P W K a c) Φ n X) (FO : FldOk (AA P W K a c)) (IA : IsaOk (AA P W K a c) isaT) : WSs (AA P W K a c) X (defBody t6) (d_houses_is_sum Φ) :=
 (ws_cons (ws_if (wt_of (ww_or (wt_not (wt_gen x.toXOk.hK (b_isT x.toXOk (T := "tuple") (by rfl) g_isinstance (by decide +kernel) g_tuple (by decide +kernel) (we_v x.toXOk 0 (by decide +kernel)) rfl) (fun _ => rfl))) (ww_or (wt_cmp (op_neW x.toXOk.u64) (opw_ne x.toXOk.hK) rfl (b_len x.toXOk g_len (by decide +kernel) (wa_c (we_v x.toXOk 0 (by decide +kernel)) wa_nil rfl) rfl) we_int) (ww_or (wt_not (wt_gen x.toXOk.hK (b_isT x.toXOk (T := "str") (by rfl) g_isinstance (by decide +kernel) g_str (by decide +kernel) (we_ix x.toXOk (we_v x.toXOk 0 (by decide +kernel)) we_int rfl) rfl) (fun _ => rfl))) (ww_or1 (wt_cmp (op_notInX x.toXOk) (opw_notin x.toXOk) rfl (we_ix x.toXOk (we_v x.toXOk 0 (by decide +kernel)) we_int rfl) (we_k x.toXOk g_OPS (by decide +kernel)))))))) (ws_cons (ws_ret we_bl)
 ws_nil) ws_nil)
 (ws_cons (ws_ret (we_and x.toXOk.hK (we_f x.toXOk C i_houses_is_thing g_is_thing (by decide +kernel) (wa_c (we_ix x.toXOk (we_v x.toXOk 0 (by decide +kernel)) we_int rfl) (wa_c (we_v x.toXOk 1 (by decide +kernel)) wa_nil rfl) rfl) rfl) (we_one (we_f x.toXOk C i_houses_is_thing g_is_thing (by decide +kernel) (wa_c (we_ix x.toXOk (we_v x.toXOk 0 (by decide +kernel)) we_int rfl) (wa_c (we_v x.toXOk 1 (by decide +kernel)) wa_nil rfl) rfl) rfl))))
 ws_nil))
/-! is_named -/
abbrev t7 : Stmt := top 26
def N7 : List Str := ["thing", "names"]
def d_houses_is_named (Φ : Fns) : EW :=
 sSeq (sRet (dAnd (dIsT "str" (dVar 0)) (dOp (fIn false) (dVar 0) (dVar 1))))
 (sNil)
set_option maxRecDepth 100000 in
theorem w7 (x : StOk (AA P W K a c) N7 (defScope t7) X) (C : COk (AA P W K a c) Φ n X) (FO : FldOk (AA P W K a c)) (IA : IsaOk (AA P W K a c) isaT) : WSs (AA P W K a c) X (defBody t7) (d_houses_is_named Φ) :=
 (ws_cons (ws_ret (we_and x.toXOk.hK (b_isT x.toXOk (T := "str") (by rfl) g_isinstance (by decide +kernel) g_str (by decide +kernel) (we_v x.toXOk 0 (by decide +kernel)) rfl) (we_one (we_cmp (op_inX x.toXOk) (opw_in x.toXOk) rfl (we_v x.toXOk 0 (by decide +kernel)) (we_v x.toXOk 1 (by decide +kernel))))))
 ws_nil)
/-! fits_row -/
abbrev t8 : Stmt := top 27
def N8 : List Str := ["row", "face", "names", "many", "word", "parts"]
def d_houses_fits_row (Φ : Fns) : EW :=
 sSeq (sStar 4 5 (dVar 0))
 (sSeq (sIf (dAndT (dTst (dOp (fEq false) (dVar 4) (dC (.str ("put" : Str))))) (dTst (dOp (fEq false) (dBi bLen (aCons (dVar 5) (aNil))) (dC (.int 2))))) (sSeq (sRet (dAnd (dCall (Φ i_houses_is_named) (aCons (dOp fIx (dVar 5) (dC (.int 0))) (aCons (dVar 2) (aNil)))) (dOr (dCall (Φ i_houses_is_thing) (aCons (dOp fIx (dVar 5) (dC (.int 1))) (aCons (dVar 2) (aNil)))) (dCall (Φ i_houses_is_sum) (aCons (dOp fIx (dVar 5) (dC (.int 1))) (aCons (dVar 2) (aNil)))))))
 (sNil)) (sNil))
 (sSeq (sIf (dAndT (dTst (dOp (fEq false) (dVar 4) (dC (.str ("go" : Str))))) (dTst (dOp (fEq false) (dBi bLen (aCons (dVar 5) (aNil))) (dC (.int 1))))) (sSeq (sRet (dCall (Φ i_faces_is_whole) (aCons (dOp fIx (dVar 5) (dC (.int 0))) (aCons (dC (.int 0)) (aCons (dVar 3) (aNil))))))
 (sNil)) (sNil))
 (sSeq (sIf (dAndT (dTst (dOp (fEq false) (dVar 4) (dC (.str ("when" : Str))))) (dTst (dOp (fEq false) (dBi bLen (aCons (dVar 5) (aNil))) (dC (.int 2))))) (sSeq (sRet (dAnd (dCall (Φ i_houses_is_thing) (aCons (dOp fIx (dVar 5) (dC (.int 0))) (aCons (dVar 2) (aNil)))) (dCall (Φ i_faces_is_whole) (aCons (dOp fIx (dVar 5) (dC (.int 1))) (aCons (dC (.int 0)) (aCons (dVar 3) (aNil)))))))
 (sNil)) (sNil))
 (sSeq (sIf (dAndT (dTst (dOp (fEq false) (dVar 4) (dC (.str ("ask" : Str))))) (dTst (dOp (fEq false) (dBi bLen (aCons (dVar 5) (aNil))) (dC (.int 3))))) (sSeq (sRet (dAnd (dCall (Φ i_houses_is_named) (aCons (dOp fIx (dVar 5) (dC (.int 0))) (aCons (dFld (dVar 1) fl_strangers) (aNil)))) (dAnd (dCall (Φ i_houses_is_thing) (aCons (dOp fIx (dVar 5) (dC (.int 1))) (aCons (dVar 2) (aNil)))) (dCall (Φ i_houses_is_named) (aCons (dOp fIx (dVar 5) (dC (.int 2))) (aCons (dVar 2) (aNil)))))))
 (sNil)) (sNil))
 (sSeq (sIf (dAndT (dTst (dOp (fEq false) (dVar 4) (dC (.str ("tell" : Str))))) (dTst (dOp (fEq false) (dBi bLen (aCons (dVar 5) (aNil))) (dC (.int 1))))) (sSeq (sRet (dCall (Φ i_houses_is_thing) (aCons (dOp fIx (dVar 5) (dC (.int 0))) (aCons (dVar 2) (aNil)))))
 (sNil)) (sNil))
 (sSeq (sRet (dAnd (dOp (fEq false) (dVar 4) (dC (.str ("halt" : Str)))) (dOp (fEq false) (dVar 5) (dLst false (aNil)))))
 (sNil)))))))
set_option maxRecDepth 100000 in
theorem w8 (x : StOk (AA P W K a c) N8 (defScope t8) X) (C : COk (AA P W K a c) Φ n X) (FO : FldOk (AA P W K a c)) (IA : IsaOk (AA P W K a c) isaT) : WSs (AA P W K a c) X (defBody t8) (d_houses_fits_row Φ) :=
 (ws_cons (s_star x 4 5 (by decide +kernel) (by decide +kernel) (we_v x.toXOk 0 (by decide +kernel)) rfl rfl rfl rfl rfl)
 (ws_cons (ws_if (wt_of (ww_and (wt_cmp (op_eqW x.toXOk.u64) (opw_eq x.toXOk.hK) rfl (we_v x.toXOk 4 (by decide +kernel)) we_str) (ww_and1 (wt_cmp (op_eqW x.toXOk.u64) (opw_eq x.toXOk.hK) rfl (b_len x.toXOk g_len (by decide +kernel) (wa_c (we_v x.toXOk 5 (by decide +kernel)) wa_nil rfl) rfl) we_int)))) (ws_cons (ws_ret (we_and x.toXOk.hK (we_f x.toXOk C i_houses_is_named g_is_named (by decide +kernel) (wa_c (we_ix x.toXOk (we_v x.toXOk 5 (by decide +kernel)) we_int rfl) (wa_c (we_v x.toXOk 2 (by decide +kernel)) wa_nil rfl) rfl) rfl) (we_one (we_or x.toXOk.hK (we_f x.toXOk C i_houses_is_thing g_is_thing (by decide +kernel) (wa_c (we_ix x.toXOk (we_v x.toXOk 5 (by decide +kernel)) we_int rfl) (wa_c (we_v x.toXOk 2 (by decide +kernel)) wa_nil rfl) rfl) rfl) (we_one (we_f x.toXOk C i_houses_is_sum g_is_sum (by decide +kernel) (wa_c (we_ix x.toXOk (we_v x.toXOk 5 (by decide +kernel)) we_int rfl) (wa_c (we_v x.toXOk 2 (by decide +kernel)) wa_nil rfl) rfl) rfl))))))
 ws_nil) ws_nil)
 (ws_cons (ws_if (wt_of (ww_and (wt_cmp (op_eqW x.toXOk.u64) (opw_eq x.toXOk.hK) rfl (we_v x.toXOk 4 (by decide +kernel)) we_str) (ww_and1 (wt_cmp (op_eqW x.toXOk.u64) (opw_eq x.toXOk.hK) rfl (b_len x.toXOk g_len (by decide +kernel) (wa_c (we_v x.toXOk 5 (by decide +kernel)) wa_nil rfl) rfl) we_int)))) (ws_cons (ws_ret (we_f x.toXOk C i_faces_is_whole g_is_whole (by decide +kernel) (wa_c (we_ix x.toXOk (we_v x.toXOk 5 (by decide +kernel)) we_int rfl) (wa_c we_int (wa_c (we_v x.toXOk 3 (by decide +kernel)) wa_nil rfl) rfl) rfl) rfl))
 ws_nil) ws_nil)
 (ws_cons (ws_if (wt_of (ww_and (wt_cmp (op_eqW x.toXOk.u64) (opw_eq x.toXOk.hK) rfl (we_v x.toXOk 4 (by decide +kernel)) we_str) (ww_and1 (wt_cmp (op_eqW x.toXOk.u64) (opw_eq x.toXOk.hK) rfl (b_len x.toXOk g_len (by decide +kernel) (wa_c (we_v x.toXOk 5 (by decide +kernel)) wa_nil rfl) rfl) we_int)))) (ws_cons (ws_ret (we_and x.toXOk.hK (we_f x.toXOk C i_houses_is_thing g_is_thing (by decide +kernel) (wa_c (we_ix x.toXOk (we_v x.toXOk 5 (by decide +kernel)) we_int rfl) (wa_c (we_v x.toXOk 2 (by decide +kernel)) wa_nil rfl) rfl) rfl) (we_one (we_f x.toXOk C i_faces_is_whole g_is_whole (by decide +kernel) (wa_c (we_ix x.toXOk (we_v x.toXOk 5 (by decide +kernel)) we_int rfl) (wa_c we_int (wa_c (we_v x.toXOk 3 (by decide +kernel)) wa_nil rfl) rfl) rfl) rfl))))
 ws_nil) ws_nil)
 (ws_cons (ws_if (wt_of (ww_and (wt_cmp (op_eqW x.toXOk.u64) (opw_eq x.toXOk.hK) rfl (we_v x.toXOk 4 (by decide +kernel)) (we_k x.toXOk g_ASK (by decide +kernel))) (ww_and1 (wt_cmp (op_eqW x.toXOk.u64) (opw_eq x.toXOk.hK) rfl (b_len x.toXOk g_len (by decide +kernel) (wa_c (we_v x.toXOk 5 (by decide +kernel)) wa_nil rfl) rfl) we_int)))) (ws_cons (ws_ret (we_and x.toXOk.hK (we_f x.toXOk C i_houses_is_named g_is_named (by decide +kernel) (wa_c (we_ix x.toXOk (we_v x.toXOk 5 (by decide +kernel)) we_int rfl) (wa_c (we_fld x.toXOk.hK FO (f := fl_strangers) rfl (we_v x.toXOk 1 (by decide +kernel)) rfl) wa_nil rfl) rfl) rfl) (we_and x.toXOk.hK (we_f x.toXOk C i_houses_is_thing g_is_thing (by decide +kernel) (wa_c (we_ix x.toXOk (we_v x.toXOk 5 (by decide +kernel)) we_int rfl) (wa_c (we_v x.toXOk 2 (by decide +kernel)) wa_nil rfl) rfl) rfl) (we_one (we_f x.toXOk C i_houses_is_named g_is_named (by decide +kernel) (wa_c (we_ix x.toXOk (we_v x.toXOk 5 (by decide +kernel)) we_int rfl) (wa_c (we_v x.toXOk 2 (by decide +kernel)) wa_nil rfl) rfl) rfl)))))
 ws_nil) ws_nil)
 (ws_cons (ws_if (wt_of (ww_and (wt_cmp (op_eqW x.toXOk.u64) (opw_eq x.toXOk.hK) rfl (we_v x.toXOk 4 (by decide +kernel)) (we_k x.toXOk g_TELL (by decide +kernel))) (ww_and1 (wt_cmp (op_eqW x.toXOk.u64) (opw_eq x.toXOk.hK) rfl (b_len x.toXOk g_len (by decide +kernel) (wa_c (we_v x.toXOk 5 (by decide +kernel)) wa_nil rfl) rfl) we_int)))) (ws_cons (ws_ret (we_f x.toXOk C i_houses_is_thing g_is_thing (by decide +kernel) (wa_c (we_ix x.toXOk (we_v x.toXOk 5 (by decide +kernel)) we_int rfl) (wa_c (we_v x.toXOk 2 (by decide +kernel)) wa_nil rfl) rfl) rfl))
 ws_nil) ws_nil)
 (ws_cons (ws_ret (we_and x.toXOk.hK (we_cmp (op_eqW x.toXOk.u64) (opw_eq x.toXOk.hK) rfl (we_v x.toXOk 4 (by decide +kernel)) we_str) (we_one (we_cmp (op_eqW x.toXOk.u64) (opw_eq x.toXOk.hK) rfl (we_v x.toXOk 5 (by decide +kernel)) (we_lst wa_nil)))))
 ws_nil)))))))
/-! is_row -/
abbrev t9 : Stmt := top 28
def N9 : List Str := ["thing", "face", "names", "many"]
def d_houses_is_row (Φ : Fns) : EW :=
 sSeq (sIf (dOrT (dNotT (dTru (dIsT "tuple" (dVar 0)))) (dOrT (dTst (dOp (fEq false) (dBi bLen (aCons (dVar 0) (aNil))) (dC (.int 0)))) (dNotT (dTru (dIsT "str" (dOp fIx (dVar 0) (dC (.int 0)))))))) (sSeq (sRet (dC (.bl false)))
 (sNil)) (sNil))
 (sSeq (sRet (dCall (Φ i_houses_fits_row) (aCons (dVar 0) (aCons (dVar 1) (aCons (dVar 2) (aCons (dVar 3) (aNil)))))))
 (sNil))
set_option maxRecDepth 100000 in
theorem w9 (x : StOk (AA P W K a c) N9 (defScope t9) X) (C : COk (AA P W K a c) Φ n X) (FO : FldOk (AA P W K a c)) (IA : IsaOk (AA P W K a c) isaT) : WSs (AA P W K a c) X (defBody t9) (d_houses_is_row Φ) :=
 (ws_cons (ws_if (wt_of (ww_or (wt_not (wt_gen x.toXOk.hK (b_isT x.toXOk (T := "tuple") (by rfl) g_isinstance (by decide +kernel) g_tuple (by decide +kernel) (we_v x.toXOk 0 (by decide +kernel)) rfl) (fun _ => rfl))) (ww_or (wt_cmp (op_eqW x.toXOk.u64) (opw_eq x.toXOk.hK) rfl (b_len x.toXOk g_len (by decide +kernel) (wa_c (we_v x.toXOk 0 (by decide +kernel)) wa_nil rfl) rfl) we_int) (ww_or1 (wt_not (wt_gen x.toXOk.hK (b_isT x.toXOk (T := "str") (by rfl) g_isinstance (by decide +kernel) g_str (by decide +kernel) (we_ix x.toXOk (we_v x.toXOk 0 (by decide +kernel)) we_int rfl) rfl) (fun _ => rfl))))))) (ws_cons (ws_ret we_bl)
 ws_nil) ws_nil)
 (ws_cons (ws_ret (we_f x.toXOk C i_houses_fits_row g_fits_row (by decide +kernel) (wa_c (we_v x.toXOk 0 (by decide +kernel)) (wa_c (we_v x.toXOk 1 (by decide +kernel)) (wa_c (we_v x.toXOk 2 (by decide +kernel)) (wa_c (we_v x.toXOk 3 (by decide +kernel)) wa_nil rfl) rfl) rfl) rfl) rfl))
 ws_nil))
/-! is_cell -/
abbrev t10 : Stmt := top 29
def N10 : List Str := ["thing", "name", "size", "first"]
def d_houses_is_cell (Φ : Fns) : EW :=
 sSeq (sIf (dOrT (dNotT (dTru (dIsT "tuple" (dVar 0)))) (dTst (dOp (fEq true) (dBi bLen (aCons (dVar 0) (aNil))) (dC (.int 3))))) (sSeq (sRet (dC (.bl false)))
 (sNil)) (sNil))
 (sSeq (sTg (tgW (.tup [.nm 1, .nm 2, .nm 3])) (dVar 0))
 (sSeq (sRet (dAnd (dCall (Φ i_faces_is_name) (aCons (dVar 1) (aNil))) (dAnd (dCall (Φ i_faces_is_whole) (aCons (dVar 2) (aCons (dC (.int 1)) (aCons (dC (.int (1000))) (aNil))))) (dCall (Φ i_faces_is_whole) (aCons (dVar 3) (aCons (dC (.int 0)) (aCons (dOp (fSub) (dVar 2) (dC (.int 1))) (aNil))))))))
 (sNil)))
set_option maxRecDepth 100000 in
theorem w10 (x : StOk (AA P W K a c) N10 (defScope t10) X) (C : COk (AA P W K a c) Φ n X) (FO : FldOk (AA P W K a c)) (IA : IsaOk (AA P W K a c) isaT) : WSs (AA P W K a c) X (defBody t10) (d_houses_is_cell Φ) :=
 (ws_cons (ws_if (wt_of (ww_or (wt_not (wt_gen x.toXOk.hK (b_isT x.toXOk (T := "tuple") (by rfl) g_isinstance (by decide +kernel) g_tuple (by decide +kernel) (we_v x.toXOk 0 (by decide +kernel)) rfl) (fun _ => rfl))) (ww_or1 (wt_cmp (op_neW x.toXOk.u64) (opw_ne x.toXOk.hK) rfl (b_len x.toXOk g_len (by decide +kernel) (wa_c (we_v x.toXOk 0 (by decide +kernel)) wa_nil rfl) rfl) we_int)))) (ws_cons (ws_ret we_bl)
 ws_nil) ws_nil)
 (ws_cons (ws_asg (wg_tup x.toXOk (gs_c (g_nm x 1 (by decide +kernel)) (gs_c (g_nm x 2 (by decide +kernel)) (gs_c (g_nm x 3 (by decide +kernel)) wgs_nil rfl) rfl) rfl) rfl rfl) (we_v x.toXOk 0 (by decide +kernel)) rfl rfl rfl)
 (ws_cons (ws_ret (we_and x.toXOk.hK (we_f x.toXOk C i_faces_is_name g_is_name (by decide +kernel) (wa_c (we_v x.toXOk 1 (by decide +kernel)) wa_nil rfl) rfl) (we_and x.toXOk.hK (we_f x.toXOk C i_faces_is_whole g_is_whole (by decide +kernel) (wa_c (we_v x.toXOk 2 (by decide +kernel)) (wa_c we_int (wa_c (we_k x.toXOk g_MOST_WORTHS (by decide +kernel)) wa_nil rfl) rfl) rfl) rfl) (we_one (we_f x.toXOk C i_faces_is_whole g_is_whole (by decide +kernel) (wa_c (we_v x.toXOk 3 (by decide +kernel)) (wa_c we_int (wa_c (we_op op_sub opw_sub (we_v x.toXOk 2 (by decide +kernel)) we_int) wa_nil rfl) rfl) rfl) rfl)))))
 ws_nil)))
/-! are_cells -/
abbrev t11 : Stmt := top 30
def N11 : List Str := ["thing", "one", "name", "size", "first"]
def d_houses_are_cells (Φ : Fns) : EW :=
 sSeq (sIf (dOrT (dNotT (dTru (dIsT "tuple" (dVar 0)))) (dNotT (dTru (dBi bAll (aCons (dComp false (iAny (dVar 0)) (.nm 1) (bYes) (dCall (Φ i_houses_is_cell) (aCons (dVar 1) (aNil))) [1]) (aNil)))))) (sSeq (sRet (dC (.bl false)))
 (sNil)) (sNil))
 (sSeq (sRet (dCall (Φ i_faces_are_unlike) (aCons (dComp false (iAny (dVar 0)) (.tup [.nm 2, .nm 3, .nm 4]) (bYes) (dVar 2) [2, 3, 4]) (aNil))))
 (sNil))
set_option maxRecDepth 100000 in
theorem w11 (x : StOk (AA P W K a c) N11 (defScope t11) X) (C : COk (AA P W K a c) Φ n X) (FO : FldOk (AA P W K a c)) (IA : IsaOk (AA P W K a c) isaT) : WSs (AA P W K a c) X (defBody t11) (d_houses_are_cells Φ) :=
 (ws_cons (ws_if (wt_of (ww_or (wt_not (wt_gen x.toXOk.hK (b_isT x.toXOk (T := "tuple") (by rfl) g_isinstance (by decide +kernel) g_tuple (by decide +kernel) (we_v x.toXOk 0 (by decide +kernel)) rfl) (fun _ => rfl))) (ww_or1 (wt_not (wt_gen x.toXOk.hK (b_all x.toXOk g_all (by decide +kernel) (wa_c (we_comp x.toXOk (i_any x.toXOk (we_v x.toXOk 0 (by decide +kernel))) (blkOk_by (own := [("one", 1)]) (by decide +kernel)) (by decide +kernel) (fun _ _ _ _ _ => (g_cm (XOk.blk x.toXOk) 1 (by decide +kernel))) (fun _ _ _ _ _ => wpt_nil) (fun _ _ _ _ _ => (we_f (XOk.blk x.toXOk) (COk.blk C) i_houses_is_cell g_is_cell (by decide +kernel) (wa_c (we_v (XOk.blk x.toXOk) 1 (by decide +kernel)) wa_nil rfl) rfl)) (fun _ => rfl)) wa_nil rfl) rfl) (fun _ => rfl)))))) (ws_cons (ws_ret we_bl)
 ws_nil) ws_nil)
 (ws_cons (ws_ret (we_f x.toXOk C i_faces_are_unlike g_are_unlike (by decide +kernel) (wa_c (we_comp x.toXOk (i_any x.toXOk (we_v x.toXOk 0 (by decide +kernel))) (blkOk_by (own := [("name", 2), ("size", 3), ("first", 4)]) (by decide +kernel)) (by decide +kernel) (fun _ _ _ _ _ => (wg_tup (XOk.blk x.toXOk) (gs_c (g_cm (XOk.blk x.toXOk) 2 (by decide +kernel)) (gs_c (g_cm (XOk.blk x.toXOk) 3 (by decide +kernel)) (gs_c (g_cm (XOk.blk x.toXOk) 4 (by decide +kernel)) wgs_nil rfl) rfl) rfl) rfl rfl)) (fun _ _ _ _ _ => wpt_nil) (fun _ _ _ _ _ => (we_v (XOk.blk x.toXOk) 2 (by decide +kernel))) (fun _ => rfl)) wa_nil rfl) rfl))
 ws_nil))
/-! is_local -/
abbrev t12 : Stmt := top 31
def N12 : List Str := ["thing"]
def d_houses_is_local (Φ : Fns) : EW :=
 sSeq (sRet (dAnd (dIsT "tuple" (dVar 0)) (dAnd (dOp (fEq false) (dBi bLen (aCons (dVar 0) (aNil))) (dC (.int 2))) (dAnd (dCall (Φ i_faces_is_name) (aCons (dOp fIx (dVar 0) (dC (.int 0))) (aNil))) (dCall (Φ i_faces_is_whole) (aCons (dOp fIx (dVar 0) (dC (.int 1))) (aCons (dC (.int 1)) (aCons (dC (.int (1000))) (aNil)))))))))
 (sNil)
set_option maxRecDepth 100000 in
theorem w12 (x : StOk (AA P W K a c) N12 (defScope t12) X) (C : COk (AA P W K a c) Φ n X) (FO : FldOk (AA P W K a c)) (IA : IsaOk (AA P W K a c) isaT) : WSs (AA P W K a c) X (defBody t12) (d_houses_is_local Φ) :=
 (ws_cons (ws_ret (we_and x.toXOk.hK (b_isT x.toXOk (T := "tuple") (by rfl) g_isinstance (by decide +kernel) g_tuple (by decide +kernel) (we_v x.toXOk 0 (by decide +kernel)) rfl) (we_and x.toXOk.hK (we_cmp (op_eqW x.toXOk.u64) (opw_eq x.toXOk.hK) rfl (b_len x.toXOk g_len (by decide +kernel) (wa_c (we_v x.toXOk 0 (by decide +kernel)) wa_nil rfl) rfl) we_int) (we_and x.toXOk.hK (we_f x.toXOk C i_faces_is_name g_is_name (by decide +kernel) (wa_c (we_ix x.toXOk (we_v x.toXOk 0 (by decide +kernel)) we_int rfl) wa_nil rfl) rfl) (we_one (we_f x.toXOk C i_faces_is_whole g_is_whole (by decide +kernel) (wa_c (we_ix x.toXOk (we_v x.toXOk 0 (by decide +kernel)) we_int rfl) (wa_c we_int (wa_c (we_k x.toXOk g_MOST_WORTHS (by decide +kernel)) wa_nil rfl) rfl) rfl) rfl))))))
 ws_nil)
/-! is_body -/
abbrev t13 : Stmt := top 32
def N13 : List Str := ["thing", "face", "cells", "argument", "kept", "rows", "one", "names", "name", "size", "first", "row"]
def d_houses_is_body (Φ : Fns) : EW :=
 sSeq (sIf (dOrT (dNotT (dTru (dIsT "tuple" (dVar 0)))) (dTst (dOp (fEq true) (dBi bLen (aCons (dVar 0) (aNil))) (dC (.int 3))))) (sSeq (sRet (dC (.bl false)))
 (sNil)) (sNil))
 (sSeq (sTg (tgW (.tup [.nm 3, .nm 4, .nm 5])) (dVar 0))
 (sSeq (sIf (dOrT (dNotT (dTru (dCall (Φ i_faces_is_name) (aCons (dVar 3) (aNil))))) (dOrT (dNotT (dTru (dIsT "tuple" (dVar 4)))) (dNotT (dTru (dBi bAll (aCons (dComp false (iAny (dVar 4)) (.nm 6) (bYes) (dCall (Φ i_houses_is_local) (aCons (dVar 6) (aNil))) [6]) (aNil))))))) (sSeq (sRet (dC (.bl false)))
 (sNil)) (sNil))
 (sSeq (sSet 7 (dOp (fAdd false) (dOp (fAdd false) (dComp false (iAny (dVar 2)) (.tup [.nm 8, .nm 9, .nm 10]) (bYes) (dVar 8) [8, 9, 10]) (dLst false (aCons (dVar 3) (aNil)))) (dComp false (iAny (dVar 4)) (.tup [.nm 8, .nm 9]) (bYes) (dVar 8) [8, 9])))
 (sSeq (sIf (dOrT (dNotT (dTru (dCall (Φ i_faces_are_unlike) (aCons (dVar 7) (aNil))))) (dOrT (dNotT (dTru (dIsT "tuple" (dVar 5)))) (dTst (dOp (fEq false) (dBi bLen (aCons (dVar 5) (aNil))) (dC (.int 0)))))) (sSeq (sRet (dC (.bl false)))
 (sNil)) (sNil))
 (sSeq (sRet (dBi bAll (aCons (dComp false (iAny (dVar 5)) (.nm 11) (bYes) (dCall (Φ i_houses_is_row) (aCons (dVar 11) (aCons (dVar 1) (aCons (dVar 7) (aCons (dBi bLen (aCons (dVar 5) (aNil))) (aNil)))))) [11]) (aNil))))
 (sNil))))))
set_option maxRecDepth 100000 in
theorem w13 (x : StOk (AA P W K a c) N13 (defScope t13) X) (C : COk (AA P W K a c) Φ n X) (FO : FldOk (AA P W K a c)) (IA : IsaOk (AA P W K a c) isaT) : WSs (AA P W K a c) X (defBody t13) (d_houses_is_body Φ) :=
 (ws_cons (ws_if (wt_of (ww_or (wt_not (wt_gen x.toXOk.hK (b_isT x.toXOk (T := "tuple") (by rfl) g_isinstance (by decide +kernel) g_tuple (by decide +kernel) (we_v x.toXOk 0 (by decide +kernel)) rfl) (fun _ => rfl))) (ww_or1 (wt_cmp (op_neW x.toXOk.u64) (opw_ne x.toXOk.hK) rfl (b_len x.toXOk g_len (by decide +kernel) (wa_c (we_v x.toXOk 0 (by decide +kernel)) wa_nil rfl) rfl) we_int)))) (ws_cons (ws_ret we_bl)
 ws_nil) ws_nil)
 (ws_cons (ws_asg (wg_tup x.toXOk (gs_c (g_nm x 3 (by decide +kernel)) (gs_c (g_nm x 4 (by decide +kernel)) (gs_c (g_nm x 5 (by decide +kernel)) wgs_nil rfl) rfl) rfl) rfl rfl) (we_v x.toXOk 0 (by decide +kernel)) rfl rfl rfl)
 (ws_cons (ws_if (wt_of (ww_or (wt_not (wt_gen x.toXOk.hK (we_f x.toXOk C i_faces_is_name g_is_name (by decide +kernel) (wa_c (we_v x.toXOk 3 (by decide +kernel)) wa_nil rfl) rfl) (fun _ => rfl))) (ww_or (wt_not (wt_gen x.toXOk.hK (b_isT x.toXOk (T := "tuple") (by rfl) g_isinstance (by decide +kernel) g_tuple (by decide +kernel) (we_v x.toXOk 4 (by decide +kernel)) rfl) (fun _ => rfl))) (ww_or1 (wt_not (wt_gen x.toXOk.hK (b_all x.toXOk g_all (by decide +kernel) (wa_c (we_comp x.toXOk (i_any x.toXOk (we_v x.toXOk 4 (by decide +kernel))) (blkOk_by (own := [("one", 6)]) (by decide +kernel)) (by decide +kernel) (fun _ _ _ _ _ => (g_cm (XOk.blk x.toXOk) 6 (by decide +kernel))) (fun _ _ _ _ _ => wpt_nil) (fun _ _ _ _ _ => (we_f (XOk.blk x.toXOk) (COk.blk C) i_houses_is_local g_is_local (by decide +kernel) (wa_c (we_v (XOk.blk x.toXOk) 6 (by decide +kernel)) wa_nil rfl) rfl)) (fun _ => rfl)) wa_nil rfl) rfl) (fun _ => rfl))))))) (ws_cons (ws_ret we_bl)
 ws_nil) ws_nil)
 (ws_cons (s_set x 7 (by decide +kernel) (we_op op_addW (opw_add x.toXOk.hK) (we_op op_addW (opw_add x.toXOk.hK) (we_comp x.toXOk (i_any x.toXOk (we_v x.toXOk 2 (by decide +kernel))) (blkOk_by (own := [("name", 8), ("size", 9), ("first", 10)]) (by decide +kernel)) (by decide +kernel) (fun _ _ _ _ _ => (wg_tup (XOk.blk x.toXOk) (gs_c (g_cm (XOk.blk x.toXOk) 8 (by decide +kernel)) (gs_c (g_cm (XOk.blk x.toXOk) 9 (by decide +kernel)) (gs_c (g_cm (XOk.blk x.toXOk) 10 (by decide +kernel)) wgs_nil rfl) rfl) rfl) rfl rfl)) (fun _ _ _ _ _ => wpt_nil) (fun _ _ _ _ _ => (we_v (XOk.blk x.toXOk) 8 (by decide +kernel))) (fun _ => rfl)) (we_lst (wa_c (we_v x.toXOk 3 (by decide +kernel)) wa_nil rfl))) (we_comp x.toXOk (i_any x.toXOk (we_v x.toXOk 4 (by decide +kernel))) (blkOk_by (own := [("name", 8), ("size", 9)]) (by decide +kernel)) (by decide +kernel) (fun _ _ _ _ _ => (wg_tup (XOk.blk x.toXOk) (gs_c (g_cm (XOk.blk x.toXOk) 8 (by decide +kernel)) (gs_c (g_cm (XOk.blk x.toXOk) 9 (by decide +kernel)) wgs_nil rfl) rfl) rfl rfl)) (fun _ _ _ _ _ => wpt_nil) (fun _ _ _ _ _ => (we_v (XOk.blk x.toXOk) 8 (by decide +kernel))) (fun _ => rfl))) rfl)
 (ws_cons (ws_if (wt_of (ww_or (wt_not (wt_gen x.toXOk.hK (we_f x.toXOk C i_faces_are_unlike g_are_unlike (by decide +kernel) (wa_c (we_v x.toXOk 7 (by decide +kernel)) wa_nil rfl) rfl) (fun _ => rfl))) (ww_or (wt_not (wt_gen x.toXOk.hK (b_isT x.toXOk (T := "tuple") (by rfl) g_isinstance (by decide +kernel) g_tuple (by decide +kernel) (we_v x.toXOk 5 (by decide +kernel)) rfl) (fun _ => rfl))) (ww_or1 (wt_cmp (op_eqW x.toXOk.u64) (opw_eq x.toXOk.hK) rfl (b_len x.toXOk g_len (by decide +kernel) (wa_c (we_v x.toXOk 5 (by decide +kernel)) wa_nil rfl) rfl) we_int))))) (ws_cons (ws_ret we_bl)
 ws_nil) ws_nil)
 (ws_cons (ws_ret (b_all x.toXOk g_all (by decide +kernel) (wa_c (we_comp x.toXOk (i_any x.toXOk (we_v x.toXOk 5 (by decide +kernel))) (blkOk_by (own := [("row", 11)]) (by decide +kernel)) (by decide +kernel) (fun _ _ _ _ _ => (g_cm (XOk.blk x.toXOk) 11 (by decide +kernel))) (fun _ _ _ _ _ => wpt_nil) (fun _ _ _ _ _ => (we_f (XOk.blk x.toXOk) (COk.blk C) i_houses_is_row g_is_row (by decide +kernel) (wa_c (we_v (XOk.blk x.toXOk) 11 (by decide +kernel)) (wa_c (we_v (XOk.blk x.toXOk) 1 (by decide +kernel)) (wa_c (we_v (XOk.blk x.toXOk) 7 (by decide +kernel)) (wa_c (b_len (XOk.blk x.toXOk) g_len (by decide +kernel) (wa_c (we_v (XOk.blk x.toXOk) 5 (by decide +kernel)) wa_nil rfl) rfl) wa_nil rfl) rfl) rfl) rfl) rfl)) (fun _ => rfl)) wa_nil rfl) rfl))
 ws_nil))))))
/-! are_bodies -/
abbrev t14 : Stmt := top 33
def N14 : List Str := ["thing", "face", "cells", "one"]
def d_houses_are_bodies (Φ : Fns) : EW :=
 sSeq (sIf (dOrT (dNotT (dTru (dIsT "tuple" (dVar 0)))) (dTst (dOp (fEq true) (dBi bLen (aCons (dVar 0) (aNil))) (dBi bLen (aCons (dFld (dVar 1) fl_doors) (aNil)))))) (sSeq (sRet (dC (.bl false)))
 (sNil)) (sNil))
 (sSeq (sRet (dBi bAll (aCons (dComp false (iAny (dVar 0)) (.nm 3) (bYes) (dCall (Φ i_houses_is_body) (aCons (dVar 3) (aCons (dVar 1) (aCons (dVar 2) (aNil))))) [3]) (aNil))))
 (sNil))
set_option maxRecDepth 100000 in
theorem w14 (x : StOk (AA P W K a c) N14 (defScope t14) X) (C : COk (AA P W K a c) Φ n X) (FO : FldOk (AA P W K a c)) (IA : IsaOk (AA P W K a c) isaT) : WSs (AA P W K a c) X (defBody t14) (d_houses_are_bodies Φ) :=
 (ws_cons (ws_if (wt_of (ww_or (wt_not (wt_gen x.toXOk.hK (b_isT x.toXOk (T := "tuple") (by rfl) g_isinstance (by decide +kernel) g_tuple (by decide +kernel) (we_v x.toXOk 0 (by decide +kernel)) rfl) (fun _ => rfl))) (ww_or1 (wt_cmp (op_neW x.toXOk.u64) (opw_ne x.toXOk.hK) rfl (b_len x.toXOk g_len (by decide +kernel) (wa_c (we_v x.toXOk 0 (by decide +kernel)) wa_nil rfl) rfl) (b_len x.toXOk g_len (by decide +kernel) (wa_c (we_fld x.toXOk.hK FO (f := fl_doors) rfl (we_v x.toXOk 1 (by decide +kernel)) rfl) wa_nil rfl) rfl))))) (ws_cons (ws_ret we_bl)
 ws_nil) ws_nil)
 (ws_cons (ws_ret (b_all x.toXOk g_all (by decide +kernel) (wa_c (we_comp x.toXOk (i_any x.toXOk (we_v x.toXOk 0 (by decide +kernel))) (blkOk_by (own := [("one", 3)]) (by decide +kernel)) (by decide +kernel) (fun _ _ _ _ _ => (g_cm (XOk.blk x.toXOk) 3 (by decide +kernel))) (fun _ _ _ _ _ => wpt_nil) (fun _ _ _ _ _ => (we_f (XOk.blk x.toXOk) (COk.blk C) i_houses_is_body g_is_body (by decide +kernel) (wa_c (we_v (XOk.blk x.toXOk) 3 (by decide +kernel)) (wa_c (we_v (XOk.blk x.toXOk) 1 (by decide +kernel)) (wa_c (we_v (XOk.blk x.toXOk) 2 (by decide +kernel)) wa_nil rfl) rfl) rfl) rfl)) (fun _ => rfl)) wa_nil rfl) rfl))
 ws_nil))
/-! reckoned -/
abbrev t15 : Stmt := top 34
def N15 : List Str := ["op", "one", "other"]
def d_houses_reckoned (Φ : Fns) : EW :=
 sSeq (sIf (dTst (dOp (fEq false) (dVar 0) (dC (.str ("+" : Str))))) (sSeq (sRet (dOp (fAdd false) (dVar 1) (dVar 2)))
 (sNil)) (sNil))
 (sSeq (sIf (dTst (dOp (fEq false) (dVar 0) (dC (.str ("-" : Str))))) (sSeq (sRet (dOp (fSub) (dVar 1) (dVar 2)))
 (sNil)) (sNil))
 (sSeq (sIf (dTst (dOp (fEq false) (dVar 0) (dC (.str ("*" : Str))))) (sSeq (sRet (dOp (fMul false) (dVar 1) (dVar 2)))
 (sNil)) (sNil))
 (sSeq (sRet (dIf (dTst (dOp (fEq false) (dVar 0) (dC (.str ("=" : Str))))) (dBi bInt (aCons (dOp (fEq false) (dVar 1) (dVar 2)) (aNil))) (dBi bInt (aCons (dOp (fInt fun i j => decide (i < j)) (dVar 1) (dVar 2)) (aNil)))))
 (sNil))))
set_option maxRecDepth 100000 in
theorem w15 (x : StOk (AA P W K a c) N15 (defScope t15) X) (C : COk (AA P W K a c) Φ n X) (FO : FldOk (AA P W K a c)) (IA : IsaOk (AA P W K a c) isaT) : WSs (AA P W K a c) X (defBody t15) (d_houses_reckoned Φ) :=
 (ws_cons (ws_if (wt_cmp (op_eqW x.toXOk.u64) (opw_eq x.toXOk.hK) rfl (we_v x.toXOk 0 (by decide +kernel)) we_str) (ws_cons (ws_ret (we_op op_addW (opw_add x.toXOk.hK) (we_v x.toXOk 1 (by decide +kernel)) (we_v x.toXOk 2 (by decide +kernel))))
 ws_nil) ws_nil)
 (ws_cons (ws_if (wt_cmp (op_eqW x.toXOk.u64) (opw_eq x.toXOk.hK) rfl (we_v x.toXOk 0 (by decide +kernel)) we_str) (ws_cons (ws_ret (we_op op_sub opw_sub (we_v x.toXOk 1 (by decide +kernel)) (we_v x.toXOk 2 (by decide +kernel))))
 ws_nil) ws_nil)
 (ws_cons (ws_if (wt_cmp (op_eqW x.toXOk.u64) (opw_eq x.toXOk.hK) rfl (we_v x.toXOk 0 (by decide +kernel)) we_str) (ws_cons (ws_ret (we_op op_mulWW opw_mul (we_v x.toXOk 1 (by decide +kernel)) (we_v x.toXOk 2 (by decide +kernel))))
 ws_nil) ws_nil)
 (ws_cons (ws_ret (we_if (wt_cmp (op_eqW x.toXOk.u64) (opw_eq x.toXOk.hK) rfl (we_v x.toXOk 0 (by decide +kernel)) we_str) (b_int x.toXOk g_int (by decide +kernel) (wa_c (we_cmp (op_eqW x.toXOk.u64) (opw_eq x.toXOk.hK) rfl (we_v x.toXOk 1 (by decide +kernel)) (we_v x.toXOk 2 (by decide +kernel))) wa_nil rfl) rfl) (b_int x.toXOk g_int (by decide +kernel) (wa_c (we_cmp op_lt opw_int rfl (we_v x.toXOk 1 (by decide +kernel)) (we_v x.toXOk 2 (by decide +kernel))) wa_nil rfl) rfl)))
 ws_nil))))
/-! Body.__init__ -/
abbrev t16 : Stmt := inClass (top 35) 0
def N16 : List Str := ["self", "face", "cells", "body", "argument", "kept", "rows", "names", "name", "size", "first", "place"]
def d_houses_Body_init (Φ : Fns) : EW :=
 sSeq (sTg (tgW (.tup [.nm 4, .nm 5, .nm 6])) (dVar 3))
 (sSeq (sSet 7 (dOp (fAdd false) (dOp (fAdd false) (dComp false (iAny (dVar 2)) (.tup [.nm 8, .nm 9, .nm 10]) (bYes) (dVar 8) [8, 9, 10]) (dLst false (aCons (dVar 4) (aNil)))) (dComp false (iAny (dVar 5)) (.tup [.nm 8, .nm 9]) (bYes) (dVar 8) [8, 9])))
 (sSeq (sStF layT (dVar 0) fl_places (dDComp false (iEnumW (dVar 7)) (.tup [.nm 11, .nm 8]) (bYes) (dVar 8) (dVar 11) [11, 8]))
 (sSeq (sStF layT (dVar 0) fl_own_sizes (dOp (fAdd false) (dLst false (aCons (dFld (dVar 1) fl_size) (aNil))) (dComp false (iAny (dVar 5)) (.tup [.nm 8, .nm 9]) (bYes) (dVar 9) [8, 9])))
 (sSeq (sStF layT (dVar 0) fl_all_sizes (dOp (fAdd false) (dComp false (iAny (dVar 2)) (.tup [.nm 8, .nm 9, .nm 10]) (bYes) (dVar 9) [8, 9, 10]) (dFld (dVar 0) fl_own_sizes)))
 (sSeq (sStF layT (dVar 0) fl_all_rows (dVar 6))
 (sNil))))))
set_option maxRecDepth 100000 in
theorem w16 (x : StOk (AA P W K a c) N16 (defScope t16) X) (C : COk (AA P W K a c) Φ n X) (FO : FldOk (AA P W K a c)) (IA : IsaOk (AA P W K a c) isaT) : WSs (AA P W K a c) X (defBody t16) (d_houses_Body_init Φ) :=
 (ws_cons (ws_asg (wg_tup x.toXOk (gs_c (g_nm x 4 (by decide +kernel)) (gs_c (g_nm x 5 (by decide +kernel)) (gs_c (g_nm x 6 (by decide +kernel)) wgs_nil rfl) rfl) rfl) rfl rfl) (we_v x.toXOk 3 (by decide +kernel)) rfl rfl rfl)
 (ws_cons (s_set x 7 (by decide +kernel) (we_op op_addW (opw_add x.toXOk.hK) (we_op op_addW (opw_add x.toXOk.hK) (we_comp x.toXOk (i_any x.toXOk (we_v x.toXOk 2 (by decide +kernel))) (blkOk_by (own := [("name", 8), ("size", 9), ("first", 10)]) (by decide +kernel)) (by decide +kernel) (fun _ _ _ _ _ => (wg_tup (XOk.blk x.toXOk) (gs_c (g_cm (XOk.blk x.toXOk) 8 (by decide +kernel)) (gs_c (g_cm (XOk.blk x.toXOk) 9 (by decide +kernel)) (gs_c (g_cm (XOk.blk x.toXOk) 10 (by decide +kernel)) wgs_nil rfl) rfl) rfl) rfl rfl)) (fun _ _ _ _ _ => wpt_nil) (fun _ _ _ _ _ => (we_v (XOk.blk x.toXOk) 8 (by decide +kernel))) (fun _ => rfl)) (we_lst (wa_c (we_v x.toXOk 4 (by decide +kernel)) wa_nil rfl))) (we_comp x.toXOk (i_any x.toXOk (we_v x.toXOk 5 (by decide +kernel))) (blkOk_by (own := [("name", 8), ("size", 9)]) (by decide +kernel)) (by decide +kernel) (fun _ _ _ _ _ => (wg_tup (XOk.blk x.toXOk) (gs_c (g_cm (XOk.blk x.toXOk) 8 (by decide +kernel)) (gs_c (g_cm (XOk.blk x.toXOk) 9 (by decide +kernel)) wgs_nil rfl) rfl) rfl rfl)) (fun _ _ _ _ _ => wpt_nil) (fun _ _ _ _ _ => (we_v (XOk.blk x.toXOk) 8 (by decide +kernel))) (fun _ => rfl))) rfl)
 (ws_cons (s_stF x.toXOk FO (f := fl_places) rfl (we_v x.toXOk 0 (by decide +kernel)) (we_dcomp x.toXOk (i_enum x.toXOk g_enumerate (by decide +kernel) (we_v x.toXOk 7 (by decide +kernel)) rfl) (blkOk_by (own := [("place", 11), ("name", 8)]) (by decide +kernel)) (by decide +kernel) (fun _ _ _ _ _ => (wg_tup (XOk.blk x.toXOk) (gs_c (g_cm (XOk.blk x.toXOk) 11 (by decide +kernel)) (gs_c (g_cm (XOk.blk x.toXOk) 8 (by decide +kernel)) wgs_nil rfl) rfl) rfl rfl)) (fun _ _ _ _ _ => wpt_nil) (fun _ _ _ _ _ => (we_v (XOk.blk x.toXOk) 8 (by decide +kernel))) (fun _ _ _ _ _ => (we_v (XOk.blk x.toXOk) 11 (by decide +kernel))) (fun _ => rfl)))
 (ws_cons (s_stF x.toXOk FO (f := fl_own_sizes) rfl (we_v x.toXOk 0 (by decide +kernel)) (we_op op_addW (opw_add x.toXOk.hK) (we_lst (wa_c (we_fld x.toXOk.hK FO (f := fl_size) rfl (we_v x.toXOk 1 (by decide +kernel)) rfl) wa_nil rfl)) (we_comp x.toXOk (i_any x.toXOk (we_v x.toXOk 5 (by decide +kernel))) (blkOk_by (own := [("name", 8), ("size", 9)]) (by decide +kernel)) (by decide +kernel) (fun _ _ _ _ _ => (wg_tup (XOk.blk x.toXOk) (gs_c (g_cm (XOk.blk x.toXOk) 8 (by decide +kernel)) (gs_c (g_cm (XOk.blk x.toXOk) 9 (by decide +kernel)) wgs_nil rfl) rfl) rfl rfl)) (fun _ _ _ _ _ => wpt_nil) (fun _ _ _ _ _ => (we_v (XOk.blk x.toXOk) 9 (by decide +kernel))) (fun _ => rfl))))
 (ws_cons (s_stF x.toXOk FO (f := fl_all_sizes) rfl (we_v x.toXOk 0 (by decide +kernel)) (we_op op_addW (opw_add x.toXOk.hK) (we_comp x.toXOk (i_any x.toXOk (we_v x.toXOk 2 (by decide +kernel))) (blkOk_by (own := [("name", 8), ("size", 9), ("first", 10)]) (by decide +kernel)) (by decide +kernel) (fun _ _ _ _ _ => (wg_tup (XOk.blk x.toXOk) (gs_c (g_cm (XOk.blk x.toXOk) 8 (by decide +kernel)) (gs_c (g_cm (XOk.blk x.toXOk) 9 (by decide +kernel)) (gs_c (g_cm (XOk.blk x.toXOk) 10 (by decide +kernel)) wgs_nil rfl) rfl) rfl) rfl rfl)) (fun _ _ _ _ _ => wpt_nil) (fun _ _ _ _ _ => (we_v (XOk.blk x.toXOk) 9 (by decide +kernel))) (fun _ => rfl)) (we_fld x.toXOk.hK FO (f := fl_own_sizes) rfl (we_v x.toXOk 0 (by decide +kernel)) rfl)))
 (ws_cons (s_stF x.toXOk FO (f := fl_all_rows) rfl (we_v x.toXOk 0 (by decide +kernel)) (we_v x.toXOk 6 (by decide +kernel)))
 ws_nil))))))
/-! Body.worth_of -/
abbrev t17 : Stmt := inClass (top 35) 1
def N17 : List Str := ["self", "worths", "thing"]
def d_houses_Body_worth_of (Φ : Fns) : EW :=
 sSeq (sRet (dIf (dTru (dIsT "str" (dVar 2))) (dOp fIx (dVar 1) (dOp fIx (dFld (dVar 0) fl_places) (dVar 2))) (dVar 2)))
 (sNil)
set_option maxRecDepth 100000 in
theorem w17 (x : StOk (AA P W K a c) N17 (defScope t17) X) (C : COk (AA P W K a c) Φ n X) (FO : FldOk (AA P W K a c)) (IA : IsaOk (AA P W K a c) isaT) : WSs (AA P W K a c) X (defBody t17) (d_houses_Body_worth_of Φ) :=
 (ws_cons (ws_ret (we_if (wt_gen x.toXOk.hK (b_isT x.toXOk (T := "str") (by rfl) g_isinstance (by decide +kernel) g_str (by decide +kernel) (we_v x.toXOk 2 (by decide +kernel)) rfl) (fun _ => rfl)) (we_ix x.toXOk (we_v x.toXOk 1 (by decide +kernel)) (we_ix x.toXOk (we_fld x.toXOk.hK FO (f := fl_places) rfl (we_v x.toXOk 0 (by decide +kernel)) rfl) (we_v x.toXOk 2 (by decide +kernel)) rfl) rfl) (we_v x.toXOk 2 (by decide +kernel))))
 ws_nil)
/-! Body.put_in -/
abbrev t18 : Stmt := inClass (top 35) 2
def N18 : List Str := ["self", "worths", "name", "number", "place"]
def d_houses_Body_put_in (Φ : Fns) : EW :=
 sSeq (sSet 4 (dOp fIx (dFld (dVar 0) fl_places) (dVar 2)))
 (sSeq (sSetI (dVar 1) (dVar 4) (dOp (fMod) (dVar 3) (dOp fIx (dFld (dVar 0) fl_all_sizes) (dVar 4))))
 (sNil))
set_option maxRecDepth 100000 in
theorem w18 (x : StOk (AA P W K a c) N18 (defScope t18) X) (C : COk (AA P W K a c) Φ n X) (FO : FldOk (AA P W K a c)) (IA : IsaOk (AA P W K a c) isaT) : WSs (AA P W K a c) X (defBody t18) (d_houses_Body_put_in Φ) :=
 (ws_cons (s_set x 4 (by decide +kernel) (we_ix x.toXOk (we_fld x.toXOk.hK FO (f := fl_places) rfl (we_v x.toXOk 0 (by decide +kernel)) rfl) (we_v x.toXOk 2 (by decide +kernel)) rfl) rfl)
 (ws_cons (ws_setI x.toXOk (we_v x.toXOk 1 (by decide +kernel)) (we_v x.toXOk 4 (by decide +kernel)) (we_op op_mod opw_mod (we_v x.toXOk 3 (by decide +kernel)) (we_ix x.toXOk (we_fld x.toXOk.hK FO (f := fl_all_sizes) rfl (we_v x.toXOk 0 (by decide +kernel)) rfl) (we_v x.toXOk 4 (by decide +kernel)) rfl)) (fun _ => rfl) rfl rfl rfl)
 ws_nil))
/-! Body.put -/
abbrev t19 : Stmt := inClass (top 35) 3
def N19 : List Str := ["self", "worths", "name", "told", "op", "one", "other", "number"]
def d_houses_Body_put (Φ : Fns) : EW :=
 sSeq (sIf (dTru (dIsT "tuple" (dVar 3))) (sSeq (sTg (tgW (.tup [.nm 4, .nm 5, .nm 6])) (dVar 3))
 (sSeq (sSet 7 (dCall (Φ i_houses_reckoned) (aCons (dVar 4) (aCons (dMt mtT Φ mt_worth_of (dVar 0) (aCons (dVar 1) (aCons (dVar 5) (aNil)))) (aCons (dMt mtT Φ mt_worth_of (dVar 0) (aCons (dVar 1) (aCons (dVar 6) (aNil)))) (aNil))))))
 (sNil))) (sSeq (sSet 7 (dMt mtT Φ mt_worth_of (dVar 0) (aCons (dVar 1) (aCons (dVar 3) (aNil)))))
 (sNil)))
 (sSeq (sExpr (dMt mtT Φ mt_put_in (dVar 0) (aCons (dVar 1) (aCons (dVar 2) (aCons (dVar 7) (aNil))))))
 (sNil))
set_option maxRecDepth 100000 in
theorem w19 (x : StOk (AA P W K a c) N19 (defScope t19) X) (C : COk (AA P W K a c) Φ n X) (FO : FldOk (AA P W K a c)) (IA : IsaOk (AA P W K a c) isaT) : WSs (AA P W K a c) X (defBody t19) (d_houses_Body_put Φ) :=
 (ws_cons (ws_if (wt_gen x.toXOk.hK (b_isT x.toXOk (T := "tuple") (by rfl) g_isinstance (by decide +kernel) g_tuple (by decide +kernel) (we_v x.toXOk 3 (by decide +kernel)) rfl) (fun _ => rfl)) (ws_cons (ws_asg (wg_tup x.toXOk (gs_c (g_nm x 4 (by decide +kernel)) (gs_c (g_nm x 5 (by decide +kernel)) (gs_c (g_nm x 6 (by decide +kernel)) wgs_nil rfl) rfl) rfl) rfl rfl) (we_v x.toXOk 3 (by decide +kernel)) rfl rfl rfl)
 (ws_cons (s_set x 7 (by decide +kernel) (we_f x.toXOk C i_houses_reckoned g_reckoned (by decide +kernel) (wa_c (we_v x.toXOk 4 (by decide +kernel)) (wa_c (we_mtT x.toXOk C (m := mt_worth_of) rfl (we_v x.toXOk 0 (by decide +kernel)) (wa_c (we_v x.toXOk 1 (by decide +kernel)) (wa_c (we_v x.toXOk 5 (by decide +kernel)) wa_nil rfl) rfl) rfl rfl) (wa_c (we_mtT x.toXOk C (m := mt_worth_of) rfl (we_v x.toXOk 0 (by decide +kernel)) (wa_c (we_v x.toXOk 1 (by decide +kernel)) (wa_c (we_v x.toXOk 6 (by decide +kernel)) wa_nil rfl) rfl) rfl rfl) wa_nil rfl) rfl) rfl) rfl) rfl)
 ws_nil)) (ws_cons (s_set x 7 (by decide +kernel) (we_mtT x.toXOk C (m := mt_worth_of) rfl (we_v x.toXOk 0 (by decide +kernel)) (wa_c (we_v x.toXOk 1 (by decide +kernel)) (wa_c (we_v x.toXOk 3 (by decide +kernel)) wa_nil rfl) rfl) rfl rfl) rfl)
 ws_nil))
 (ws_cons (ws_expr (we_mtT x.toXOk C (m := mt_put_in) rfl (we_v x.toXOk 0 (by decide +kernel)) (wa_c (we_v x.toXOk 1 (by decide +kernel)) (wa_c (we_v x.toXOk 2 (by decide +kernel)) (wa_c (we_v x.toXOk 7 (by decide +kernel)) wa_nil rfl) rfl) rfl) rfl rfl) rfl)
 ws_nil))
/-! Body.onward -/
abbrev t20 : Stmt := inClass (top 35) 4
def N20 : List Str := ["self", "worths", "at", "word", "parts"]
def d_houses_Body_onward (Φ : Fns) : EW :=
 sSeq (sStar 3 4 (dOp fIx (dFld (dVar 0) fl_all_rows) (dVar 2)))
 (sSeq (sIf (dTst (dOp (fEq false) (dVar 3) (dC (.str ("put" : Str))))) (sSeq (sExpr (dMt mtT Φ mt_put (dVar 0) (aCons (dVar 1) (aCons (dOp fIx (dVar 4) (dC (.int 0))) (aCons (dOp fIx (dVar 4) (dC (.int 1))) (aNil))))))
 (sNil)) (sNil))
 (sSeq (sIf (dOrT (dTst (dOp (fEq false) (dVar 3) (dC (.str ("go" : Str))))) (dAndT (dTst (dOp (fEq false) (dVar 3) (dC (.str ("when" : Str))))) (dTst (dOp (fEq true) (dMt mtT Φ mt_worth_of (dVar 0) (aCons (dVar 1) (aCons (dOp fIx (dVar 4) (dC (.int 0))) (aNil)))) (dC (.int 0)))))) (sSeq (sRet (dOp fIx (dVar 4) (dNeg (dC (.int 1)))))
 (sNil)) (sNil))
 (sSeq (sRet (dOp (fAdd false) (dVar 2) (dC (.int 1))))
 (sNil))))
set_option maxRecDepth 100000 in
theorem w20 (x : StOk (AA P W K a c) N20 (defScope t20) X) (C : COk (AA P W K a c) Φ n X) (FO : FldOk (AA P W K a c)) (IA : IsaOk (AA P W K a c) isaT) : WSs (AA P W K a c) X (defBody t20) (d_houses_Body_onward Φ) :=
 (ws_cons (s_star x 3 4 (by decide +kernel) (by decide +kernel) (we_ix x.toXOk (we_fld x.toXOk.hK FO (f := fl_all_rows) rfl (we_v x.toXOk 0 (by decide +kernel)) rfl) (we_v x.toXOk 2 (by decide +kernel)) rfl) rfl rfl rfl rfl rfl)
 (ws_cons (ws_if (wt_cmp (op_eqW x.toXOk.u64) (opw_eq x.toXOk.hK) rfl (we_v x.toXOk 3 (by decide +kernel)) we_str) (ws_cons (ws_expr (we_mtT x.toXOk C (m := mt_put) rfl (we_v x.toXOk 0 (by decide +kernel)) (wa_c (we_v x.toXOk 1 (by decide +kernel)) (wa_c (we_ix x.toXOk (we_v x.toXOk 4 (by decide +kernel)) we_int rfl) (wa_c (we_ix x.toXOk (we_v x.toXOk 4 (by decide +kernel)) we_int rfl) wa_nil rfl) rfl) rfl) rfl rfl) rfl)
 ws_nil) ws_nil)
 (ws_cons (ws_if (wt_of (ww_or (wt_cmp (op_eqW x.toXOk.u64) (opw_eq x.toXOk.hK) rfl (we_v x.toXOk 3 (by decide +kernel)) we_str) (ww_or1 (wt_of (ww_and (wt_cmp (op_eqW x.toXOk.u64) (opw_eq x.toXOk.hK) rfl (we_v x.toXOk 3 (by decide +kernel)) we_str) (ww_and1 (wt_cmp (op_neW x.toXOk.u64) (opw_ne x.toXOk.hK) rfl (we_mtT x.toXOk C (m := mt_worth_of) rfl (we_v x.toXOk 0 (by decide +kernel)) (wa_c (we_v x.toXOk 1 (by decide +kernel)) (wa_c (we_ix x.toXOk (we_v x.toXOk 4 (by decide +kernel)) we_int rfl) wa_nil rfl) rfl) rfl rfl) we_int))))))) (ws_cons (ws_ret (we_ix x.toXOk (we_v x.toXOk 4 (by decide +kernel)) (we_neg we_int) rfl))
 ws_nil) ws_nil)
 (ws_cons (ws_ret (we_op op_addW (opw_add x.toXOk.hK) (we_v x.toXOk 2 (by decide +kernel)) we_int))
 ws_nil))))
/-! Body.gone_along -/
abbrev t21 : Stmt := inClass (top 35) 5
def N21 : List Str := ["self", "worths", "at", "seen", "stand_here"]
def d_houses_Body_gone_along (Φ : Fns) : EW :=
 sSeq (sSet 3 (dTd))
 (sSeq (whlL (dAndT (dTst (dOp (fInt fun i j => decide (i < j)) (dVar 2) (dBi bLen (aCons (dFld (dVar 0) fl_all_rows) (aNil))))) (dTst (dOp (fIn true) (dOp fIx (dOp fIx (dFld (dVar 0) fl_all_rows) (dVar 2)) (dC (.int 0))) (dTup (aCons (dC (.str ("ask" : Str))) (aCons (dC (.str ("tell" : Str))) (aCons (dC (.str ("halt" : Str))) (aNil)))))))) (sSeq (sSet 4 (dTup (aCons (dVar 2) (aCons (dBi bTup (aCons (dVar 1) (aNil))) (aNil)))))
 (sSeq (sIf (dTst (dOp (fIn false) (dVar 4) (dVar 3))) (sSeq (sRet (dC .non))
 (sNil)) (sNil))
 (sSeq (sSetI (dVar 3) (dVar 4) (dC (.bl true)))
 (sSeq (sSet 2 (dMt mtT Φ mt_onward (dVar 0) (aCons (dVar 1) (aCons (dVar 2) (aNil)))))
 (sNil))))) 10000)
 (sSeq (sIf (dOrT (dTst (dOp (fEq false) (dVar 2) (dBi bLen (aCons (dFld (dVar 0) fl_all_rows) (aNil))))) (dTst (dOp (fEq false) (dOp fIx (dOp fIx (dFld (dVar 0) fl_all_rows) (dVar 2)) (dC (.int 0))) (dC (.str ("halt" : Str)))))) (sSeq (sRet (dC .non))
 (sNil)) (sNil))
 (sSeq (sRet (dVar 2))
 (sNil))))
set_option maxRecDepth 100000 in
theorem w21 (x : StOk (AA P W K a c) N21 (defScope t21) X) (C : COk (AA P W K a c) Φ n X) (FO : FldOk (AA P W K a c)) (IA : IsaOk (AA P W K a c) isaT) : WSs (AA P W K a c) X (defBody t21) (d_houses_Body_gone_along Φ) :=
 (ws_cons (s_set x 3 (by decide +kernel) (we_td x.toXOk) rfl)
 (ws_cons (ws_whl (wt_of (ww_and (wt_cmp op_lt opw_int rfl (we_v x.toXOk 2 (by decide +kernel)) (b_len x.toXOk g_len (by decide +kernel) (wa_c (we_fld x.toXOk.hK FO (f := fl_all_rows) rfl (we_v x.toXOk 0 (by decide +kernel)) rfl) wa_nil rfl) rfl)) (ww_and1 (wt_cmp (op_notInX x.toXOk) (opw_notin x.toXOk) rfl (we_ix x.toXOk (we_ix x.toXOk (we_fld x.toXOk.hK FO (f := fl_all_rows) rfl (we_v x.toXOk 0 (by decide +kernel)) rfl) (we_v x.toXOk 2 (by decide +kernel)) rfl) we_int rfl) (we_tup (wa_c (we_k x.toXOk g_ASK (by decide +kernel)) (wa_c (we_k x.toXOk g_TELL (by decide +kernel)) (wa_c we_str wa_nil rfl) rfl) rfl)))))) (ws_cons (s_set x 4 (by decide +kernel) (we_tup (wa_c (we_v x.toXOk 2 (by decide +kernel)) (wa_c (b_tuple x.toXOk g_tuple (by decide +kernel) (wa_c (we_v x.toXOk 1 (by decide +kernel)) wa_nil rfl) rfl) wa_nil rfl) rfl)) rfl)
 (ws_cons (ws_if (wt_cmp (op_inX x.toXOk) (opw_in x.toXOk) rfl (we_v x.toXOk 4 (by decide +kernel)) (we_v x.toXOk 3 (by decide +kernel))) (ws_cons (ws_ret we_non)
 ws_nil) ws_nil)
 (ws_cons (ws_setI x.toXOk (we_v x.toXOk 3 (by decide +kernel)) (we_v x.toXOk 4 (by decide +kernel)) we_bl (fun _ => rfl) rfl rfl rfl)
 (ws_cons (s_set x 2 (by decide +kernel) (we_mtT x.toXOk C (m := mt_onward) rfl (we_v x.toXOk 0 (by decide +kernel)) (wa_c (we_v x.toXOk 1 (by decide +kernel)) (wa_c (we_v x.toXOk 2 (by decide +kernel)) wa_nil rfl) rfl) rfl rfl) rfl)
 ws_nil)))))
 (ws_cons (ws_if (wt_of (ww_or (wt_cmp (op_eqW x.toXOk.u64) (opw_eq x.toXOk.hK) rfl (we_v x.toXOk 2 (by decide +kernel)) (b_len x.toXOk g_len (by decide +kernel) (wa_c (we_fld x.toXOk.hK FO (f := fl_all_rows) rfl (we_v x.toXOk 0 (by decide +kernel)) rfl) wa_nil rfl) rfl)) (ww_or1 (wt_cmp (op_eqW x.toXOk.u64) (opw_eq x.toXOk.hK) rfl (we_ix x.toXOk (we_ix x.toXOk (we_fld x.toXOk.hK FO (f := fl_all_rows) rfl (we_v x.toXOk 0 (by decide +kernel)) rfl) (we_v x.toXOk 2 (by decide +kernel)) rfl) we_int rfl) we_str)))) (ws_cons (ws_ret we_non)
 ws_nil) ws_nil)
 (ws_cons (ws_ret (we_v x.toXOk 2 (by decide +kernel)))
 ws_nil))))
/-! House.__init__ -/
abbrev t22 : Stmt := inClass (top 36) 0
def N22 : List Str := ["self", "face", "cells", "bodies", "door", "body"]
def d_houses_House_init (Φ : Fns) : EW :=
 sSeq (sIf (dNotT (dTru (dIsC isaT c_Face (dVar 1)))) (sSeq (sRaise c_BadHouse fl_field (dC (.str ("face" : Str))))
 (sNil)) (sNil))
 (sSeq (sIf (dNotT (dTru (dCall (Φ i_houses_are_cells) (aCons (dVar 2) (aNil))))) (sSeq (sRaise c_BadHouse fl_field (dC (.str ("cells" : Str))))
 (sNil)) (sNil))
 (sSeq (sIf (dNotT (dTru (dCall (Φ i_houses_are_bodies) (aCons (dVar 3) (aCons (dVar 1) (aCons (dVar 2) (aNil))))))) (sSeq (sRaise c_BadHouse fl_field (dC (.str ("bodies" : Str))))
 (sNil)) (sNil))
 (sSeq (sStF layT (dVar 0) fl_face (dVar 1))
 (sSeq (sStF layT (dVar 0) fl_cells (dVar 2))
 (sSeq (sStF layT (dVar 0) fl_bodies (dVar 3))
 (sSeq (sStF layT (dVar 0) fl_body_by_door (dDComp false (iZip (aCons (dFld (dVar 1) fl_doors) (aCons (dVar 3) (aNil)))) (.tup [.nm 4, .nm 5]) (bYes) (dVar 4) (dMk iniT valT Φ c_Body (aCons (dVar 1) (aCons (dVar 2) (aCons (dVar 5) (aNil))))) [4, 5]))
 (sNil)))))))
set_option maxRecDepth 100000 in
theorem w22 (x : StOk (AA P W K a c) N22 (defScope t22) X) (C : COk (AA P W K a c) Φ n X) (FO : FldOk (AA P W K a c)) (IA : IsaOk (AA P W K a c) isaT) : WSs (AA P W K a c) X (defBody t22) (d_houses_House_init Φ) :=
 (ws_cons (ws_if (wt_not (wt_gen x.toXOk.hK (we_isC x.toXOk IA c_Face (we_v x.toXOk 1 (by decide +kernel)) g_isinstance (by decide +kernel) g_Face (by decide +kernel) rfl) (fun _ => rfl))) (ws_cons (s_raise x C (c := c_BadHouse) (f := fl_field) rfl g_BadHouse (by decide +kernel) we_str rfl)
 ws_nil) ws_nil)
 (ws_cons (ws_if (wt_not (wt_gen x.toXOk.hK (we_f x.toXOk C i_houses_are_cells g_are_cells (by decide +kernel) (wa_c (we_v x.toXOk 2 (by decide +kernel)) wa_nil rfl) rfl) (fun _ => rfl))) (ws_cons (s_raise x C (c := c_BadHouse) (f := fl_field) rfl g_BadHouse (by decide +kernel) we_str rfl)
 ws_nil) ws_nil)
 (ws_cons (ws_if (wt_not (wt_gen x.toXOk.hK (we_f x.toXOk C i_houses_are_bodies g_are_bodies (by decide +kernel) (wa_c (we_v x.toXOk 3 (by decide +kernel)) (wa_c (we_v x.toXOk 1 (by decide +kernel)) (wa_c (we_v x.toXOk 2 (by decide +kernel)) wa_nil rfl) rfl) rfl) rfl) (fun _ => rfl))) (ws_cons (s_raise x C (c := c_BadHouse) (f := fl_field) rfl g_BadHouse (by decide +kernel) we_str rfl)
 ws_nil) ws_nil)
 (ws_cons (s_stF x.toXOk FO (f := fl_face) rfl (we_v x.toXOk 0 (by decide +kernel)) (we_v x.toXOk 1 (by decide +kernel)))
 (ws_cons (s_stF x.toXOk FO (f := fl_cells) rfl (we_v x.toXOk 0 (by decide +kernel)) (we_v x.toXOk 2 (by decide +kernel)))
 (ws_cons (s_stF x.toXOk FO (f := fl_bodies) rfl (we_v x.toXOk 0 (by decide +kernel)) (we_v x.toXOk 3 (by decide +kernel)))
 (ws_cons (s_stF x.toXOk FO (f := fl_body_by_door) rfl (we_v x.toXOk 0 (by decide +kernel)) (we_dcomp x.toXOk (i_zip x.toXOk g_zip (by decide +kernel) (wa_c (we_fld x.toXOk.hK FO (f := fl_doors) rfl (we_v x.toXOk 1 (by decide +kernel)) rfl) (wa_c (we_v x.toXOk 3 (by decide +kernel)) wa_nil rfl) rfl) rfl) (blkOk_by (own := [("door", 4), ("body", 5)]) (by decide +kernel)) (by decide +kernel) (fun _ _ _ _ _ => (wg_tup (XOk.blk x.toXOk) (gs_c (g_cm (XOk.blk x.toXOk) 4 (by decide +kernel)) (gs_c (g_cm (XOk.blk x.toXOk) 5 (by decide +kernel)) wgs_nil rfl) rfl) rfl rfl)) (fun _ _ _ _ _ => wpt_nil) (fun _ _ _ _ _ => (we_v (XOk.blk x.toXOk) 4 (by decide +kernel))) (fun _ _ _ _ _ => (we_mkT (XOk.blk x.toXOk) (COk.blk C) (c := c_Body) rfl g_Body (by decide +kernel) (wa_c (we_v (XOk.blk x.toXOk) 1 (by decide +kernel)) (wa_c (we_v (XOk.blk x.toXOk) 2 (by decide +kernel)) (wa_c (we_v (XOk.blk x.toXOk) 5 (by decide +kernel)) wa_nil rfl) rfl) rfl) rfl)) (fun _ => rfl)))
 ws_nil)))))))
/-! House.first -/
abbrev t23 : Stmt := inClass (top 36) 2
def N23 : List Str := ["self", "name", "size", "first"]
def d_houses_House_first (Φ : Fns) : EW :=
 sSeq (sRet (dBi bTup (aCons (dComp false (iAny (dFld (dVar 0) fl_cells)) (.tup [.nm 1, .nm 2, .nm 3]) (bYes) (dVar 3) [1, 2, 3]) (aNil))))
 (sNil)
set_option maxRecDepth 100000 in
theorem w23 (x : StOk (AA P W K a c) N23 (defScope t23) X) (C : COk (AA P W K a c) Φ n X) (FO : FldOk (AA P W K a c)) (IA : IsaOk (AA P W K a c) isaT) : WSs (AA P W K a c) X (defBody t23) (d_houses_House_first Φ) :=
 (ws_cons (ws_ret (b_tuple x.toXOk g_tuple (by decide +kernel) (wa_c (we_comp x.toXOk (i_any x.toXOk (we_fld x.toXOk.hK FO (f := fl_cells) rfl (we_v x.toXOk 0 (by decide +kernel)) rfl)) (blkOk_by (own := [("name", 1), ("size", 2), ("first", 3)]) (by decide +kernel)) (by decide +kernel) (fun _ _ _ _ _ => (wg_tup (XOk.blk x.toXOk) (gs_c (g_cm (XOk.blk x.toXOk) 1 (by decide +kernel)) (gs_c (g_cm (XOk.blk x.toXOk) 2 (by decide +kernel)) (gs_c (g_cm (XOk.blk x.toXOk) 3 (by decide +kernel)) wgs_nil rfl) rfl) rfl) rfl rfl)) (fun _ _ _ _ _ => wpt_nil) (fun _ _ _ _ _ => (we_v (XOk.blk x.toXOk) 3 (by decide +kernel))) (fun _ => rfl)) wa_nil rfl) rfl))
 ws_nil)
/-! House.said -/
abbrev t24 : Stmt := inClass (top 36) 7
def N24 : List Str := ["self", "door", "worths", "at", "body", "row", "many", "stand", "own", "word", "parts"]
def d_houses_House_said (Φ : Fns) : EW :=
 sSeq (sSet 4 (dOp fIx (dFld (dVar 0) fl_body_by_door) (dVar 1)))
 (sSeq (sSet 5 (dMt mtT Φ mt_gone_along (dVar 4) (aCons (dVar 2) (aCons (dVar 3) (aNil)))))
 (sSeq (sIf (dTst (dOp (fIs false) (dVar 5) (dC .non))) (sSeq (sRet (dC (.tup [.str ("dead" : Str)])))
 (sNil)) (sNil))
 (sSeq (sSet 6 (dBi bLen (aCons (dFld (dVar 0) fl_cells) (aNil))))
 (sSeq (sPar 7 8 (aCons (dBi bTup (aCons (dSl false (dVar 2) (oNo) (oSome (dVar 6))) (aNil))) (aCons (dBi bTup (aCons (dSl false (dVar 2) (oSome (dVar 6)) (oNo)) (aNil))) (aNil))))
 (sSeq (sStar 9 10 (dOp fIx (dFld (dVar 4) fl_all_rows) (dVar 5)))
 (sSeq (sIf (dTst (dOp (fEq false) (dVar 9) (dC (.str ("tell" : Str))))) (sSeq (sRet (dTup (aCons (dC (.str ("tell" : Str))) (aCons (dOp (fMod) (dMt mtT Φ mt_worth_of (dVar 4) (aCons (dVar 2) (aCons (dOp fIx (dVar 10) (dC (.int 0))) (aNil)))) (dFld (dFld (dVar 0) fl_face) fl_size)) (aCons (dVar 7) (aNil))))))
 (sNil)) (sNil))
 (sSeq (sRet (dTup (aCons (dC (.str ("ask" : Str))) (aCons (dOp fIx (dVar 10) (dC (.int 0))) (aCons (dOp (fMod) (dMt mtT Φ mt_worth_of (dVar 4) (aCons (dVar 2) (aCons (dOp fIx (dVar 10) (dC (.int 1))) (aNil)))) (dFld (dFld (dVar 0) fl_face) fl_size)) (aCons (dVar 7) (aCons (dTup (aCons (dVar 1) (aCons (dVar 5) (aCons (dVar 8) (aNil))))) (aNil))))))))
 (sNil))))))))
set_option maxRecDepth 100000 in
theorem w24 (x : StOk (AA P W K a c) N24 (defScope t24) X) (C : COk (AA P W K a c) Φ n X) (FO : FldOk (AA P W K a c)) (IA : IsaOk (AA P W K a c) isaT) : WSs (AA P W K a c) X (defBody t24) (d_houses_House_said Φ) :=
 (ws_cons (s_set x 4 (by decide +kernel) (we_ix x.toXOk (we_fld x.toXOk.hK FO (f := fl_body_by_door) rfl (we_v x.toXOk 0 (by decide +kernel)) rfl) (we_v x.toXOk 1 (by decide +kernel)) rfl) rfl)
 (ws_cons (s_set x 5 (by decide +kernel) (we_mtT x.toXOk C (m := mt_gone_along) rfl (we_v x.toXOk 4 (by decide +kernel)) (wa_c (we_v x.toXOk 2 (by decide +kernel)) (wa_c (we_v x.toXOk 3 (by decide +kernel)) wa_nil rfl) rfl) rfl rfl) rfl)
 (ws_cons (ws_if (wt_cmp op_isW opw_is rfl (we_v x.toXOk 5 (by decide +kernel)) we_non) (ws_cons (ws_ret (we_k x.toXOk g_DEAD (by decide +kernel)))
 ws_nil) ws_nil)
 (ws_cons (s_set x 6 (by decide +kernel) (b_len x.toXOk g_len (by decide +kernel) (wa_c (we_fld x.toXOk.hK FO (f := fl_cells) rfl (we_v x.toXOk 0 (by decide +kernel)) rfl) wa_nil rfl) rfl) rfl)
 (ws_cons (s_par2 x 7 8 (by decide +kernel) (wa_c (b_tuple x.toXOk g_tuple (by decide +kernel) (wa_c (we_sl x.toXOk.hK (we_v x.toXOk 2 (by decide +kernel)) wo_none (wo_some (we_v x.toXOk 6 (by decide +kernel)))) wa_nil rfl) rfl) (wa_c (b_tuple x.toXOk g_tuple (by decide +kernel) (wa_c (we_sl x.toXOk.hK (we_v x.toXOk 2 (by decide +kernel)) (wo_some (we_v x.toXOk 6 (by decide +kernel))) wo_none) wa_nil rfl) rfl) wa_nil rfl) rfl) (by kernel_rfl) rfl)
 (ws_cons (s_star x 9 10 (by decide +kernel) (by decide +kernel) (we_ix x.toXOk (we_fld x.toXOk.hK FO (f := fl_all_rows) rfl (we_v x.toXOk 4 (by decide +kernel)) rfl) (we_v x.toXOk 5 (by decide +kernel)) rfl) rfl rfl rfl rfl rfl)
 (ws_cons (ws_if (wt_cmp (op_eqW x.toXOk.u64) (opw_eq x.toXOk.hK) rfl (we_v x.toXOk 9 (by decide +kernel)) (we_k x.toXOk g_TELL (by decide +kernel))) (ws_cons (ws_ret (we_tup (wa_c (we_k x.toXOk g_TELL (by decide +kernel)) (wa_c (we_op op_mod opw_mod (we_mtT x.toXOk C (m := mt_worth_of) rfl (we_v x.toXOk 4 (by decide +kernel)) (wa_c (we_v x.toXOk 2 (by decide +kernel)) (wa_c (we_ix x.toXOk (we_v x.toXOk 10 (by decide +kernel)) we_int rfl) wa_nil rfl) rfl) rfl rfl) (we_fld x.toXOk.hK FO (f := fl_size) rfl (we_fld x.toXOk.hK FO (f := fl_face) rfl (we_v x.toXOk 0 (by decide +kernel)) rfl) rfl)) (wa_c (we_v x.toXOk 7 (by decide +kernel)) wa_nil rfl) rfl) rfl)))
 ws_nil) ws_nil)
 (ws_cons (ws_ret (we_tup (wa_c (we_k x.toXOk g_ASK (by decide +kernel)) (wa_c (we_ix x.toXOk (we_v x.toXOk 10 (by decide +kernel)) we_int rfl) (wa_c (we_op op_mod opw_mod (we_mtT x.toXOk C (m := mt_worth_of) rfl (we_v x.toXOk 4 (by decide +kernel)) (wa_c (we_v x.toXOk 2 (by decide +kernel)) (wa_c (we_ix x.toXOk (we_v x.toXOk 10 (by decide +kernel)) we_int rfl) wa_nil rfl) rfl) rfl rfl) (we_fld x.toXOk.hK FO (f := fl_size) rfl (we_fld x.toXOk.hK FO (f := fl_face) rfl (we_v x.toXOk 0 (by decide +kernel)) rfl) rfl)) (wa_c (we_v x.toXOk 7 (by decide +kernel)) (wa_c (we_tup (wa_c (we_v x.toXOk 1 (by decide +kernel)) (wa_c (we_v x.toXOk 5 (by decide +kernel)) (wa_c (we_v x.toXOk 8 (by decide +kernel)) wa_nil rfl) rfl) rfl)) wa_nil rfl) rfl) rfl) rfl) rfl)))
 ws_nil))))))))
/-! House.knock -/
abbrev t25 : Stmt := inClass (top 36) 8
def N25 : List Str := ["self", "stand", "door", "worth", "own_sizes"]
def d_houses_House_knock (Φ : Fns) : EW :=
 sSeq (sSet 4 (dFld (dOp fIx (dFld (dVar 0) fl_body_by_door) (dVar 2)) fl_own_sizes))
 (sSeq (sRet (dMt mtT Φ mt_said (dVar 0) (aCons (dVar 2) (aCons (dOp (fAdd true) (dOp (fAdd false) (dBi (bList false) (aCons (dVar 1) (aNil))) (dLst false (aCons (dVar 3) (aNil)))) (dOp (fMul false) (dLst false (aCons (dC (.int 0)) (aNil))) (dOp (fSub) (dBi bLen (aCons (dVar 4) (aNil))) (dC (.int 1))))) (aCons (dC (.int 0)) (aNil))))))
 (sNil))
set_option maxRecDepth 100000 in
theorem w25 (x : StOk (AA P W K a c) N25 (defScope t25) X) (C : COk (AA P W K a c) Φ n X) (FO : FldOk (AA P W K a c)) (IA : IsaOk (AA P W K a c) isaT) : WSs (AA P W K a c) X (defBody t25) (d_houses_House_knock Φ) :=
 (ws_cons (s_set x 4 (by decide +kernel) (we_fld x.toXOk.hK FO (f := fl_own_sizes) rfl (we_ix x.toXOk (we_fld x.toXOk.hK FO (f := fl_body_by_door) rfl (we_v x.toXOk 0 (by decide +kernel)) rfl) (we_v x.toXOk 2 (by decide +kernel)) rfl) rfl) rfl)
 (ws_cons (ws_ret (we_mtT x.toXOk C (m := mt_said) rfl (we_v x.toXOk 0 (by decide +kernel)) (wa_c (we_v x.toXOk 2 (by decide +kernel)) (wa_c (we_op op_addW (opw_add x.toXOk.hK) (we_op op_addW (opw_add x.toXOk.hK) (b_list x.toXOk false g_list (by decide +kernel) (wa_c (we_v x.toXOk 1 (by decide +kernel)) wa_nil rfl) rfl) (we_lst (wa_c (we_v x.toXOk 3 (by decide +kernel)) wa_nil rfl))) (we_op op_mulWW opw_mul (we_lst (wa_c we_int wa_nil rfl)) (we_op op_sub opw_sub (b_len x.toXOk g_len (by decide +kernel) (wa_c (we_v x.toXOk 4 (by decide +kernel)) wa_nil rfl) rfl) we_int))) (wa_c we_int wa_nil rfl) rfl) rfl) rfl rfl))
 ws_nil))
/-! House.answer -/
abbrev t26 : Stmt := inClass (top 36) 9
def N26 : List Str := ["self", "stand", "frame", "worth", "door", "row", "own", "body", "worths"]
def d_houses_House_answer (Φ : Fns) : EW :=
 sSeq (sTg (tgW (.tup [.nm 4, .nm 5, .nm 6])) (dVar 2))
 (sSeq (sSet 7 (dOp fIx (dFld (dVar 0) fl_body_by_door) (dVar 4)))
 (sSeq (sSet 8 (dOp (fAdd true) (dBi (bList false) (aCons (dVar 1) (aNil))) (dBi (bList false) (aCons (dVar 6) (aNil)))))
 (sSeq (sExpr (dMt mtT Φ mt_put_in (dVar 7) (aCons (dVar 8) (aCons (dOp fIx (dOp fIx (dFld (dVar 7) fl_all_rows) (dVar 5)) (dC (.int 3))) (aCons (dVar 3) (aNil))))))
 (sSeq (sRet (dMt mtT Φ mt_said (dVar 0) (aCons (dVar 4) (aCons (dVar 8) (aCons (dOp (fAdd false) (dVar 5) (dC (.int 1))) (aNil))))))
 (sNil)))))
set_option maxRecDepth 100000 in
theorem w26 (x : StOk (AA P W K a c) N26 (defScope t26) X) (C : COk (AA P W K a c) Φ n X) (FO : FldOk (AA P W K a c)) (IA : IsaOk (AA P W K a c) isaT) : WSs (AA P W K a c) X (defBody t26) (d_houses_House_answer Φ) :=
 (ws_cons (ws_asg (wg_tup x.toXOk (gs_c (g_nm x 4 (by decide +kernel)) (gs_c (g_nm x 5 (by decide +kernel)) (gs_c (g_nm x 6 (by decide +kernel)) wgs_nil rfl) rfl) rfl) rfl rfl) (we_v x.toXOk 2 (by decide +kernel)) rfl rfl rfl)
 (ws_cons (s_set x 7 (by decide +kernel) (we_ix x.toXOk (we_fld x.toXOk.hK FO (f := fl_body_by_door) rfl (we_v x.toXOk 0 (by decide +kernel)) rfl) (we_v x.toXOk 4 (by decide +kernel)) rfl) rfl)
 (ws_cons (s_set x 8 (by decide +kernel) (we_op op_addW (opw_add x.toXOk.hK) (b_list x.toXOk false g_list (by decide +kernel) (wa_c (we_v x.toXOk 1 (by decide +kernel)) wa_nil rfl) rfl) (b_list x.toXOk false g_list (by decide +kernel) (wa_c (we_v x.toXOk 6 (by decide +kernel)) wa_nil rfl) rfl)) rfl)
 (ws_cons (ws_expr (we_mtT x.toXOk C (m := mt_put_in) rfl (we_v x.toXOk 7 (by decide +kernel)) (wa_c (we_v x.toXOk 8 (by decide +kernel)) (wa_c (we_ix x.toXOk (we_ix x.toXOk (we_fld x.toXOk.hK FO (f := fl_all_rows) rfl (we_v x.toXOk 7 (by decide +kernel)) rfl) (we_v x.toXOk 5 (by decide +kernel)) rfl) we_int rfl) (wa_c (we_v x.toXOk 3 (by decide +kernel)) wa_nil rfl) rfl) rfl) rfl rfl) rfl)
 (ws_cons (ws_ret (we_mtT x.toXOk C (m := mt_said) rfl (we_v x.toXOk 0 (by decide +kernel)) (wa_c (we_v x.toXOk 4 (by decide +kernel)) (wa_c (we_v x.toXOk 8 (by decide +kernel)) (wa_c (we_op op_addW (opw_add x.toXOk.hK) (we_v x.toXOk 5 (by decide +kernel)) we_int) wa_nil rfl) rfl) rfl) rfl rfl))
 ws_nil)))))
/-! _law_hand -/
abbrev t27 : Stmt := top 38
def N27 : List Str := ["_law_script", "_law_k", "_law_cell", "_law_great"]
def d_L_hand (Φ : Fns) : EW :=
 sSeq (sSet 2 (dIf (dTst (dOp (fInt fun i j => decide (i < j)) (dVar 1) (dBi bLen (aCons (dVar 0) (aNil))))) (dOp fIx (dVar 0) (dVar 1)) (dOp (fAdd false) (dOp (fMul false) (dC (.int 11)) (dVar 1)) (dBi bLen (aCons (dVar 0) (aNil))))))
 (sSeq (sSet 3 (dOp (fMul false) (dOp (fMod) (dBi bAbs (aCons (dVar 2) (aNil))) (dOp (fPow) (dOp (fPow) (dC (.int 10)) (dC (.int 60))) (dC (.int 5)))) (dBi bInt (aCons (dOp (fInt fun i j => decide (j ≤ i)) (dBi bAbs (aCons (dVar 2) (aNil))) (dOp (fPow) (dC (.int 10)) (dC (.int 18)))) (aNil)))))
 (sSeq (sRet (dLst true (aCons (dVar 3) (aCons (dOp (fMod) (dOp (fAdd false) (dOp (fAdd false) (dOp (fMod) (dVar 2) (dC (.int 2305843009213693951))) (dOp (fMul false) (dOp (fMul false) (dC (.int 7919)) (dVar 1)) (dVar 1))) (dC (.int 13))) (dC (.int 2305843009213693951))) (aCons (dC (.int 0)) (aNil))))))
 (sNil)))
set_option maxRecDepth 100000 in
theorem w27 (x : StOk (AA P W K a c) N27 (defScope t27) X) (C : COk (AA P W K a c) Φ n X) (FO : FldOk (AA P W K a c)) (IA : IsaOk (AA P W K a c) isaT) : WSs (AA P W K a c) X (defBody t27) (d_L_hand Φ) :=
 (ws_cons (s_set x 2 (by decide +kernel) (we_if (wt_cmp op_lt opw_int rfl (we_v x.toXOk 1 (by decide +kernel)) (b_len x.toXOk g_len (by decide +kernel) (wa_c (we_v x.toXOk 0 (by decide +kernel)) wa_nil rfl) rfl)) (we_ix x.toXOk (we_v x.toXOk 0 (by decide +kernel)) (we_v x.toXOk 1 (by decide +kernel)) rfl) (we_op op_addW (opw_add x.toXOk.hK) (we_op op_mulWW opw_mul we_int (we_v x.toXOk 1 (by decide +kernel))) (b_len x.toXOk g_len (by decide +kernel) (wa_c (we_v x.toXOk 0 (by decide +kernel)) wa_nil rfl) rfl))) rfl)
 (ws_cons (s_set x 3 (by decide +kernel) (we_op op_mulWW opw_mul (we_op op_mod opw_mod (b_abs x.toXOk g_abs (by decide +kernel) (wa_c (we_v x.toXOk 2 (by decide +kernel)) wa_nil rfl) rfl) (we_op op_powW opw_pow (we_op op_powW opw_pow we_int we_int) we_int)) (b_int x.toXOk g_int (by decide +kernel) (wa_c (we_cmp op_ge opw_int rfl (b_abs x.toXOk g_abs (by decide +kernel) (wa_c (we_v x.toXOk 2 (by decide +kernel)) wa_nil rfl) rfl) (we_op op_powW opw_pow we_int we_int)) wa_nil rfl) rfl)) rfl)
 (ws_cons (ws_ret (we_lst (wa_c (we_v x.toXOk 3 (by decide +kernel)) (wa_c (we_op op_mod opw_mod (we_op op_addW (opw_add x.toXOk.hK) (we_op op_addW (opw_add x.toXOk.hK) (we_op op_mod opw_mod (we_v x.toXOk 2 (by decide +kernel)) we_int) (we_op op_mulWW opw_mul (we_op op_mulWW opw_mul we_int (we_v x.toXOk 1 (by decide +kernel))) (we_v x.toXOk 1 (by decide +kernel)))) we_int) we_int) (wa_c we_int wa_nil rfl) rfl) rfl)))
 ws_nil)))
/-! _law_take -/
abbrev t28 : Stmt := top 39
def N28 : List Str := ["_law_hand_here", "_law_many", "_law_digit", "_law_primes", "_law_prime", "_law_drawn"]
def d_L_take (Φ : Fns) : EW :=
 sSeq (sIf (dTst (dOp (fInt fun i j => decide (j < i)) (dOp fIx (dVar 0) (dC (.int 0))) (dC (.int 0)))) (sSeq (sSet 2 (dOp (fMod) (dOp fIx (dVar 0) (dC (.int 0))) (dVar 1)))
 (sSeq (sSetI (dVar 0) (dC (.int 0)) (dOp (fDiv) (dOp fIx (dVar 0) (dC (.int 0))) (dVar 1)))
 (sSeq (sRet (dVar 2))
 (sNil)))) (sNil))
 (sSeq (sSetI (dVar 0) (dC (.int 2)) (dOp (fAdd false) (dOp fIx (dVar 0) (dC (.int 2))) (dC (.int 1))))
 (sSeq (sSet 3 (dLst false (aCons (dC (.int 2147483647)) (aCons (dC (.int 2147483629)) (aCons (dC (.int 2147483587)) (aCons (dC (.int 2147483579)) (aCons (dC (.int 2147483563)) (aCons (dC (.int 2147483549)) (aCons (dC (.int 2147483543)) (aCons (dC (.int 2147483497)) (aNil)))))))))))
 (sSeq (sSet 4 (dOp fIx (dVar 3) (dOp (fMod) (dOp fIx (dVar 0) (dC (.int 2))) (dC (.int 8)))))
 (sSeq (sSet 5 (dOp (fMod) (dOp (fPow) (dOp (fAdd false) (dOp fIx (dVar 0) (dC (.int 1))) (dOp (fMul false) (dC (.int 7919)) (dOp fIx (dVar 0) (dC (.int 2))))) (dC (.int 5))) (dVar 4)))
 (sSeq (sRet (dOp (fMod) (dOp (fDiv) (dOp (fMod) (dOp (fMul false) (dVar 5) (dOp (fAdd false) (dOp (fMod) (dVar 5) (dC (.int 1009))) (dOp fIx (dVar 0) (dC (.int 2))))) (dVar 4)) (dC (.int 7))) (dVar 1)))
 (sNil))))))
set_option maxRecDepth 100000 in
theorem w28 (x : StOk (AA P W K a c) N28 (defScope t28) X) (C : COk (AA P W K a c) Φ n X) (FO : FldOk (AA P W K a c)) (IA : IsaOk (AA P W K a c) isaT) : WSs (AA P W K a c) X (defBody t28) (d_L_take Φ) :=
 (ws_cons (ws_if (wt_cmp op_gt opw_int rfl (we_ix x.toXOk (we_v x.toXOk 0 (by decide +kernel)) we_int rfl) we_int) (ws_cons (s_set x 2 (by decide +kernel) (we_op op_mod opw_mod (we_ix x.toXOk (we_v x.toXOk 0 (by decide +kernel)) we_int rfl) (we_v x.toXOk 1 (by decide +kernel))) rfl)
 (ws_cons (ws_setI x.toXOk (we_v x.toXOk 0 (by decide +kernel)) we_int (we_op op_fdivW opw_div (we_ix x.toXOk (we_v x.toXOk 0 (by decide +kernel)) we_int rfl) (we_v x.toXOk 1 (by decide +kernel))) (fun _ => rfl) rfl rfl rfl)
 (ws_cons (ws_ret (we_v x.toXOk 2 (by decide +kernel)))
 ws_nil))) ws_nil)
 (ws_cons (ws_setI x.toXOk (we_v x.toXOk 0 (by decide +kernel)) we_int (we_op op_addW (opw_add x.toXOk.hK) (we_ix x.toXOk (we_v x.toXOk 0 (by decide +kernel)) we_int rfl) we_int) (fun _ => rfl) rfl rfl rfl)
 (ws_cons (s_set x 3 (by decide +kernel) (we_lst (wa_c we_int (wa_c we_int (wa_c we_int (wa_c we_int (wa_c we_int (wa_c we_int (wa_c we_int (wa_c we_int wa_nil rfl) rfl) rfl) rfl) rfl) rfl) rfl) rfl)) rfl)
 (ws_cons (s_set x 4 (by decide +kernel) (we_ix x.toXOk (we_v x.toXOk 3 (by decide +kernel)) (we_op op_mod opw_mod (we_ix x.toXOk (we_v x.toXOk 0 (by decide +kernel)) we_int rfl) we_int) rfl) rfl)
 (ws_cons (s_set x 5 (by decide +kernel) (we_op op_mod opw_mod (we_op op_powW opw_pow (we_op op_addW (opw_add x.toXOk.hK) (we_ix x.toXOk (we_v x.toXOk 0 (by decide +kernel)) we_int rfl) (we_op op_mulWW opw_mul we_int (we_ix x.toXOk (we_v x.toXOk 0 (by decide +kernel)) we_int rfl))) we_int) (we_v x.toXOk 4 (by decide +kernel))) rfl)
 (ws_cons (ws_ret (we_op op_mod opw_mod (we_op op_fdivW opw_div (we_op op_mod opw_mod (we_op op_mulWW opw_mul (we_v x.toXOk 5 (by decide +kernel)) (we_op op_addW (opw_add x.toXOk.hK) (we_op op_mod opw_mod (we_v x.toXOk 5 (by decide +kernel)) we_int) (we_ix x.toXOk (we_v x.toXOk 0 (by decide +kernel)) we_int rfl))) (we_v x.toXOk 4 (by decide +kernel))) we_int) (we_v x.toXOk 1 (by decide +kernel))))
 ws_nil))))))
/-! _law_of -/
abbrev t29 : Stmt := top 40
def N29 : List Str := ["_law_hand_here", "_law_some"]
def d_L_of (Φ : Fns) : EW :=
 sSeq (sRet (dOp fIx (dVar 1) (dCall (Φ i_L_take) (aCons (dVar 0) (aCons (dBi bLen (aCons (dVar 1) (aNil))) (aNil))))))
 (sNil)
set_option maxRecDepth 100000 in
theorem w29 (x : StOk (AA P W K a c) N29 (defScope t29) X) (C : COk (AA P W K a c) Φ n X) (FO : FldOk (AA P W K a c)) (IA : IsaOk (AA P W K a c) isaT) : WSs (AA P W K a c) X (defBody t29) (d_L_of Φ) :=
 (ws_cons (ws_ret (we_ix x.toXOk (we_v x.toXOk 1 (by decide +kernel)) (we_f x.toXOk C i_L_take g__law_take (by decide +kernel) (wa_c (we_v x.toXOk 0 (by decide +kernel)) (wa_c (b_len x.toXOk g_len (by decide +kernel) (wa_c (we_v x.toXOk 1 (by decide +kernel)) wa_nil rfl) rfl) wa_nil rfl) rfl) rfl) rfl))
 ws_nil)
/-! _law_rounds -/
abbrev t30 : Stmt := top 41
def N30 : List Str := ["_law_first", "_law_step", "_law_wide", "_law_goal", "_law_found", "_law_k"]
def d_L_rounds (Φ : Fns) : EW :=
 sSeq (sSet 4 (dComp false (iRg1 (aCons (dVar 2) (aNil))) (.nm 5) (dTst (dOp (fEq false) (dOp (fMod) (dOp (fAdd false) (dVar 0) (dOp (fMul false) (dVar 5) (dVar 1))) (dVar 2)) (dVar 3))) (dVar 5) [5]))
 (sSeq (sRet (dIf (dTst (dOp (fEq true) (dVar 4) (dLst false (aNil)))) (dOp fIx (dVar 4) (dC (.int 0))) (dNeg (dC (.int 1)))))
 (sNil))
set_option maxRecDepth 100000 in
theorem w30 (x : StOk (AA P W K a c) N30 (defScope t30) X) (C : COk (AA P W K a c) Φ n X) (FO : FldOk (AA P W K a c)) (IA : IsaOk (AA P W K a c) isaT) : WSs (AA P W K a c) X (defBody t30) (d_L_rounds Φ) :=
 (ws_cons (ws_setc x.toXOk (by decide +kernel) (by decide +kernel) ((swapsW_env (env' := envS X (defScope t30)) x.toXOk.hsc).trans (by kernel_rfl)) (i_rg1 x.toXOk g_range (by decide +kernel) (wa_c (we_v x.toXOk 2 (by decide +kernel)) wa_nil rfl) rfl) (blkOk_by (own := [("_law_k", 5)]) (by decide +kernel)) (by decide +kernel) (fun _ _ _ _ _ => (g_cm (XOk.blk x.toXOk) 5 (by decide +kernel))) (fun _ _ _ _ _ => (wpt_one (wt_cmp (op_eqW (XOk.blk x.toXOk).u64) (opw_eq (XOk.blk x.toXOk).hK) rfl (we_op op_mod opw_mod (we_op op_addW (opw_add (XOk.blk x.toXOk).hK) (we_v (XOk.blk x.toXOk) 0 (by decide +kernel)) (we_op op_mulWW opw_mul (we_v (XOk.blk x.toXOk) 5 (by decide +kernel)) (we_v (XOk.blk x.toXOk) 1 (by decide +kernel)))) (we_v (XOk.blk x.toXOk) 2 (by decide +kernel))) (we_v (XOk.blk x.toXOk) 3 (by decide +kernel))))) (fun _ _ _ _ _ => (we_v (XOk.blk x.toXOk) 5 (by decide +kernel))) (fun _ => rfl))
 (ws_cons (ws_ret (we_if (wt_cmp (op_neW x.toXOk.u64) (opw_ne x.toXOk.hK) rfl (we_v x.toXOk 4 (by decide +kernel)) (we_lst wa_nil)) (we_ix x.toXOk (we_v x.toXOk 4 (by decide +kernel)) we_int rfl) (we_neg we_int)))
 ws_nil))
/-! _law_house -/
abbrev t31 : Stmt := top 42
def N31 : List Str := ["_law_hand_here", "_law_wide", "_law_other", "_law_step", "_law_asks", "_law_last", "_law_goal", "_law_first", "_law_rows", "_law_here", "_law_body"]
def d_L_house (Φ : Fns) : EW :=
 sSeq (sPar 6 7 (aCons (dCall (Φ i_L_take) (aCons (dVar 0) (aCons (dVar 1) (aNil)))) (aCons (dCall (Φ i_L_take) (aCons (dVar 0) (aCons (dVar 1) (aNil)))) (aNil))))
 (sSeq (sSet 8 (dIf (dTru (dVar 4)) (dTup (aCons (dTup (aCons (dC (.str ("ask" : Str))) (aCons (dC (.str ("p" : Str))) (aCons (dC (.str ("a" : Str))) (aCons (dC (.str ("s" : Str))) (aNil)))))) (aNil))) (dTup (aCons (dTup (aCons (dC (.str ("put" : Str))) (aCons (dC (.str ("s" : Str))) (aCons (dVar 3) (aNil))))) (aNil)))))
 (sSeq (sSet 9 (dBi bLen (aCons (dVar 8) (aNil))))
 (sSeq (sSet 8 (dOp (fAdd false) (dVar 8) (dTup (aCons (dTup (aCons (dC (.str ("put" : Str))) (aCons (dC (.str ("t" : Str))) (aCons (dTup (aCons (dC (.str ("=" : Str))) (aCons (dC (.str ("x" : Str))) (aCons (dVar 6) (aNil))))) (aNil))))) (aCons (dTup (aCons (dC (.str ("when" : Str))) (aCons (dC (.str ("t" : Str))) (aCons (dOp (fAdd false) (dVar 9) (dC (.int 5))) (aNil))))) (aCons (dTup (aCons (dC (.str ("put" : Str))) (aCons (dC (.str ("x" : Str))) (aCons (dTup (aCons (dC (.str ("+" : Str))) (aCons (dC (.str ("x" : Str))) (aCons (dC (.str ("s" : Str))) (aNil))))) (aNil))))) (aNil)))))))
 (sSeq (sSet 8 (dOp (fAdd false) (dVar 8) (dTup (aCons (dTup (aCons (dC (.str ("put" : Str))) (aCons (dC (.str ("y" : Str))) (aCons (dTup (aCons (dC (.str ("+" : Str))) (aCons (dC (.str ("y" : Str))) (aCons (dC (.int 1)) (aNil))))) (aNil))))) (aCons (dTup (aCons (dC (.str ("go" : Str))) (aCons (dVar 9) (aNil)))) (aCons (dTup (aCons (dC (.str ("put" : Str))) (aCons (dC (.str ("t" : Str))) (aCons (dTup (aCons (dC (.str ("+" : Str))) (aCons (dC (.str ("y" : Str))) (aCons (dC (.str ("x" : Str))) (aNil))))) (aNil))))) (aCons (dVar 5) (aNil))))))))
 (sSeq (sIf (dTst (dOp (fIs false) (dVar 5) (dC .non))) (sSeq (sSet 8 (dSl false (dVar 8) (oNo) (oSome (dNeg (dC (.int 1))))))
 (sNil)) (sNil))
 (sSeq (sSet 10 (dTup (aCons (dC (.str ("a" : Str))) (aCons (dTup (aCons (dTup (aCons (dC (.str ("s" : Str))) (aCons (dC (.int 1000)) (aNil)))) (aCons (dTup (aCons (dC (.str ("t" : Str))) (aCons (dC (.int 1000)) (aNil)))) (aNil)))) (aCons (dVar 8) (aNil))))))
 (sSeq (sRet (dTup (aCons (dMk iniT valT Φ c_House (aCons (dMk iniT valT Φ c_Face (aCons (dC (.int 4)) (aCons (dTup (aCons (dC (.str ("d" : Str))) (aNil))) (aCons (dTup (aCons (dC (.str ("p" : Str))) (aNil))) (aNil))))) (aCons (dTup (aCons (dTup (aCons (dC (.str ("x" : Str))) (aCons (dVar 1) (aCons (dVar 7) (aNil))))) (aCons (dTup (aCons (dC (.str ("y" : Str))) (aCons (dVar 2) (aCons (dC (.int 0)) (aNil))))) (aNil)))) (aCons (dTup (aCons (dVar 10) (aNil))) (aNil))))) (aCons (dVar 7) (aCons (dVar 6) (aNil))))))
 (sNil))))))))
set_option maxRecDepth 100000 in
theorem w31 (x : StOk (AA P W K a c) N31 (defScope t31) X) (C : COk (AA P W K a c) Φ n X) (FO : FldOk (AA P W K a c)) (IA : IsaOk (AA P W K a c) isaT) : WSs (AA P W K a c) X (defBody t31) (d_L_house Φ) :=
 (ws_cons (s_par2 x 6 7 (by decide +kernel) (wa_c (we_f x.toXOk C i_L_take g__law_take (by decide +kernel) (wa_c (we_v x.toXOk 0 (by decide +kernel)) (wa_c (we_v x.toXOk 1 (by decide +kernel)) wa_nil rfl) rfl) rfl) (wa_c (we_f x.toXOk C i_L_take g__law_take (by decide +kernel) (wa_c (we_v x.toXOk 0 (by decide +kernel)) (wa_c (we_v x.toXOk 1 (by decide +kernel)) wa_nil rfl) rfl) rfl) wa_nil rfl) rfl) (by kernel_rfl) rfl)
 (ws_cons (s_set x 8 (by decide +kernel) (we_if (wt_gen x.toXOk.hK (we_v x.toXOk 4 (by decide +kernel)) (fun _ => rfl)) (we_tup (wa_c (we_tup (wa_c we_str (wa_c we_str (wa_c we_str (wa_c we_str wa_nil rfl) rfl) rfl) rfl)) wa_nil rfl)) (we_tup (wa_c (we_tup (wa_c we_str (wa_c we_str (wa_c (we_v x.toXOk 3 (by decide +kernel)) wa_nil rfl) rfl) rfl)) wa_nil rfl))) rfl)
 (ws_cons (s_set x 9 (by decide +kernel) (b_len x.toXOk g_len (by decide +kernel) (wa_c (we_v x.toXOk 8 (by decide +kernel)) wa_nil rfl) rfl) rfl)
 (ws_cons (s_set x 8 (by decide +kernel) (we_op op_addW (opw_add x.toXOk.hK) (we_v x.toXOk 8 (by decide +kernel)) (we_tup (wa_c (we_tup (wa_c we_str (wa_c we_str (wa_c (we_tup (wa_c we_str (wa_c we_str (wa_c (we_v x.toXOk 6 (by decide +kernel)) wa_nil rfl) rfl) rfl)) wa_nil rfl) rfl) rfl)) (wa_c (we_tup (wa_c we_str (wa_c we_str (wa_c (we_op op_addW (opw_add x.toXOk.hK) (we_v x.toXOk 9 (by decide +kernel)) we_int) wa_nil rfl) rfl) rfl)) (wa_c (we_tup (wa_c we_str (wa_c we_str (wa_c (we_tup (wa_c we_str (wa_c we_str (wa_c we_str wa_nil rfl) rfl) rfl)) wa_nil rfl) rfl) rfl)) wa_nil rfl) rfl) rfl))) rfl)
 (ws_cons (s_set x 8 (by decide +kernel) (we_op op_addW (opw_add x.toXOk.hK) (we_v x.toXOk 8 (by decide +kernel)) (we_tup (wa_c (we_tup (wa_c we_str (wa_c we_str (wa_c (we_tup (wa_c we_str (wa_c we_str (wa_c we_int wa_nil rfl) rfl) rfl)) wa_nil rfl) rfl) rfl)) (wa_c (we_tup (wa_c we_str (wa_c (we_v x.toXOk 9 (by decide +kernel)) wa_nil rfl) rfl)) (wa_c (we_tup (wa_c we_str (wa_c we_str (wa_c (we_tup (wa_c we_str (wa_c we_str (wa_c we_str wa_nil rfl) rfl) rfl)) wa_nil rfl) rfl) rfl)) (wa_c (we_v x.toXOk 5 (by decide +kernel)) wa_nil rfl) rfl) rfl) rfl))) rfl)
 (ws_cons (ws_if (wt_cmp op_isW opw_is rfl (we_v x.toXOk 5 (by decide +kernel)) we_non) (ws_cons (s_set x 8 (by decide +kernel) (we_sl x.toXOk.hK (we_v x.toXOk 8 (by decide +kernel)) wo_none (wo_some (we_neg we_int))) rfl)
 ws_nil) ws_nil)
 (ws_cons (s_set x 10 (by decide +kernel) (we_tup (wa_c we_str (wa_c (we_tup (wa_c (we_tup (wa_c we_str (wa_c we_int wa_nil rfl) rfl)) (wa_c (we_tup (wa_c we_str (wa_c we_int wa_nil rfl) rfl)) wa_nil rfl) rfl)) (wa_c (we_v x.toXOk 8 (by decide +kernel)) wa_nil rfl) rfl) rfl)) rfl)
 (ws_cons (ws_ret (we_tup (wa_c (we_mkT x.toXOk C (c := c_House) rfl g_House (by decide +kernel) (wa_c (we_mkT x.toXOk C (c := c_Face) rfl g_Face (by decide +kernel) (wa_c we_int (wa_c (we_tup (wa_c we_str wa_nil rfl)) (wa_c (we_tup (wa_c we_str wa_nil rfl)) wa_nil rfl) rfl) rfl) rfl) (wa_c (we_tup (wa_c (we_tup (wa_c we_str (wa_c (we_v x.toXOk 1 (by decide +kernel)) (wa_c (we_v x.toXOk 7 (by decide +kernel)) wa_nil rfl) rfl) rfl)) (wa_c (we_tup (wa_c we_str (wa_c (we_v x.toXOk 2 (by decide +kernel)) (wa_c we_int wa_nil rfl) rfl) rfl)) wa_nil rfl) rfl)) (wa_c (we_tup (wa_c (we_v x.toXOk 10 (by decide +kernel)) wa_nil rfl)) wa_nil rfl) rfl) rfl) rfl) (wa_c (we_v x.toXOk 7 (by decide +kernel)) (wa_c (we_v x.toXOk 6 (by decide +kernel)) wa_nil rfl) rfl) rfl)))
 ws_nil))))))))
/-! _law_due -/
abbrev t32 : Stmt := top 43
def N32 : List Str := ["_law_first", "_law_goal", "_law_wide", "_law_other", "_law_step", "_law_last", "_law_many", "_law_stand"]
def d_L_due (Φ : Fns) : EW :=
 sSeq (sSet 6 (dCall (Φ i_L_rounds) (aCons (dVar 0) (aCons (dVar 4) (aCons (dVar 2) (aCons (dVar 1) (aNil)))))))
 (sSeq (sIf (dOrT (dTst (dOp (fEq false) (dVar 6) (dNeg (dC (.int 1))))) (dOrT (dTst (dOp (fIs false) (dVar 5) (dC .non))) (dTst (dOp (fEq false) (dOp fIx (dVar 5) (dC (.int 0))) (dC (.str ("halt" : Str))))))) (sSeq (sRet (dTup (aCons (dC (.str ("dead" : Str))) (aNil))))
 (sNil)) (sNil))
 (sSeq (sSet 7 (dTup (aCons (dVar 1) (aCons (dOp (fMod) (dVar 6) (dVar 3)) (aNil)))))
 (sSeq (sRet (dTup (aCons (dC (.str ("tell" : Str))) (aCons (dOp (fMod) (dOp (fMod) (dOp (fAdd false) (dVar 1) (dOp (fMod) (dVar 6) (dVar 3))) (dC (.int 1000))) (dC (.int 4))) (aCons (dVar 7) (aNil))))))
 (sNil))))
set_option maxRecDepth 100000 in
theorem w32 (x : StOk (AA P W K a c) N32 (defScope t32) X) (C : COk (AA P W K a c) Φ n X) (FO : FldOk (AA P W K a c)) (IA : IsaOk (AA P W K a c) isaT) : WSs (AA P W K a c) X (defBody t32) (d_L_due Φ) :=
 (ws_cons (s_set x 6 (by decide +kernel) (we_f x.toXOk C i_L_rounds g__law_rounds (by decide +kernel) (wa_c (we_v x.toXOk 0 (by decide +kernel)) (wa_c (we_v x.toXOk 4 (by decide +kernel)) (wa_c (we_v x.toXOk 2 (by decide +kernel)) (wa_c (we_v x.toXOk 1 (by decide +kernel)) wa_nil rfl) rfl) rfl) rfl) rfl) rfl)
 (ws_cons (ws_if (wt_of (ww_or (wt_cmp (op_eqW x.toXOk.u64) (opw_eq x.toXOk.hK) rfl (we_v x.toXOk 6 (by decide +kernel)) (we_neg we_int)) (ww_or (wt_cmp op_isW opw_is rfl (we_v x.toXOk 5 (by decide +kernel)) we_non) (ww_or1 (wt_cmp (op_eqW x.toXOk.u64) (opw_eq x.toXOk.hK) rfl (we_ix x.toXOk (we_v x.toXOk 5 (by decide +kernel)) we_int rfl) we_str))))) (ws_cons (ws_ret (we_tup (wa_c we_str wa_nil rfl)))
 ws_nil) ws_nil)
 (ws_cons (s_set x 7 (by decide +kernel) (we_tup (wa_c (we_v x.toXOk 1 (by decide +kernel)) (wa_c (we_op op_mod opw_mod (we_v x.toXOk 6 (by decide +kernel)) (we_v x.toXOk 3 (by decide +kernel))) wa_nil rfl) rfl)) rfl)
 (ws_cons (ws_ret (we_tup (wa_c we_str (wa_c (we_op op_mod opw_mod (we_op op_mod opw_mod (we_op op_addW (opw_add x.toXOk.hK) (we_v x.toXOk 1 (by decide +kernel)) (we_op op_mod opw_mod (we_v x.toXOk 6 (by decide +kernel)) (we_v x.toXOk 3 (by decide +kernel)))) we_int) we_int) (wa_c (we_v x.toXOk 7 (by decide +kernel)) wa_nil rfl) rfl) rfl)))
 ws_nil))))
/-! law -/
abbrev t33 : Stmt := top 44
def N33 : List Str := ["_law_script", "_law_k", "_law_hand_here", "_law_turn", "_law_last", "_law_asks", "_law_wide", "_law_other", "_law_step", "_law_house_here", "_law_first", "_law_goal", "_law_told", "_law_frame", "_law_worth", "_law_due_here"]
def d_L_law (Φ : Fns) : EW :=
 sSeq (sFor (iRg1 (aCons (dOp (fAdd false) (dC (.int 1)) (dBi bMin2 (aCons (dC (.int 3)) (aCons (dBi bLen (aCons (dVar 0) (aNil))) (aNil))))) (aNil))) (.nm 1) (sSeq (sSet 2 (dCall (Φ i_L_hand) (aCons (dVar 0) (aCons (dVar 1) (aNil)))))
 (sSeq (sFor (iRg1 (aCons (dC (.int 4)) (aNil))) (.nm 3) (sSeq (sPar 4 5 (aCons (dCall (Φ i_L_of) (aCons (dVar 2) (aCons (dLst false (aCons (dTup (aCons (dC (.str ("tell" : Str))) (aCons (dC (.str ("t" : Str))) (aNil)))) (aCons (dTup (aCons (dC (.str ("tell" : Str))) (aCons (dC (.str ("t" : Str))) (aNil)))) (aCons (dTup (aCons (dC (.str ("tell" : Str))) (aCons (dC (.str ("t" : Str))) (aNil)))) (aCons (dTup (aCons (dC (.str ("halt" : Str))) (aNil))) (aCons (dC .non) (aNil))))))) (aNil)))) (aCons (dOp (fEq false) (dOp (fMod) (dVar 3) (dC (.int 2))) (dC (.int 1))) (aNil))))
 (sSeq (sTgL [.nm 6, .nm 7] (dCall (Φ i_L_of) (aCons (dVar 2) (aCons (dLst false (aCons (dLst false (aCons (dC (.int 1000)) (aCons (dC (.int 1)) (aNil)))) (aCons (dLst false (aCons (dC (.int 999)) (aCons (dC (.int 1)) (aNil)))) (aCons (dLst false (aCons (dC (.int 40)) (aCons (dC (.int 39)) (aNil)))) (aCons (dLst false (aCons (dC (.int 36)) (aCons (dC (.int 27)) (aNil)))) (aCons (dLst false (aCons (dC (.int 24)) (aCons (dC (.int 1)) (aNil)))) (aCons (dLst false (aCons (dC (.int 1)) (aCons (dC (.int 30)) (aNil)))) (aCons (dLst false (aCons (dC (.int 960)) (aCons (dC (.int 2)) (aNil)))) (aNil))))))))) (aNil)))))
 (sSeq (sSet 8 (dCall (Φ i_L_of) (aCons (dVar 2) (aCons (dLst false (aCons (dC (.int 0)) (aCons (dC (.int 1)) (aCons (dC (.int 2)) (aCons (dC (.int 3)) (aCons (dC (.int 5)) (aCons (dC (.int 6)) (aCons (dC (.int 12)) (aCons (dC (.int 35)) (aCons (dC (.int 997)) (aNil))))))))))) (aNil)))))
 (sSeq (sTg (tgW (.tup [.nm 9, .nm 10, .nm 11])) (dCall (Φ i_L_house) (aCons (dVar 2) (aCons (dVar 6) (aCons (dVar 7) (aCons (dVar 8) (aCons (dVar 5) (aCons (dVar 4) (aNil)))))))))
 (sSeq (sSet 12 (dMt mtT Φ mt_knock (dVar 9) (aCons (dMt mtT Φ mt_first (dVar 9) aNil) (aCons (dC (.str ("d" : Str))) (aCons (dC (.int 2)) (aNil))))))
 (sSeq (sIf (dNotT (dTru (dVar 5))) (sSeq (sIf (dTst (dOp (fEq true) (dBi bRepr (aCons (dVar 12) (aNil))) (dBi bRepr (aCons (dCall (Φ i_L_due) (aCons (dVar 10) (aCons (dVar 11) (aCons (dVar 6) (aCons (dVar 7) (aCons (dVar 8) (aCons (dVar 4) (aNil)))))))) (aNil))))) (sSeq (sRet (dC (.bl false)))
 (sNil)) (sNil))
 (sSeq (sCont)
 (sNil))) (sNil))
 (sSeq (sSet 13 (dTup (aCons (dC (.str ("d" : Str))) (aCons (dC (.int 0)) (aCons (dTup (aCons (dC (.int 2)) (aCons (dC (.int 0)) (aCons (dC (.int 0)) (aNil))))) (aNil))))))
 (sSeq (sIf (dTst (dOp (fEq true) (dBi bRepr (aCons (dVar 12) (aNil))) (dBi bRepr (aCons (dTup (aCons (dC (.str ("ask" : Str))) (aCons (dC (.str ("p" : Str))) (aCons (dC (.int 2)) (aCons (dTup (aCons (dVar 10) (aCons (dC (.int 0)) (aNil)))) (aCons (dVar 13) (aNil))))))) (aNil))))) (sSeq (sRet (dC (.bl false)))
 (sNil)) (sNil))
 (sSeq (sFor (iRg1 (aCons (dC (.int 4)) (aNil))) (.nm 14) (sSeq (sSet 15 (dCall (Φ i_L_due) (aCons (dVar 10) (aCons (dVar 11) (aCons (dVar 6) (aCons (dVar 7) (aCons (dVar 14) (aCons (dVar 4) (aNil)))))))))
 (sSeq (sIf (dTst (dOp (fEq true) (dBi bRepr (aCons (dMt mtT Φ mt_answer (dVar 9) (aCons (dTup (aCons (dVar 10) (aCons (dC (.int 0)) (aNil)))) (aCons (dVar 13) (aCons (dVar 14) (aNil))))) (aNil))) (dBi bRepr (aCons (dVar 15) (aNil))))) (sSeq (sRet (dC (.bl false)))
 (sNil)) (sNil))
 (sNil))))
 (sNil)))))))))))
 (sNil))))
 (sSeq (sRet (dC (.bl true)))
 (sNil))
set_option maxRecDepth 100000 in
theorem w33 (x : StOk (AA P W K a c) N33 (defScope t33) X) (C : COk (AA P W K a c) Φ n X) (FO : FldOk (AA P W K a c)) (IA : IsaOk (AA P W K a c) isaT) : WSs (AA P W K a c) X (defBody t33) (d_L_law Φ) :=
 (ws_cons (ws_for x.toXOk.calm (i_rg1 x.toXOk g_range (by decide +kernel) (wa_c (we_op op_addW (opw_add x.toXOk.hK) we_int (b_min x.toXOk g_min (by decide +kernel) (wa_c we_int (wa_c (b_len x.toXOk g_len (by decide +kernel) (wa_c (we_v x.toXOk 0 (by decide +kernel)) wa_nil rfl) rfl) wa_nil rfl) rfl) rfl)) wa_nil rfl) rfl) (g_nm x 1 (by decide +kernel)) (ws_cons (s_set x 2 (by decide +kernel) (we_f x.toXOk C i_L_hand g__law_hand (by decide +kernel) (wa_c (we_v x.toXOk 0 (by decide +kernel)) (wa_c (we_v x.toXOk 1 (by decide +kernel)) wa_nil rfl) rfl) rfl) rfl)
 (ws_cons (ws_for x.toXOk.calm (i_rg1 x.toXOk g_range (by decide +kernel) (wa_c we_int wa_nil rfl) rfl) (g_nm x 3 (by decide +kernel)) (ws_cons (s_par2 x 4 5 (by decide +kernel) (wa_c (we_f x.toXOk C i_L_of g__law_of (by decide +kernel) (wa_c (we_v x.toXOk 2 (by decide +kernel)) (wa_c (we_lst (wa_c (we_tup (wa_c we_str (wa_c we_str wa_nil rfl) rfl)) (wa_c (we_tup (wa_c we_str (wa_c we_str wa_nil rfl) rfl)) (wa_c (we_tup (wa_c we_str (wa_c we_str wa_nil rfl) rfl)) (wa_c (we_tup (wa_c we_str wa_nil rfl)) (wa_c we_non wa_nil rfl) rfl) rfl) rfl) rfl)) wa_nil rfl) rfl) rfl) (wa_c (we_cmp (op_eqW x.toXOk.u64) (opw_eq x.toXOk.hK) rfl (we_op op_mod opw_mod (we_v x.toXOk 3 (by decide +kernel)) we_int) we_int) wa_nil rfl) rfl) (by kernel_rfl) rfl)
 (ws_cons (s_tgL x (gs_c (g_nm x 6 (by decide +kernel)) (gs_c (g_nm x 7 (by decide +kernel)) wgs_nil rfl) rfl) rfl rfl (we_f x.toXOk C i_L_of g__law_of (by decide +kernel) (wa_c (we_v x.toXOk 2 (by decide +kernel)) (wa_c (we_lst (wa_c (we_lst (wa_c we_int (wa_c we_int wa_nil rfl) rfl)) (wa_c (we_lst (wa_c we_int (wa_c we_int wa_nil rfl) rfl)) (wa_c (we_lst (wa_c we_int (wa_c we_int wa_nil rfl) rfl)) (wa_c (we_lst (wa_c we_int (wa_c we_int wa_nil rfl) rfl)) (wa_c (we_lst (wa_c we_int (wa_c we_int wa_nil rfl) rfl)) (wa_c (we_lst (wa_c we_int (wa_c we_int wa_nil rfl) rfl)) (wa_c (we_lst (wa_c we_int (wa_c we_int wa_nil rfl) rfl)) wa_nil rfl) rfl) rfl) rfl) rfl) rfl) rfl)) wa_nil rfl) rfl) rfl) rfl rfl rfl)
 (ws_cons (s_set x 8 (by decide +kernel) (we_f x.toXOk C i_L_of g__law_of (by decide +kernel) (wa_c (we_v x.toXOk 2 (by decide +kernel)) (wa_c (we_lst (wa_c we_int (wa_c we_int (wa_c we_int (wa_c we_int (wa_c we_int (wa_c we_int (wa_c we_int (wa_c we_int (wa_c we_int wa_nil rfl) rfl) rfl) rfl) rfl) rfl) rfl) rfl) rfl)) wa_nil rfl) rfl) rfl) rfl)
 (ws_cons (ws_asg (wg_tup x.toXOk (gs_c (g_nm x 9 (by decide +kernel)) (gs_c (g_nm x 10 (by decide +kernel)) (gs_c (g_nm x 11 (by decide +kernel)) wgs_nil rfl) rfl) rfl) rfl rfl) (we_f x.toXOk C i_L_house g__law_house (by decide +kernel) (wa_c (we_v x.toXOk 2 (by decide +kernel)) (wa_c (we_v x.toXOk 6 (by decide +kernel)) (wa_c (we_v x.toXOk 7 (by decide +kernel)) (wa_c (we_v x.toXOk 8 (by decide +kernel)) (wa_c (we_v x.toXOk 5 (by decide +kernel)) (wa_c (we_v x.toXOk 4 (by decide +kernel)) wa_nil rfl) rfl) rfl) rfl) rfl) rfl) rfl) rfl rfl rfl)
 (ws_cons (s_set x 12 (by decide +kernel) (we_mtT x.toXOk C (m := mt_knock) rfl (we_v x.toXOk 9 (by decide +kernel)) (wa_c (we_mtT0 x.toXOk C (m := mt_first) rfl (we_v x.toXOk 9 (by decide +kernel)) rfl) (wa_c we_str (wa_c we_int wa_nil rfl) rfl) rfl) rfl rfl) rfl)
 (ws_cons (ws_if (wt_not (wt_gen x.toXOk.hK (we_v x.toXOk 5 (by decide +kernel)) (fun _ => rfl))) (ws_cons (ws_if (wt_cmp (op_neW x.toXOk.u64) (opw_ne x.toXOk.hK) rfl (b_repr x.toXOk g_repr (by decide +kernel) (wa_c (we_v x.toXOk 12 (by decide +kernel)) wa_nil rfl) rfl) (b_repr x.toXOk g_repr (by decide +kernel) (wa_c (we_f x.toXOk C i_L_due g__law_due (by decide +kernel) (wa_c (we_v x.toXOk 10 (by decide +kernel)) (wa_c (we_v x.toXOk 11 (by decide +kernel)) (wa_c (we_v x.toXOk 6 (by decide +kernel)) (wa_c (we_v x.toXOk 7 (by decide +kernel)) (wa_c (we_v x.toXOk 8 (by decide +kernel)) (wa_c (we_v x.toXOk 4 (by decide +kernel)) wa_nil rfl) rfl) rfl) rfl) rfl) rfl) rfl) wa_nil rfl) rfl)) (ws_cons (ws_ret we_bl)
 ws_nil) ws_nil)
 (ws_cons ws_cont
 ws_nil)) ws_nil)
 (ws_cons (s_set x 13 (by decide +kernel) (we_tup (wa_c we_str (wa_c we_int (wa_c (we_tup (wa_c we_int (wa_c we_int (wa_c we_int wa_nil rfl) rfl) rfl)) wa_nil rfl) rfl) rfl)) rfl)
 (ws_cons (ws_if (wt_cmp (op_neW x.toXOk.u64) (opw_ne x.toXOk.hK) rfl (b_repr x.toXOk g_repr (by decide +kernel) (wa_c (we_v x.toXOk 12 (by decide +kernel)) wa_nil rfl) rfl) (b_repr x.toXOk g_repr (by decide +kernel) (wa_c (we_tup (wa_c we_str (wa_c we_str (wa_c we_int (wa_c (we_tup (wa_c (we_v x.toXOk 10 (by decide +kernel)) (wa_c we_int wa_nil rfl) rfl)) (wa_c (we_v x.toXOk 13 (by decide +kernel)) wa_nil rfl) rfl) rfl) rfl) rfl)) wa_nil rfl) rfl)) (ws_cons (ws_ret we_bl)
 ws_nil) ws_nil)
 (ws_cons (ws_for x.toXOk.calm (i_rg1 x.toXOk g_range (by decide +kernel) (wa_c we_int wa_nil rfl) rfl) (g_nm x 14 (by decide +kernel)) (ws_cons (s_set x 15 (by decide +kernel) (we_f x.toXOk C i_L_due g__law_due (by decide +kernel) (wa_c (we_v x.toXOk 10 (by decide +kernel)) (wa_c (we_v x.toXOk 11 (by decide +kernel)) (wa_c (we_v x.toXOk 6 (by decide +kernel)) (wa_c (we_v x.toXOk 7 (by decide +kernel)) (wa_c (we_v x.toXOk 14 (by decide +kernel)) (wa_c (we_v x.toXOk 4 (by decide +kernel)) wa_nil rfl) rfl) rfl) rfl) rfl) rfl) rfl) rfl)
 (ws_cons (ws_if (wt_cmp (op_neW x.toXOk.u64) (opw_ne x.toXOk.hK) rfl (b_repr x.toXOk g_repr (by decide +kernel) (wa_c (we_mtT x.toXOk C (m := mt_answer) rfl (we_v x.toXOk 9 (by decide +kernel)) (wa_c (we_tup (wa_c (we_v x.toXOk 10 (by decide +kernel)) (wa_c we_int wa_nil rfl) rfl)) (wa_c (we_v x.toXOk 13 (by decide +kernel)) (wa_c (we_v x.toXOk 14 (by decide +kernel)) wa_nil rfl) rfl) rfl) rfl rfl) wa_nil rfl) rfl) (b_repr x.toXOk g_repr (by decide +kernel) (wa_c (we_v x.toXOk 15 (by decide +kernel)) wa_nil rfl) rfl)) (ws_cons (ws_ret we_bl)
 ws_nil) ws_nil)
 ws_nil)) (fun _ => rfl))
 ws_nil))))))))) (fun _ => rfl))
 ws_nil)) (fun _ => rfl))
 (ws_cons (ws_ret we_bl)
 ws_nil))
end
def DD (Φ : Fns) : Nat → EW
  | 0 => d_faces_is_whole Φ
  | 1 => d_faces_is_name Φ
  | 2 => d_faces_are_unlike Φ
  | 3 => d_faces_are_names Φ
  | 4 => d_faces_Face_init Φ
  | 5 => d_houses_is_thing Φ
  | 6 => d_houses_is_sum Φ
  | 7 => d_houses_is_named Φ
  | 8 => d_houses_fits_row Φ
  | 9 => d_houses_is_row Φ
  | 10 => d_houses_is_cell Φ
  | 11 => d_houses_are_cells Φ
  | 12 => d_houses_is_local Φ
  | 13 => d_houses_is_body Φ
  | 14 => d_houses_are_bodies Φ
  | 15 => d_houses_reckoned Φ
  | 16 => d_houses_Body_init Φ
  | 17 => d_houses_Body_worth_of Φ
  | 18 => d_houses_Body_put_in Φ
  | 19 => d_houses_Body_put Φ
  | 20 => d_houses_Body_onward Φ
  | 21 => d_houses_Body_gone_along Φ
  | 22 => d_houses_House_init Φ
  | 23 => d_houses_House_first Φ
  | 24 => d_houses_House_said Φ
  | 25 => d_houses_House_knock Φ
  | 26 => d_houses_House_answer Φ
  | 27 => d_L_hand Φ
  | 28 => d_L_take Φ
  | 29 => d_L_of Φ
  | 30 => d_L_rounds Φ
  | 31 => d_L_house Φ
  | 32 => d_L_due Φ
  | 33 => d_L_law Φ
  | _ => sNo
def slT (i : Nat) : Nat := ([3, 2, 1, 4, 4, 2, 2, 2, 6, 4, 4, 5, 1, 12, 4, 3, 12, 3, 5, 8, 5, 5, 6, 4, 11, 5, 9, 4, 6, 2, 6, 11, 8, 16] : List Nat).getD i 0
def npT (i : Nat) : Nat := ([3, 1, 1, 3, 4, 2, 2, 2, 4, 4, 1, 1, 1, 3, 3, 3, 4, 3, 4, 4, 3, 3, 4, 1, 4, 4, 4, 2, 2, 2, 4, 6, 6, 1] : List Nat).getD i 0
/-- the program: how deep, which def -/
abbrev prg (k : Nat) : Fns := sem DD slT npT k
theorem r_faces_is_whole {k : Nat} {args : List W} {h : WH} (e : args.length = 3) : prg (k + 1) i_faces_is_whole args h = fin h (d_faces_is_whole (prg k) (args.map some ++ List.replicate 0 none) h) := run_fin (np := npT i_faces_is_whole) (sl := slT i_faces_is_whole) e
theorem r_faces_is_name {k : Nat} {args : List W} {h : WH} (e : args.length = 1) : prg (k + 1) i_faces_is_name args h = fin h (d_faces_is_name (prg k) (args.map some ++ List.replicate 1 none) h) := run_fin (np := npT i_faces_is_name) (sl := slT i_faces_is_name) e
theorem r_faces_are_unlike {k : Nat} {args : List W} {h : WH} (e : args.length = 1) : prg (k + 1) i_faces_are_unlike args h = fin h (d_faces_are_unlike (prg k) (args.map some ++ List.replicate 0 none) h) := run_fin (np := npT i_faces_are_unlike) (sl := slT i_faces_are_unlike) e
theorem r_faces_are_names {k : Nat} {args : List W} {h : WH} (e : args.length = 3) : prg (k + 1) i_faces_are_names args h = fin h (d_faces_are_names (prg k) (args.map some ++ List.replicate 1 none) h) := run_fin (np := npT i_faces_are_names) (sl := slT i_faces_are_names) e
theorem r_faces_Face_init {k : Nat} {args : List W} {h : WH} (e : args.length = 4) : prg (k + 1) i_faces_Face_init args h = fin h (d_faces_Face_init (prg k) (args.map some ++ List.replicate 0 none) h) := run_fin (np := npT i_faces_Face_init) (sl := slT i_faces_Face_init) e
theorem r_houses_is_thing {k : Nat} {args : List W} {h : WH} (e : args.length = 2) : prg (k + 1) i_houses_is_thing args h = fin h (d_houses_is_thing (prg k) (args.map some ++ List.replicate 0 none) h) := run_fin (np := npT i_houses_is_thing) (sl := slT i_houses_is_thing) e
theorem r_houses_is_sum {k : Nat} {args : List W} {h : WH} (e : args.length = 2) : prg (k + 1) i_houses_is_sum args h = fin h (d_houses_is_sum (prg k) (args.map some ++ List.replicate 0 none) h) := run_fin (np := npT i_houses_is_sum) (sl := slT i_houses_is_sum) e
theorem r_houses_is_named {k : Nat} {args : List W} {h : WH} (e : args.length = 2) : prg (k + 1) i_houses_is_named args h = fin h (d_houses_is_named (prg k) (args.map some ++ List.replicate 0 none) h) := run_fin (np := npT i_houses_is_named) (sl := slT i_houses_is_named) e
theorem r_houses_fits_row {k : Nat} {args : List W} {h : WH} (e : args.length = 4) : prg (k + 1) i_houses_fits_row args h = fin h (d_houses_fits_row (prg k) (args.map some ++ List.replicate 2 none) h) := run_fin (np := npT i_houses_fits_row) (sl := slT i_houses_fits_row) e
theorem r_houses_is_row {k : Nat} {args : List W} {h : WH} (e : args.length = 4) : prg (k + 1) i_houses_is_row args h = fin h (d_houses_is_row (prg k) (args.map some ++ List.replicate 0 none) h) := run_fin (np := npT i_houses_is_row) (sl := slT i_houses_is_row) e
theorem r_houses_is_cell {k : Nat} {args : List W} {h : WH} (e : args.length = 1) : prg (k + 1) i_houses_is_cell args h = fin h (d_houses_is_cell (prg k) (args.map some ++ List.replicate 3 none) h) := run_fin (np := npT i_houses_is_cell) (sl := slT i_houses_is_cell) e
theorem r_houses_are_cells {k : Nat} {args : List W} {h : WH} (e : args.length = 1) : prg (k + 1) i_houses_are_cells args h = fin h (d_houses_are_cells (prg k) (args.map some ++ List.replicate 4 none) h) := run_fin (np := npT i_houses_are_cells) (sl := slT i_houses_are_cells) e
theorem r_houses_is_local {k : Nat} {args : List W} {h : WH} (e : args.length = 1) : prg (k + 1) i_houses_is_local args h = fin h (d_houses_is_local (prg k) (args.map some ++ List.replicate 0 none) h) := run_fin (np := npT i_houses_is_local) (sl := slT i_houses_is_local) e
theorem r_houses_is_body {k : Nat} {args : List W} {h : WH} (e : args.length = 3) : prg (k + 1) i_houses_is_body args h = fin h (d_houses_is_body (prg k) (args.map some ++ List.replicate 9 none) h) := run_fin (np := npT i_houses_is_body) (sl := slT i_houses_is_body) e
theorem r_houses_are_bodies {k : Nat} {args : List W} {h : WH} (e : args.length = 3) : prg (k + 1) i_houses_are_bodies args h = fin h (d_houses_are_bodies (prg k) (args.map some ++ List.replicate 1 none) h) := run_fin (np := npT i_houses_are_bodies) (sl := slT i_houses_are_bodies) e
theorem r_houses_reckoned {k : Nat} {args : List W} {h : WH} (e : args.length = 3) : prg (k + 1) i_houses_reckoned args h = fin h (d_houses_reckoned (prg k) (args.map some ++ List.replicate 0 none) h) := run_fin (np := npT i_houses_reckoned) (sl := slT i_houses_reckoned) e
theorem r_houses_Body_init {k : Nat} {args : List W} {h : WH} (e : args.length = 4) : prg (k + 1) i_houses_Body_init args h = fin h (d_houses_Body_init (prg k) (args.map some ++ List.replicate 8 none) h) := run_fin (np := npT i_houses_Body_init) (sl := slT i_houses_Body_init) e
theorem r_houses_Body_worth_of {k : Nat} {args : List W} {h : WH} (e : args.length = 3) : prg (k + 1) i_houses_Body_worth_of args h = fin h (d_houses_Body_worth_of (prg k) (args.map some ++ List.replicate 0 none) h) := run_fin (np := npT i_houses_Body_worth_of) (sl := slT i_houses_Body_worth_of) e
theorem r_houses_Body_put_in {k : Nat} {args : List W} {h : WH} (e : args.length = 4) : prg (k + 1) i_houses_Body_put_in args h = fin h (d_houses_Body_put_in (prg k) (args.map some ++ List.replicate 1 none) h) := run_fin (np := npT i_houses_Body_put_in) (sl := slT i_houses_Body_put_in) e
theorem r_houses_Body_put {k : Nat} {args : List W} {h : WH} (e : args.length = 4) : prg (k + 1) i_houses_Body_put args h = fin h (d_houses_Body_put (prg k) (args.map some ++ List.replicate 4 none) h) := run_fin (np := npT i_houses_Body_put) (sl := slT i_houses_Body_put) e
theorem r_houses_Body_onward {k : Nat} {args : List W} {h : WH} (e : args.length = 3) : prg (k + 1) i_houses_Body_onward args h = fin h (d_houses_Body_onward (prg k) (args.map some ++ List.replicate 2 none) h) := run_fin (np := npT i_houses_Body_onward) (sl := slT i_houses_Body_onward) e
theorem r_houses_Body_gone_along {k : Nat} {args : List W} {h : WH} (e : args.length = 3) : prg (k + 1) i_houses_Body_gone_along args h = fin h (d_houses_Body_gone_along (prg k) (args.map some ++ List.replicate 2 none) h) := run_fin (np := npT i_houses_Body_gone_along) (sl := slT i_houses_Body_gone_along) e
theorem r_houses_House_init {k : Nat} {args : List W} {h : WH} (e : args.length = 4) : prg (k + 1) i_houses_House_init args h = fin h (d_houses_House_init (prg k) (args.map some ++ List.replicate 2 none) h) := run_fin (np := npT i_houses_House_init) (sl := slT i_houses_House_init) e
theorem r_houses_House_first {k : Nat} {args : List W} {h : WH} (e : args.length = 1) : prg (k + 1) i_houses_House_first args h = fin h (d_houses_House_first (prg k) (args.map some ++ List.replicate 3 none) h) := run_fin (np := npT i_houses_House_first) (sl := slT i_houses_House_first) e
theorem r_houses_House_said {k : Nat} {args : List W} {h : WH} (e : args.length = 4) : prg (k + 1) i_houses_House_said args h = fin h (d_houses_House_said (prg k) (args.map some ++ List.replicate 7 none) h) := run_fin (np := npT i_houses_House_said) (sl := slT i_houses_House_said) e
theorem r_houses_House_knock {k : Nat} {args : List W} {h : WH} (e : args.length = 4) : prg (k + 1) i_houses_House_knock args h = fin h (d_houses_House_knock (prg k) (args.map some ++ List.replicate 1 none) h) := run_fin (np := npT i_houses_House_knock) (sl := slT i_houses_House_knock) e
theorem r_houses_House_answer {k : Nat} {args : List W} {h : WH} (e : args.length = 4) : prg (k + 1) i_houses_House_answer args h = fin h (d_houses_House_answer (prg k) (args.map some ++ List.replicate 5 none) h) := run_fin (np := npT i_houses_House_answer) (sl := slT i_houses_House_answer) e
theorem r_L_hand {k : Nat} {args : List W} {h : WH} (e : args.length = 2) : prg (k + 1) i_L_hand args h = fin h (d_L_hand (prg k) (args.map some ++ List.replicate 2 none) h) := run_fin (np := npT i_L_hand) (sl := slT i_L_hand) e
theorem r_L_take {k : Nat} {args : List W} {h : WH} (e : args.length = 2) : prg (k + 1) i_L_take args h = fin h (d_L_take (prg k) (args.map some ++ List.replicate 4 none) h) := run_fin (np := npT i_L_take) (sl := slT i_L_take) e
theorem r_L_of {k : Nat} {args : List W} {h : WH} (e : args.length = 2) : prg (k + 1) i_L_of args h = fin h (d_L_of (prg k) (args.map some ++ List.replicate 0 none) h) := run_fin (np := npT i_L_of) (sl := slT i_L_of) e
theorem r_L_rounds {k : Nat} {args : List W} {h : WH} (e : args.length = 4) : prg (k + 1) i_L_rounds args h = fin h (d_L_rounds (prg k) (args.map some ++ List.replicate 2 none) h) := run_fin (np := npT i_L_rounds) (sl := slT i_L_rounds) e
theorem r_L_house {k : Nat} {args : List W} {h : WH} (e : args.length = 6) : prg (k + 1) i_L_house args h = fin h (d_L_house (prg k) (args.map some ++ List.replicate 5 none) h) := run_fin (np := npT i_L_house) (sl := slT i_L_house) e
theorem r_L_due {k : Nat} {args : List W} {h : WH} (e : args.length = 6) : prg (k + 1) i_L_due args h = fin h (d_L_due (prg k) (args.map some ++ List.replicate 2 none) h) := run_fin (np := npT i_L_due) (sl := slT i_L_due) e
theorem r_L_law {k : Nat} {args : List W} {h : WH} (e : args.length = 1) : prg (k + 1) i_L_law args h = fin h (d_L_law (prg k) (args.map some ++ List.replicate 15 none) h) := run_fin (np := npT i_L_law) (sl := slT i_L_law) e
end KW.P

set_option linter.all false
set_option maxRecDepth 100000
set_option maxHeartbeats 4000000
/-! faces -/
namespace KW.P
open PySem L2 KW TL
/-- a name -/
def NmL (s : Str) : Prop := 1 ≤ s.length ∧ s.length ≤ 6 ∧ Low (cl s)
structure Fc where
  size : Int
  doors : List Str
  far : List Str
structure Fc.Ok (f : Fc) : Prop where
  s : 1 ≤ f.size ∧ f.size ≤ 4
  dl : 1 ≤ f.doors.length ∧ f.doors.length ≤ 5
  dn : f.doors.Nodup
  dm : ∀ s ∈ f.doors, NmL s
  sl : f.far.length ≤ 4
  sn : f.far.Nodup
  sm : ∀ s ∈ f.far, NmL s
  nm : ("main" : Str) ∉ f.far
theorem whole_ok {k : Nat} {h : WH} {s lo hi : Int} (h1 : lo ≤ s) (h2 : s ≤ hi) : prg (k + 1) i_faces_is_whole [.int s, .int lo, .int hi] h = .ok (.bl true) h := by
  rw [r_faces_is_whole (show [W.int s, W.int lo, W.int hi].length = 3 from rfl)]
  simp [d_faces_is_whole, tyW, kii, kib, truW, h1, h2]
theorem name_ok {k : Nat} {h : WH} {s : Str} (hs : NmL s) : prg (k + 1) i_faces_is_name [.str s] h = .ok (.bl true) h := by
  obtain ⟨h1, h2, h3⟩ := hs
  rw [r_faces_is_name (show [W.str s].length = 1 from rfl)]
  have l : s.length ≤ lim := by unfold lim; omega
  have i1 : (1 : Int) ≤ (s.length : Int) := by omega
  have i2 : (s.length : Int) ≤ 6 := by omega
  have eL : ("abcdefghijklmnopqrstuvwxyz" : Str) = LET := rfl
  have c := compL_map (ws0 := signs s) (t := tgW (.nm 1)) (elt := dOp (fIn false) (dVar 1) (dC (.str LET))) (sw := wipeW [some (.str s), none] [1]) (h := h) (fun _ => .bl true) (signs s) [] (fun w hw => by
    obtain ⟨c, hc, rfl⟩ := List.mem_map.mp hw
    refine ⟨_, rfl, ?_⟩
    have q := in_let (h3 c hc)
    have e : ∀ g : WH, fIn false (.str ⟨#[c]⟩) (.str LET) g = .ok (.bl true) g := fun g => by
      show fInS false (.str ⟨#[c]⟩) (.str LET) g = _
      simp [fInS, q]
    simp [wipeW, e]) (by simp [signs]; rw [cl_len] at l; simpa using l)
  rw [List.nil_append, List.map_const'] at c
  simp [d_faces_is_name, tyW, kss, truW, l, i1, i2, bLen, eL, c, bAll, lstOf, bls_rep]
theorem unlike_tup {k : Nat} {h : WH} {ss : List Str} (hn : ss.Nodup) (hl : ss.length < 2000) : prg (k + 1) i_faces_are_unlike [.tup (ss.map .str)] h = .ok (.bl true) h := by
  rw [r_faces_are_unlike (show [W.tup (ss.map W.str)].length = 1 from rfl)]
  have l2 : ss.length < 4000 := by omega
  have q : ∀ (sw : WS) (g : WH), sw[0]? = some (some (.tup (ss.map .str))) → dLenSetA (dVar 0) sw g = .ok (.int ss.length) g := fun sw g e => by
    simp [dLenSetA, e, strsOf_map, l2, unlike_nodup hn]
  simp [d_faces_are_unlike, q, bLen, seqOf, fEq, scalW]
theorem unlike_lst {k : Nat} {h : WH} {ss : List Str} (hn : ss.Nodup) (hl : ss.length < 2000) : prg (k + 1) i_faces_are_unlike [.lst (ss.map .str)] h = .ok (.bl true) h := by
  rw [r_faces_are_unlike (show [W.lst (ss.map W.str)].length = 1 from rfl)]
  have l2 : ss.length < 4000 := by omega
  have q : ∀ (sw : WS) (g : WH), sw[0]? = some (some (.lst (ss.map .str))) → dLenSetA (dVar 0) sw g = .ok (.int ss.length) g := fun sw g e => by
    simp [dLenSetA, e, lstOf, strsOf_map, l2, unlike_nodup hn]
  simp [d_faces_are_unlike, q, bLen, seqOf, lstOf, fEq, scalW]
theorem names_tup {k : Nat} {h : WH} {ss : List Str} {lo hi : Int} (hn : ss.Nodup) (hl : ss.length < 100) (hm : ∀ s ∈ ss, NmL s) (h1 : lo ≤ ss.length) (h2 : ss.length ≤ hi) : prg (k + 2) i_faces_are_names [.tup (ss.map .str), .int lo, .int hi] h = .ok (.bl true) h := by
  rw [r_faces_are_names (show [W.tup (ss.map W.str), W.int lo, W.int hi].length = 3 from rfl)]
  have c := compL_map (ws0 := ss.map .str) (t := tgW (.nm 3)) (elt := dCall (prg (k + 1) i_faces_is_name) (aCons (dVar 3) aNil)) (sw := wipeW [some (.tup (ss.map .str)), some (.int lo), some (.int hi), none] [3]) (h := h) (fun _ => .bl true) (ss.map .str) [] (fun w hw => by
    obtain ⟨s, hs, rfl⟩ := List.mem_map.mp hw
    refine ⟨_, rfl, ?_⟩
    simp [wipeW, name_ok (k := k) (hm s hs)]) (by simp; unfold lim; omega)
  rw [List.nil_append, List.map_const', List.length_map] at c
  simp [-List.map_map, d_faces_are_names, tyW, ktt, truW, h1, h2, bLen, seqOf, c, bAll, lstOf, bls_rep, unlike_tup (k := k) hn (by omega)]
abbrev fcFs : List Nat := [fl_size, fl_doors, fl_strangers]
abbrev fcVs (f : Fc) : List W := [.int f.size, .tup (f.doors.map .str), .tup (f.far.map .str)]
abbrev faceW (f : Fc) : W := .ins c_Face fcFs (fcVs f)
theorem faceW_lt {f : Fc} {n : Nat} : (faceW f).lt n = true := by simp only [W.lt, W.lts, strs_lt, Bool.and_self]
/-- a new instance's fields, one by one -/
theorem stF_new {h : WH} {c : Nat} {fs : List Nat} {vs : List W} {x : W} {j : Nat} (hj : layT c j = true) (hl : fs.length < 900) : fStF layT (.ref h.length) j x (h ++ [.ins c fs vs]) = some (h ++ [.ins c (putFs j fs) (putVs j x fs vs)]) := by
  have g : (h ++ [Ob.ins c fs vs])[h.length]? = some (.ins c fs vs) := by simp
  simp only [fStF, g, hj, hl, and_self, if_true]
  simp
/-- a class told by value, called -/
theorem mkT_val {k c f : Nat} {ws : List W} {h : WH} {fs : List Nat} {vs : List W} (i0 : iniT c = some f) (v0 : valT c = true) (hw : (W.ins c fs vs).lt h.length = true) (e : prg k f (.ref h.length :: ws) (h ++ [.ins c [] []]) = .ok .non (h ++ [.ins c fs vs])) :
    mkT iniT valT (prg k) c ws h = .ok (.ins c fs vs) h := by
  have g : (h ++ [Ob.ins c fs vs])[h.length]? = some (.ins c fs vs) := by simp
  have gg : gc h.length (.ins c fs vs) h (h ++ [.dead]) = h := gc_drop rfl hw fun i _ => .inl rfl
  simp only [mkT, i0, e, x_bind, v0, if_true, g]
  simp only [List.set_append_right _ _ (Nat.le_refl h.length), Nat.sub_self, List.set_cons_zero]
  rw [gg]
theorem face_init {k : Nat} {h : WH} {f : Fc} (ok : f.Ok) : prg (k + 3) i_faces_Face_init (.ref h.length :: fcVs f) (h ++ [.ins c_Face [] []]) = .ok .non (h ++ [.ins c_Face fcFs (fcVs f)]) := by
  rw [r_faces_Face_init (show (W.ref h.length :: fcVs f).length = 4 from rfl)]
  have d1 := names_tup (k := k) (h := h ++ [.ins c_Face [] []]) (ss := f.doors) (lo := 1) (hi := 5) ok.dn (by have := ok.dl; omega) ok.dm (by have := ok.dl; omega) (by have := ok.dl; omega)
  have d2 := names_tup (k := k) (h := h ++ [.ins c_Face [] []]) (ss := f.far) (lo := 0) (hi := 4) ok.sn (by have := ok.sl; omega) ok.sm (by omega) (by have := ok.sl; omega)
  have d3 := whole_ok (k := k + 1) (h := h ++ [.ins c_Face [] []]) (lo := 1) (hi := 4) ok.s.1 ok.s.2
  have e1 := stF_new (h := h) (c := c_Face) (fs := []) (vs := []) (x := .int f.size) (j := fl_size) rfl (by decide)
  have e2 := stF_new (h := h) (c := c_Face) (fs := [fl_size]) (vs := [.int f.size]) (x := .tup (f.doors.map .str)) (j := fl_doors) rfl (by decide)
  have e3 := stF_new (h := h) (c := c_Face) (fs := [fl_size, fl_doors]) (vs := [.int f.size, .tup (f.doors.map .str)]) (x := .tup (f.far.map .str)) (j := fl_strangers) rfl (by decide)
  have p2 : putFs fl_doors [fl_size] = [fl_size, fl_doors] := by decide
  have p3 : putFs fl_strangers [fl_size, fl_doors] = [fl_size, fl_doors, fl_strangers] := by decide
  have q2 : putVs fl_doors (.tup (f.doors.map .str)) [fl_size] [.int f.size] = [.int f.size, .tup (f.doors.map .str)] := by simp [putVs]
  have q3 : putVs fl_strangers (.tup (f.far.map .str)) [fl_size, fl_doors] [.int f.size, .tup (f.doors.map .str)] = fcVs f := by simp [putVs]
  rw [p2, q2] at e2
  rw [p3, q3] at e3
  have p1 : putFs fl_size [] = [fl_size] := rfl
  have q1 : putVs fl_size (.int f.size) [] [] = [.int f.size] := rfl
  rw [p1, q1] at e1
  have gg : gc (h ++ [Ob.ins c_Face [] []]).length .non (h ++ [.ins c_Face [] []]) (h ++ [.ins c_Face fcFs (fcVs f)]) = h ++ [.ins c_Face fcFs (fcVs f)] := gc_len (by simp)
  simp only [List.map_cons, List.map_nil, List.cons_append, List.nil_append, List.replicate_zero, List.append_nil]
  simp [-List.length_append, -fl_size, -fl_doors, -fl_strangers, d_faces_Face_init, d1, d2, d3, truW, fin_strs, ok.nm, e1, e2, e3, gg]
theorem mk_face {k : Nat} {h : WH} {f : Fc} (ok : f.Ok) : mkT iniT valT (prg (k + 3)) c_Face (fcVs f) h = .ok (faceW f) h :=
  mkT_val (f := i_faces_Face_init) rfl rfl faceW_lt (face_init ok)
end KW.P

set_option linter.all false
set_option maxRecDepth 100000
set_option maxHeartbeats 4000000
/-! houses: what is right -/
namespace KW.P
open PySem L2 KW TL
inductive Thg | nm (s : Str) | no (n : Int)
def Thg.w : Thg → W | .nm s => .str s | .no n => .int n
def Thg.Ok (ns : List Str) : Thg → Prop | .nm s => s ∈ ns | .no n => 0 ≤ n ∧ n ≤ 999
inductive Tld | th (t : Thg) | op (o : Str) (a b : Thg)
def Tld.w : Tld → W | .th t => t.w | .op o a b => .tup [.str o, a.w, b.w]
def OPSL : List Str := ["+", "-", "*", "=", "<"]
def Tld.Ok (ns : List Str) : Tld → Prop | .th t => t.Ok ns | .op o a b => o ∈ OPSL ∧ a.Ok ns ∧ b.Ok ns
inductive Row | put (x : Str) (t : Tld) | go (k : Nat) | whn (t : Thg) (k : Nat) | ask (p : Str) (t : Thg) (x : Str) | tell (t : Thg) | halt
def Row.w : Row → W
  | .put x t => .tup [.str "put", .str x, t.w]
  | .go k => .tup [.str "go", .int (k : Int)]
  | .whn t k => .tup [.str "when", t.w, .int (k : Int)]
  | .ask p t x => .tup [.str "ask", .str p, t.w, .str x]
  | .tell t => .tup [.str "tell", t.w]
  | .halt => .tup [.str "halt"]
def Row.Ok (far ns : List Str) (many : Nat) : Row → Prop
  | .put x t => x ∈ ns ∧ t.Ok ns
  | .go k => k ≤ many
  | .whn t k => t.Ok ns ∧ k ≤ many
  | .ask p t x => p ∈ far ∧ t.Ok ns ∧ x ∈ ns
  | .tell t => t.Ok ns
  | .halt => True
structure Cl where
  nm : Str
  size : Int
  fst : Int
abbrev Cl.w (c : Cl) : W := .tup [.str c.nm, .int c.size, .int c.fst]
structure Cl.Ok (c : Cl) : Prop where
  n : NmL c.nm
  s : 1 ≤ c.size ∧ c.size ≤ 1000
  f : 0 ≤ c.fst ∧ c.fst ≤ c.size - 1
abbrev lcW (l : Str × Int) : W := .tup [.str l.1, .int l.2]
structure Bd where
  arg : Str
  kept : List (Str × Int)
  rows : List Row
abbrev Bd.w (b : Bd) : W := .tup [.str b.arg, .tup (b.kept.map lcW), .tup (b.rows.map Row.w)]
def namesOf (cs : List Cl) (b : Bd) : List Str := (cs.map Cl.nm ++ [b.arg]) ++ b.kept.map Prod.fst
structure Bd.Ok (far : List Str) (cs : List Cl) (b : Bd) : Prop where
  a : NmL b.arg
  k : ∀ l ∈ b.kept, NmL l.1 ∧ 1 ≤ l.2 ∧ l.2 ≤ 1000
  n : (namesOf cs b).Nodup
  l : (namesOf cs b).length < 200
  r0 : b.rows ≠ []
  r1 : b.rows.length < 1600
  r : ∀ x ∈ b.rows, x.Ok far (namesOf cs b) b.rows.length
theorem eqS {m : Bool} {a b : Str} {h : WH} : fEq m (.str a) (.str b) h = .ok (.bl (decide (a = b) != m)) h := rfl
theorem eqN {m : Bool} {a b : Int} {h : WH} : fEq m (.int a) (.int b) h = .ok (.bl (decide (a = b) != m)) h := rfl
theorem wd1 : (("go" : Str) = "put") = False ∧ (("when" : Str) = "put") = False ∧ (("ask" : Str) = "put") = False ∧ (("tell" : Str) = "put") = False ∧ (("halt" : Str) = "put") = False := by decide +kernel
theorem wd2 : (("put" : Str) = "go") = False ∧ (("when" : Str) = "go") = False ∧ (("ask" : Str) = "go") = False ∧ (("tell" : Str) = "go") = False ∧ (("halt" : Str) = "go") = False := by decide +kernel
theorem wd3 : (("put" : Str) = "when") = False ∧ (("go" : Str) = "when") = False ∧ (("ask" : Str) = "when") = False ∧ (("tell" : Str) = "when") = False ∧ (("halt" : Str) = "when") = False := by decide +kernel
theorem wd4 : (("put" : Str) = "ask") = False ∧ (("go" : Str) = "ask") = False ∧ (("when" : Str) = "ask") = False ∧ (("tell" : Str) = "ask") = False ∧ (("halt" : Str) = "ask") = False := by decide +kernel
theorem wd5 : (("put" : Str) = "tell") = False ∧ (("go" : Str) = "tell") = False ∧ (("when" : Str) = "tell") = False ∧ (("ask" : Str) = "tell") = False ∧ (("halt" : Str) = "tell") = False := by decide +kernel
theorem wd6 : (("put" : Str) = "halt") = False ∧ (("go" : Str) = "halt") = False ∧ (("when" : Str) = "halt") = False ∧ (("ask" : Str) = "halt") = False ∧ (("tell" : Str) = "halt") = False := by decide +kernel
theorem kts : kitB "tuple" "str" = some false := by decide +kernel
theorem kti : kitB "tuple" "int" = some false := by decide +kernel
theorem kis : kitB "int" "str" = some false := by decide +kernel
theorem kst : kitB "str" "tuple" = some false := by decide +kernel
theorem kit : kitB "int" "tuple" = some false := by decide +kernel
section
variable {k : Nat} {h : WH}
theorem thing_ok {t : Thg} {ns : List Str} (ok : t.Ok ns) : prg (k + 2) i_houses_is_thing [t.w, .lst (ns.map .str)] h = .ok (.bl true) h := by
  rw [r_houses_is_thing (show [t.w, W.lst (ns.map W.str)].length = 2 from rfl)]
  cases t with
  | nm s =>
    have ok : s ∈ ns := ok
    simp [d_houses_is_thing, Thg.w, tyW, kss, truW, fin_lst, ok]
  | no n =>
    have w := whole_ok (k := k) (h := h) ok.1 ok.2
    simp [d_houses_is_thing, Thg.w, tyW, kis, truW, w]
theorem thing_no {ws : List W} {ns : List Str} : prg (k + 2) i_houses_is_thing [.tup ws, .lst (ns.map .str)] h = .ok (.bl false) h := by
  rw [r_houses_is_thing (show [W.tup ws, W.lst (ns.map W.str)].length = 2 from rfl)]
  have w : prg (k + 1) i_faces_is_whole [.tup ws, .int 0, .int 999] h = .ok (.bl false) h := by
    rw [r_faces_is_whole (show [W.tup ws, W.int 0, W.int 999].length = 3 from rfl)]
    simp [d_faces_is_whole, tyW, kti, truW]
  simp [d_houses_is_thing, tyW, kts, truW, w]
theorem fnot_ops {o : Str} {g : WH} (ho : o ∈ OPSL) : fIn true (.str o) (.tup [.str ("+" : Str), .str ("-" : Str), .str ("*" : Str), .str ("=" : Str), .str ("<" : Str)]) g = .ok (.bl false) g := by
  have := fnot_strs (s := o) (ss := OPSL) (g := g)
  rw [decide_eq_true ho] at this
  exact this
theorem sum_ok {o : Str} {a b : Thg} {ns : List Str} (ho : o ∈ OPSL) (ha : a.Ok ns) (hb : b.Ok ns) : prg (k + 3) i_houses_is_sum [.tup [.str o, a.w, b.w], .lst (ns.map .str)] h = .ok (.bl true) h := by
  rw [r_houses_is_sum (show [W.tup [.str o, a.w, b.w], W.lst (ns.map W.str)].length = 2 from rfl)]
  simp [d_houses_is_sum, tyW, ktt, kss, truW, bLen, seqOf, eqN, fnot_ops ho, thing_ok (k := k) (h := h) ha, thing_ok (k := k) (h := h) hb]
theorem named_tup {s : Str} {ns : List Str} (hs : s ∈ ns) : prg (k + 1) i_houses_is_named [.str s, .tup (ns.map .str)] h = .ok (.bl true) h := by
  rw [r_houses_is_named (show [W.str s, W.tup (ns.map W.str)].length = 2 from rfl)]
  simp [d_houses_is_named, tyW, kss, truW, fin_strs, hs]
theorem named_lst {s : Str} {ns : List Str} (hs : s ∈ ns) : prg (k + 1) i_houses_is_named [.str s, .lst (ns.map .str)] h = .ok (.bl true) h := by
  rw [r_houses_is_named (show [W.str s, W.lst (ns.map W.str)].length = 2 from rfl)]
  simp [d_houses_is_named, tyW, kss, truW, fin_lst, hs]
theorem told_ok {t : Tld} {ns : List Str} (ok : t.Ok ns) : (∃ b, prg (k + 3) i_houses_is_thing [t.w, .lst (ns.map .str)] h = .ok (.bl b) h ∧ (b = true ∨ prg (k + 3) i_houses_is_sum [t.w, .lst (ns.map .str)] h = .ok (.bl true) h)) := by
  cases t with
  | th t => exact ⟨true, thing_ok (k := k + 1) ok, .inl rfl⟩
  | op o a b => exact ⟨false, thing_no (k := k + 1), .inr (sum_ok ok.1 ok.2.1 ok.2.2)⟩
theorem fits_ok {r : Row} {f : Fc} {ns : List Str} {many : Nat} (ok : r.Ok f.far ns many) : prg (k + 4) i_houses_fits_row [r.w, faceW f, .lst (ns.map .str), .int (many : Int)] h = .ok (.bl true) h := by
  rw [r_houses_fits_row (show [r.w, faceW f, .lst (ns.map .str), .int (many : Int)].length = 4 from rfl)]
  cases r with
  | put x t =>
    obtain ⟨hx, ht⟩ := ok
    obtain ⟨b, e1, e2⟩ := told_ok (k := k) (h := h) ht
    rcases e2 with rfl | e2
    · simp [d_houses_fits_row, Row.w, eqS, eqN, bLen, seqOf, lstOf, truW, named_lst (k := k + 2) (h := h) hx, e1]
    · cases b <;> simp [d_houses_fits_row, Row.w, eqS, eqN, bLen, seqOf, lstOf, truW, named_lst (k := k + 2) (h := h) hx, e1, e2]
  | go j =>
    have ok : j ≤ many := ok
    have w := whole_ok (k := k + 2) (h := h) (lo := 0) (s := (j : Int)) (hi := (many : Int)) (by omega) (by omega)
    simp [d_houses_fits_row, Row.w, eqS, eqN, bLen, seqOf, lstOf, truW, wd1, w]
  | whn t j =>
    obtain ⟨ht, ok⟩ := ok
    have w := whole_ok (k := k + 2) (h := h) (lo := 0) (s := (j : Int)) (hi := (many : Int)) (by omega) (by omega)
    simp [d_houses_fits_row, Row.w, eqS, eqN, bLen, seqOf, lstOf, truW, wd1, wd2, w, thing_ok (k := k + 1) (h := h) ht]
  | ask p t x =>
    obtain ⟨hp, ht, hx⟩ := ok
    simp [d_houses_fits_row, Row.w, eqS, eqN, bLen, seqOf, lstOf, truW, wd1, wd2, wd3, insOf, lookF, named_tup (k := k + 2) (h := h) hp, thing_ok (k := k + 1) (h := h) ht, named_lst (k := k + 2) (h := h) hx]
  | tell t =>
    simp [d_houses_fits_row, Row.w, eqS, eqN, bLen, seqOf, lstOf, truW, wd1, wd2, wd3, wd4, thing_ok (k := k + 1) (h := h) (show t.Ok ns from ok)]
  | halt =>
    have e0 : ∀ g : WH, fEq false (.lst []) (.lst []) g = .ok (.bl true) g := fun g => by rfl
    simp [d_houses_fits_row, Row.w, eqS, eqN, bLen, seqOf, lstOf, truW, wd1, wd2, wd3, wd4, wd5, e0]
theorem row_ok {r : Row} {f : Fc} {ns : List Str} {many : Nat} (ok : r.Ok f.far ns many) : prg (k + 5) i_houses_is_row [r.w, faceW f, .lst (ns.map .str), .int (many : Int)] h = .ok (.bl true) h := by
  rw [r_houses_is_row (show [r.w, faceW f, .lst (ns.map .str), .int (many : Int)].length = 4 from rfl)]
  have e := fits_ok (k := k) (h := h) ok
  cases r <;> simp [d_houses_is_row, Row.w, tyW, ktt, kss, truW, bLen, seqOf, eqN] <;> simp [Row.w] at e <;> simp [e]
  all_goals omega
theorem cell_ok {c : Cl} (ok : c.Ok) : prg (k + 2) i_houses_is_cell [c.w] h = .ok (.bl true) h := by
  rw [r_houses_is_cell (show [c.w].length = 1 from rfl)]
  simp [d_houses_is_cell, tyW, ktt, truW, bLen, seqOf, eqN, tgW, tgWs, name_ok (k := k) (h := h) ok.n, whole_ok (k := k) (h := h) ok.s.1 ok.s.2, whole_ok (k := k) (h := h) ok.f.1 ok.f.2]
theorem local_ok {l : Str × Int} (hn : NmL l.1) (h1 : 1 ≤ l.2) (h2 : l.2 ≤ 1000) : prg (k + 2) i_houses_is_local [lcW l] h = .ok (.bl true) h := by
  rw [r_houses_is_local (show [lcW l].length = 1 from rfl)]
  simp [d_houses_is_local, tyW, ktt, truW, bLen, seqOf, eqN, name_ok (k := k) (h := h) hn, whole_ok (k := k) (h := h) h1 h2]
end
end KW.P

set_option linter.all false
set_option maxRecDepth 100000
set_option maxHeartbeats 4000000
/-! houses: made -/
namespace KW.P
open PySem L2 KW TL
theorem compL_mt {α : Type} {ws0 : List W} {t : W → WS → Option WS} {elt : EV} {sw : WS} {h : WH} (g f : α → W) : ∀ (l : List α) (acc : List W), (∀ a ∈ l, ∃ sw1, t (g a) sw = some sw1 ∧ elt sw1 h = .ok (f a) h) → acc.length + l.length ≤ lim → compL none ws0 t bYes elt sw (l.map g) acc h = .ok (acc ++ l.map f) h
  | [], acc, _, _ => by unfold compL; simp [srcOk]
  | a :: l, acc, st, hl => by
    obtain ⟨sw1, e1, e2⟩ := st a (List.mem_cons_self ..)
    simp only [List.length_cons] at hl
    rw [List.map_cons]
    unfold compL
    have q : srcOk none ws0 h = true := rfl
    rw [if_pos q, e1]
    simp only [x_yes, e2]
    rw [if_pos (by omega), compL_mt g f l (acc ++ [f a]) (fun u hu => st u (List.mem_cons_of_mem _ hu)) (by simp only [List.length_append, List.length_singleton]; omega)]
    simp
theorem lm : 0 ≤ lim ∧ 1 ≤ lim ∧ 2 ≤ lim ∧ 3 ≤ lim ∧ 4 ≤ lim ∧ 5 ≤ lim ∧ 6 ≤ lim ∧ 7 ≤ lim ∧ 8 ≤ lim := by decide
theorem get_end {h : WH} {x : Ob} : (h ++ [x])[h.length]? = some x := by simp
theorem tg2 {i j : Nat} {a b : W} {sw : WS} : tgW (.tup [.nm i, .nm j]) (.tup [a, b]) sw = some ((sw.set i (some a)).set j (some b)) := rfl
theorem tg3 {i j l : Nat} {a b c : W} {sw : WS} : tgW (.tup [.nm i, .nm j, .nm l]) (.tup [a, b, c]) sw = some (((sw.set i (some a)).set j (some b)).set l (some c)) := rfl
theorem putD_new {s : Str} {w : W} : ∀ {ks : List Str} {ws : List W}, s ∉ ks → ks.length = ws.length → putD (.str s) w (ks.map .str) ws = (ks.map .str ++ [.str s], ws ++ [w])
  | [], [], _, _ => rfl
  | [], _ :: _, _, e => by simp at e
  | _ :: _, [], _, e => by simp at e
  | k :: ks, u :: ws, hn, e => by
    have h1 : ¬ k = s := fun z => hn (z ▸ List.mem_cons_self ..)
    have h2 : s ∉ ks := fun z => hn (List.mem_cons_of_mem _ z)
    simp only [List.map_cons, putD, W.str.injEq, if_neg h1, putD_new h2 (by simpa using e), List.cons_append]
theorem compD_mt {α : Type} {ws0 : List W} {t : W → WS → Option WS} {kx vx : EV} {sw : WS} {h : WH} (g : α → W) (kf : α → Str) (vf : α → W) : ∀ (l : List α) (ks : List Str) (ws : List W), (∀ a ∈ l, ∃ sw1, t (g a) sw = some sw1 ∧ kx sw1 h = .ok (.str (kf a)) h ∧ vx sw1 h = .ok (vf a) h) → (ks ++ l.map kf).Nodup → ks.length = ws.length → ks.length + l.length ≤ lim →
    compD none ws0 t bYes kx vx sw (l.map g) (ks.map .str, ws) h = .ok (ks.map .str ++ l.map fun a => .str (kf a), ws ++ l.map vf) h
  | [], ks, ws, _, _, _, _ => by unfold compD; simp [srcOk]
  | a :: l, ks, ws, st, nd, el, hl => by
    obtain ⟨sw1, e1, e2, e3⟩ := st a (List.mem_cons_self ..)
    simp only [List.length_cons] at hl
    rw [List.map_cons]
    unfold compD
    have q : srcOk none ws0 h = true := rfl
    have nk : kf a ∉ ks := fun z => (List.nodup_append.mp nd).2.2 _ z _ (by simp) rfl
    rw [if_pos q, e1]
    simp only [x_yes, e2, e3, keyOfW, keyW, List.length_map]
    rw [if_pos (by omega), putD_new nk el]
    have r := compD_mt (ws0 := ws0) (t := t) (kx := kx) (vx := vx) (sw := sw) (h := h) g kf vf l (ks ++ [kf a]) (ws ++ [vf a]) (fun u hu => st u (List.mem_cons_of_mem _ hu)) (by simpa using nd) (by simp [el]) (by simp only [List.length_append, List.length_singleton]; omega)
    simp only [List.map_append, List.map_cons, List.map_nil] at r
    rw [r]
    simp
theorem lookD_ix {s : Str} : ∀ {ks : List Str} {n : Nat}, s ∈ ks → lookD (.str s) (ks.map .str) ((ks.zipIdx n).map fun p => .int (p.2 : Nat)) = some (.int ((n + ks.idxOf s : Nat) : Int))
  | k :: ks, n, hm => by
    by_cases e : k = s
    · subst e
      simp [List.zipIdx_cons, lookD]
    · have hm : s ∈ ks := by
        rcases List.mem_cons.mp hm with z | z
        · exact absurd z.symm e
        · exact z
      simp only [List.zipIdx_cons, List.map_cons, lookD, W.str.injEq, if_neg e, lookD_ix hm]
      rw [List.idxOf_cons]
      have : (k == s) = false := by simpa using e
      simp only [this, cond_false]
      rw [show n + 1 + List.idxOf s ks = n + (List.idxOf s ks + 1) from by omega]
theorem lts_map {α : Type} {g : α → W} {n : Nat} (hg : ∀ a, (g a).lt n = true) : ∀ l : List α, W.lts n (l.map g) = true
  | [] => rfl
  | a :: l => by simp only [List.map_cons, W.lts, hg a, lts_map hg l, Bool.and_self]
theorem bls_map {α : Type} (l : List α) : blsOf (l.map fun _ => W.bl true) = some (l.map fun _ => true) := by
  induction l with
  | nil => rfl
  | cons a l ih => simp only [List.map_cons, blsOf, ih, Option.map_some]
theorem all_tt {α : Type} (l : List α) : (l.map fun _ => true).all id = true := by simp
abbrev bdFs : List Nat := [fl_places, fl_own_sizes, fl_all_sizes, fl_all_rows]
def ownOf (sz : Int) (b : Bd) : List Int := sz :: b.kept.map Prod.snd
def allOf (sz : Int) (cs : List Cl) (b : Bd) : List Int := cs.map Cl.size ++ ownOf sz b
abbrev placesW (ns : List Str) : W := .dct (ns.map .str) (ns.zipIdx.map fun p => .int (p.2 : Nat))
abbrev bdVs (sz : Int) (cs : List Cl) (b : Bd) : List W := [placesW (namesOf cs b), .lst ((ownOf sz b).map .int), .lst ((allOf sz cs b).map .int), .tup (b.rows.map Row.w)]
abbrev bdW (sz : Int) (cs : List Cl) (b : Bd) : W := .ins c_Body bdFs (bdVs sz cs b)
abbrev hsFs : List Nat := [fl_face, fl_cells, fl_bodies, fl_body_by_door]
structure Hs where
  fc : Fc
  cells : List Cl
  bodies : List Bd
abbrev hsVs (H : Hs) : List W := [faceW H.fc, .tup (H.cells.map Cl.w), .tup (H.bodies.map Bd.w), .dct (H.fc.doors.map .str) (H.bodies.map (bdW H.fc.size H.cells))]
abbrev hsW (H : Hs) : W := .ins c_House hsFs (hsVs H)
structure Hs.Ok (H : Hs) : Prop where
  f : H.fc.Ok
  c : ∀ c ∈ H.cells, c.Ok
  cn : (H.cells.map Cl.nm).Nodup
  cl : H.cells.length < 200
  bl : H.bodies.length = H.fc.doors.length
  b : ∀ b ∈ H.bodies, b.Ok H.fc.far H.cells
theorem thg_lt {t : Thg} {n : Nat} : t.w.lt n = true := by cases t <;> rfl
theorem tld_lt {t : Tld} {n : Nat} : t.w.lt n = true := by cases t <;> simp [Tld.w, thg_lt, W.lt, W.lts]
theorem row_lt {r : Row} {n : Nat} : r.w.lt n = true := by cases r <;> simp [Row.w, thg_lt, tld_lt, W.lt, W.lts]
theorem ints_lt {l : List Int} {n : Nat} : W.lts n (l.map .int) = true := lts_map (fun _ => rfl) l
theorem bdW_lt {sz : Int} {cs : List Cl} {b : Bd} {n : Nat} : (bdW sz cs b).lt n = true := by
  have a1 : W.lts n ((namesOf cs b).zipIdx.map fun p => .int (p.2 : Nat)) = true := lts_map (fun _ => rfl) _
  have a2 : W.lts n (b.rows.map Row.w) = true := lts_map (fun _ => row_lt) _
  simp only [W.lt, W.lts, strs_lt, ints_lt, a1, a2, Bool.and_self]
theorem hsW_lt {H : Hs} {n : Nat} : (hsW H).lt n = true := by
  have a1 : W.lts n (H.cells.map Cl.w) = true := lts_map (fun _ => rfl) _
  have a2 : W.lts n (H.bodies.map Bd.w) = true := lts_map (fun b => by
    have q1 : W.lts n (b.kept.map lcW) = true := lts_map (fun _ => rfl) _
    have q2 : W.lts n (b.rows.map Row.w) = true := lts_map (fun _ => row_lt) _
    simp only [W.lt, W.lts, q1, q2, Bool.and_self]) _
  have a3 : W.lts n (H.bodies.map (bdW H.fc.size H.cells)) = true := lts_map (fun _ => bdW_lt) _
  simp only [W.lt, W.lts, strs_lt, a1, a2, a3, Bool.and_self]
section
variable {k : Nat} {h : WH}
theorem cells_ok {cs : List Cl} (ok : ∀ c ∈ cs, c.Ok) (nd : (cs.map Cl.nm).Nodup) (hl : cs.length < 200) : prg (k + 3) i_houses_are_cells [.tup (cs.map Cl.w)] h = .ok (.bl true) h := by
  rw [r_houses_are_cells (show [W.tup (cs.map Cl.w)].length = 1 from rfl)]
  have c1 := compL_mt (ws0 := cs.map Cl.w) (t := tgW (.nm 1)) (elt := dCall (prg (k + 2) i_houses_is_cell) (aCons (dVar 1) aNil)) (sw := wipeW [some (.tup (cs.map Cl.w)), none, none, none, none] [1]) (h := h) Cl.w (fun _ => .bl true) cs [] (fun c hc => ⟨_, rfl, by
    simp [wipeW, cell_ok (k := k) (h := h) (ok c hc)]⟩) (by simp; unfold lim; omega)
  have c2 := compL_mt (ws0 := cs.map Cl.w) (t := tgW (.tup [.nm 2, .nm 3, .nm 4])) (elt := dVar 2) (sw := wipeW [some (.tup (cs.map Cl.w)), none, none, none, none] [2, 3, 4]) (h := h) Cl.w (fun c => .str c.nm) cs [] (fun c hc => ⟨_, rfl, by
    simp [wipeW]⟩) (by simp; unfold lim; omega)
  have e : (cs.map fun c => W.str c.nm) = (cs.map Cl.nm).map .str := by simp
  rw [e] at c2
  rw [List.nil_append] at c1 c2
  have u := unlike_lst (k := k + 1) (h := h) nd (by simp; omega)
  simp [-List.map_map, d_houses_are_cells, tyW, ktt, truW, c1, c2, bAll, lstOf, bls_map, u]
theorem body_ok {f : Fc} {cs : List Cl} {b : Bd} (ok : b.Ok f.far cs) (hl : cs.length < 200) : prg (k + 6) i_houses_is_body [b.w, faceW f, .tup (cs.map Cl.w)] h = .ok (.bl true) h := by
  rw [r_houses_is_body (show [b.w, faceW f, W.tup (cs.map Cl.w)].length = 3 from rfl)]
  have kl : b.kept.length < 200 := by have := ok.l; simp [namesOf] at this; omega
  have c1 := compL_mt (ws0 := b.kept.map lcW) (t := tgW (.nm 6)) (elt := dCall (prg (k + 5) i_houses_is_local) (aCons (dVar 6) aNil)) (sw := wipeW [some b.w, some (faceW f), some (.tup (cs.map Cl.w)), some (.str b.arg), some (.tup (b.kept.map lcW)), some (.tup (b.rows.map Row.w)), none, none, none, none, none, none] [6]) (h := h) lcW (fun _ => .bl true) b.kept [] (fun l hl => ⟨_, rfl, by
    have q := ok.k l hl
    simp [wipeW, local_ok (k := k + 3) (h := h) q.1 q.2.1 q.2.2]⟩) (by simp; unfold lim; omega)
  have c2 := compL_mt (ws0 := cs.map Cl.w) (t := tgW (.tup [.nm 8, .nm 9, .nm 10])) (elt := dVar 8) (sw := wipeW [some b.w, some (faceW f), some (.tup (cs.map Cl.w)), some (.str b.arg), some (.tup (b.kept.map lcW)), some (.tup (b.rows.map Row.w)), none, none, none, none, none, none] [8, 9, 10]) (h := h) Cl.w (fun c => .str c.nm) cs [] (fun c hc => ⟨_, rfl, by
    simp [wipeW]⟩) (by simp; unfold lim; omega)
  have c3 := compL_mt (ws0 := b.kept.map lcW) (t := tgW (.tup [.nm 8, .nm 9])) (elt := dVar 8) (sw := wipeW [some b.w, some (faceW f), some (.tup (cs.map Cl.w)), some (.str b.arg), some (.tup (b.kept.map lcW)), some (.tup (b.rows.map Row.w)), none, none, none, none, none, none] [8, 9]) (h := h) lcW (fun c => .str c.1) b.kept [] (fun c hc => ⟨_, rfl, by
    simp [wipeW]⟩) (by simp; unfold lim; omega)
  rw [List.nil_append] at c1 c2 c3
  have en : (cs.map fun c => W.str c.nm) ++ [W.str b.arg] ++ (b.kept.map fun c => W.str c.1) = (namesOf cs b).map .str := by simp only [namesOf, List.map_append, List.map_cons, List.map_nil, List.map_map]; rfl
  have ad1 : ∀ g : WH, fAdd false (.lst (cs.map fun c => W.str c.nm)) (.lst [.str b.arg]) g = .ok (.lst ((cs.map fun c => W.str c.nm) ++ [.str b.arg])) g := fun g => by
    simp [fAdd, lstOf]; unfold lim; omega
  have ad2 : ∀ g : WH, fAdd false (.lst ((cs.map fun c => W.str c.nm) ++ [.str b.arg])) (.lst (b.kept.map fun c => W.str c.1)) g = .ok (.lst ((namesOf cs b).map .str)) g := fun g => by
    rw [← en]
    simp [fAdd, lstOf]; unfold lim; omega
  have u := unlike_lst (k := k + 4) (h := h) ok.n (by have := ok.l; omega)
  have c4 := compL_mt (ws0 := b.rows.map Row.w) (t := tgW (.nm 11)) (elt := dCall (prg (k + 5) i_houses_is_row) (aCons (dVar 11) (aCons (dVar 1) (aCons (dVar 7) (aCons (dBi bLen (aCons (dVar 5) aNil)) aNil))))) (sw := wipeW [some b.w, some (faceW f), some (.tup (cs.map Cl.w)), some (.str b.arg), some (.tup (b.kept.map lcW)), some (.tup (b.rows.map Row.w)), none, some (.lst ((namesOf cs b).map .str)), none, none, none, none] [11]) (h := h) Row.w (fun _ => .bl true) b.rows [] (fun r hr => ⟨_, rfl, by
    have q := row_ok (k := k) (h := h) (f := f) (ok.r r hr)
    simp only [faceW] at q
    simp [-List.map_append, wipeW, bLen, seqOf, q]⟩) (by have := ok.r1; simp; unfold lim; omega)
  rw [List.nil_append] at c4
  have nm := name_ok (k := k + 4) (h := h) ok.a
  have r0 := ok.r0
  simp [-List.map_map, -List.map_append, d_houses_is_body, lm, tyW, ktt, truW, bLen, seqOf, eqN, tg3, nm, c1, c2, c3, c4, ad1, ad2, u, bAll, lstOf, bls_map, r0]
theorem bodies_ok {H : Hs} (ok : H.Ok) : prg (k + 7) i_houses_are_bodies [.tup (H.bodies.map Bd.w), faceW H.fc, .tup (H.cells.map Cl.w)] h = .ok (.bl true) h := by
  rw [r_houses_are_bodies (show [W.tup (H.bodies.map Bd.w), faceW H.fc, W.tup (H.cells.map Cl.w)].length = 3 from rfl)]
  have c1 := compL_mt (ws0 := H.bodies.map Bd.w) (t := tgW (.nm 3)) (elt := dCall (prg (k + 6) i_houses_is_body) (aCons (dVar 3) (aCons (dVar 1) (aCons (dVar 2) aNil)))) (sw := wipeW [some (.tup (H.bodies.map Bd.w)), some (faceW H.fc), some (.tup (H.cells.map Cl.w)), none] [3]) (h := h) Bd.w (fun _ => .bl true) H.bodies [] (fun b hb => ⟨_, rfl, by
    have q := body_ok (k := k) (h := h) (ok.b b hb) ok.cl
    simp [-List.map_append, wipeW, q]⟩) (by have := ok.bl; have := ok.f.dl; simp; unfold lim; omega)
  rw [List.nil_append] at c1
  have e : (H.bodies.length : Int) = H.fc.doors.length := by rw [ok.bl]
  simp [-List.map_map, d_houses_are_bodies, tyW, ktt, truW, bLen, seqOf, eqN, insOf, lookF, c1, bAll, lstOf, bls_map, e]
theorem body_init {f : Fc} {cs : List Cl} {b : Bd} (ok : b.Ok f.far cs) (hl : cs.length < 200) : prg (k + 1) i_houses_Body_init [.ref h.length, faceW f, .tup (cs.map Cl.w), b.w] (h ++ [.ins c_Body [] []]) = .ok .non (h ++ [.ins c_Body bdFs (bdVs f.size cs b)]) := by
  rw [r_houses_Body_init (show [W.ref h.length, faceW f, .tup (cs.map Cl.w), b.w].length = 4 from rfl)]
  have kl : b.kept.length < 200 := by have := ok.l; simp [namesOf] at this; omega
  have nl := ok.l
  have c2 := compL_mt (ws0 := cs.map Cl.w) (t := tgW (.tup [.nm 8, .nm 9, .nm 10])) (elt := dVar 8) (sw := wipeW [some (.ref h.length), some (faceW f), some (.tup (cs.map Cl.w)), some b.w, some (.str b.arg), some (.tup (b.kept.map lcW)), some (.tup (b.rows.map Row.w)), none, none, none, none, none] [8, 9, 10]) (h := h ++ [.ins c_Body [] []]) Cl.w (fun c => .str c.nm) cs [] (fun c hc => ⟨_, rfl, by
    simp [wipeW]⟩) (by simp; unfold lim; omega)
  have c3 := compL_mt (ws0 := b.kept.map lcW) (t := tgW (.tup [.nm 8, .nm 9])) (elt := dVar 8) (sw := wipeW [some (.ref h.length), some (faceW f), some (.tup (cs.map Cl.w)), some b.w, some (.str b.arg), some (.tup (b.kept.map lcW)), some (.tup (b.rows.map Row.w)), none, none, none, none, none] [8, 9]) (h := h ++ [.ins c_Body [] []]) lcW (fun c => .str c.1) b.kept [] (fun c hc => ⟨_, rfl, by
    simp [wipeW]⟩) (by simp; unfold lim; omega)
  rw [List.nil_append] at c2 c3
  have en : (cs.map fun c => W.str c.nm) ++ [W.str b.arg] ++ (b.kept.map fun c => W.str c.1) = (namesOf cs b).map .str := by simp only [namesOf, List.map_append, List.map_cons, List.map_nil, List.map_map]; rfl
  have ad1 : ∀ g : WH, fAdd false (.lst (cs.map fun c => W.str c.nm)) (.lst [.str b.arg]) g = .ok (.lst ((cs.map fun c => W.str c.nm) ++ [.str b.arg])) g := fun g => by
    simp [fAdd, lstOf]; unfold lim; omega
  have ad2 : ∀ g : WH, fAdd false (.lst ((cs.map fun c => W.str c.nm) ++ [.str b.arg])) (.lst (b.kept.map fun c => W.str c.1)) g = .ok (.lst ((namesOf cs b).map .str)) g := fun g => by
    rw [← en]
    simp [fAdd, lstOf]; unfold lim; omega
  have ee : enumW ((namesOf cs b).map .str) = ((namesOf cs b).zipIdx).map fun p => W.tup [.int (p.2 : Nat), .str p.1] := by
    simp [enumW, List.zipIdx_map]
  have d1 := compD_mt (ws0 := ((namesOf cs b).zipIdx).map fun p => W.tup [.int (p.2 : Nat), .str p.1]) (t := tgW (.tup [.nm 11, .nm 8])) (kx := dVar 8) (vx := dVar 11) (sw := wipeW [some (.ref h.length), some (faceW f), some (.tup (cs.map Cl.w)), some b.w, some (.str b.arg), some (.tup (b.kept.map lcW)), some (.tup (b.rows.map Row.w)), some (.lst ((namesOf cs b).map .str)), none, none, none, none] [11, 8]) (h := h ++ [.ins c_Body [] []]) (fun p => W.tup [.int (p.2 : Nat), .str p.1]) Prod.fst (fun p => W.int (p.2 : Nat)) (namesOf cs b).zipIdx [] [] (fun p hp => ⟨_, rfl, by
    simp [wipeW], by simp [wipeW]⟩) (by rw [List.nil_append, List.zipIdx_map_fst]; exact ok.n) rfl (by simp; unfold lim; omega)
  have ek : ((namesOf cs b).zipIdx.map fun a => W.str a.1) = (namesOf cs b).map .str := by
    have := congrArg (List.map W.str) (List.zipIdx_map_fst 0 (namesOf cs b))
    rw [List.map_map] at this
    exact this
  rw [ek, List.map_nil, List.nil_append, List.nil_append] at d1
  have e1 := stF_new (h := h) (c := c_Body) (fs := []) (vs := []) (x := placesW (namesOf cs b)) (j := fl_places) rfl (by decide)
  have e2 := stF_new (h := h) (c := c_Body) (fs := [fl_places]) (vs := [placesW (namesOf cs b)]) (x := .lst ((ownOf f.size b).map .int)) (j := fl_own_sizes) rfl (by decide)
  have e3 := stF_new (h := h) (c := c_Body) (fs := [fl_places, fl_own_sizes]) (vs := [placesW (namesOf cs b), .lst ((ownOf f.size b).map .int)]) (x := .lst ((allOf f.size cs b).map .int)) (j := fl_all_sizes) rfl (by decide)
  have e4 := stF_new (h := h) (c := c_Body) (fs := [fl_places, fl_own_sizes, fl_all_sizes]) (vs := [placesW (namesOf cs b), .lst ((ownOf f.size b).map .int), .lst ((allOf f.size cs b).map .int)]) (x := .tup (b.rows.map Row.w)) (j := fl_all_rows) rfl (by decide)
  have p1 : putFs fl_places [] = [fl_places] := rfl
  have p2 : putFs fl_own_sizes [fl_places] = [fl_places, fl_own_sizes] := by decide
  have p3 : putFs fl_all_sizes [fl_places, fl_own_sizes] = [fl_places, fl_own_sizes, fl_all_sizes] := by decide
  have p4 : putFs fl_all_rows [fl_places, fl_own_sizes, fl_all_sizes] = bdFs := by decide
  have q1 : ∀ x, putVs fl_places x [] [] = [x] := fun x => rfl
  have q2 : ∀ a x, putVs fl_own_sizes x [fl_places] [a] = [a, x] := fun a x => by simp [putVs]
  have q3 : ∀ a b x, putVs fl_all_sizes x [fl_places, fl_own_sizes] [a, b] = [a, b, x] := fun a b x => by simp [putVs, fl_all_sizes, fl_places, fl_own_sizes, fl_all_rows]
  have q4 : ∀ a b c x, putVs fl_all_rows x [fl_places, fl_own_sizes, fl_all_sizes] [a, b, c] = [a, b, c, x] := fun a b c x => by simp [putVs, fl_all_sizes, fl_places, fl_own_sizes, fl_all_rows]
  rw [p1, q1] at e1
  rw [p2, q2] at e2
  rw [p3, q3] at e3
  rw [p4, q4] at e4
  have c4 : ∀ g : WH, compL none (b.kept.map lcW) (tgW (.tup [.nm 8, .nm 9])) bYes (dVar 9) (wipeW [some (.ref h.length), some (faceW f), some (.tup (cs.map Cl.w)), some b.w, some (.str b.arg), some (.tup (b.kept.map lcW)), some (.tup (b.rows.map Row.w)), some (.lst ((namesOf cs b).map .str)), none, none, none, none] [8, 9]) (b.kept.map lcW) [] g = .ok ((b.kept.map Prod.snd).map .int) g := fun g => by
    have := compL_mt (ws0 := b.kept.map lcW) (t := tgW (.tup [.nm 8, .nm 9])) (elt := dVar 9) (sw := wipeW [some (.ref h.length), some (faceW f), some (.tup (cs.map Cl.w)), some b.w, some (.str b.arg), some (.tup (b.kept.map lcW)), some (.tup (b.rows.map Row.w)), some (.lst ((namesOf cs b).map .str)), none, none, none, none] [8, 9]) (h := g) lcW (fun c => .int c.2) b.kept [] (fun c hc => ⟨_, rfl, by
      simp [wipeW]⟩) (by simp; unfold lim; omega)
    rw [this, List.nil_append, List.map_map]; rfl
  have c5 : ∀ g : WH, compL none (cs.map Cl.w) (tgW (.tup [.nm 8, .nm 9, .nm 10])) bYes (dVar 9) (wipeW [some (.ref h.length), some (faceW f), some (.tup (cs.map Cl.w)), some b.w, some (.str b.arg), some (.tup (b.kept.map lcW)), some (.tup (b.rows.map Row.w)), some (.lst ((namesOf cs b).map .str)), none, none, none, none] [8, 9, 10]) (cs.map Cl.w) [] g = .ok ((cs.map Cl.size).map .int) g := fun g => by
    have := compL_mt (ws0 := cs.map Cl.w) (t := tgW (.tup [.nm 8, .nm 9, .nm 10])) (elt := dVar 9) (sw := wipeW [some (.ref h.length), some (faceW f), some (.tup (cs.map Cl.w)), some b.w, some (.str b.arg), some (.tup (b.kept.map lcW)), some (.tup (b.rows.map Row.w)), some (.lst ((namesOf cs b).map .str)), none, none, none, none] [8, 9, 10]) (h := g) Cl.w (fun c => .int c.size) cs [] (fun c hc => ⟨_, rfl, by
      simp [wipeW]⟩) (by simp; unfold lim; omega)
    rw [this, List.nil_append, List.map_map]; rfl
  have ad3 : ∀ g : WH, fAdd false (.lst [.int f.size]) (.lst ((b.kept.map Prod.snd).map .int)) g = .ok (.lst ((ownOf f.size b).map .int)) g := fun g => by
    simp [fAdd, lstOf, ownOf]; unfold lim; omega
  have ad4 : ∀ g : WH, fAdd false (.lst ((cs.map Cl.size).map .int)) (.lst ((ownOf f.size b).map .int)) g = .ok (.lst ((allOf f.size cs b).map .int)) g := fun g => by
    simp [fAdd, lstOf, ownOf, allOf]; unfold lim; omega
  have gg : gc (h ++ [Ob.ins c_Body [] []]).length .non (h ++ [.ins c_Body [] []]) (h ++ [.ins c_Body bdFs (bdVs f.size cs b)]) = h ++ [.ins c_Body bdFs (bdVs f.size cs b)] := gc_len (by simp)
  simp only [List.map_cons, List.map_nil, List.cons_append, List.nil_append]
  simp [-List.map_map, -List.map_append, -List.length_append, d_houses_Body_init, lm, tg3, get_end, c2, c3, ad1, ad2, ee, d1, e1, c4, ad3, e2, c5, insOf, lookF, ad4, e3, e4, gg]
end
end KW.P

set_option linter.all false
set_option maxRecDepth 100000
set_option maxHeartbeats 4000000
/-! houses: made -/
namespace KW.P
open PySem L2 KW TL
section
variable {k : Nat} {h : WH}
theorem mk_body {f : Fc} {cs : List Cl} {b : Bd} (ok : b.Ok f.far cs) (hl : cs.length < 200) : mkT iniT valT (prg (k + 1)) c_Body [faceW f, .tup (cs.map Cl.w), b.w] h = .ok (bdW f.size cs b) h :=
  mkT_val (f := i_houses_Body_init) rfl rfl bdW_lt (body_init ok hl)
theorem house_init {H : Hs} (ok : H.Ok) : prg (k + 8) i_houses_House_init (.ref h.length :: [faceW H.fc, .tup (H.cells.map Cl.w), .tup (H.bodies.map Bd.w)]) (h ++ [.ins c_House [] []]) = .ok .non (h ++ [.ins c_House hsFs (hsVs H)]) := by
  rw [r_houses_House_init (show [W.ref h.length, faceW H.fc, .tup (H.cells.map Cl.w), .tup (H.bodies.map Bd.w)].length = 4 from rfl)]
  have t1 := cells_ok (k := k + 4) (h := h ++ [.ins c_House [] []]) ok.c ok.cn ok.cl
  have t2 := bodies_ok (k := k) (h := h ++ [.ins c_House [] []]) ok
  have zl : zipW (H.fc.doors.map .str) (H.bodies.map Bd.w) = (H.fc.doors.zip H.bodies).map fun p => W.tup [.str p.1, p.2.w] := by
    simp only [zipW, List.zip_map, List.map_map]
    rfl
  have ek : (H.fc.doors.zip H.bodies).map Prod.fst = H.fc.doors := List.map_fst_zip (by rw [ok.bl]; exact Nat.le_refl _)
  have ev : (H.fc.doors.zip H.bodies).map Prod.snd = H.bodies := List.map_snd_zip (by rw [ok.bl]; exact Nat.le_refl _)
  have e1 := stF_new (h := h) (c := c_House) (fs := []) (vs := []) (x := faceW H.fc) (j := fl_face) rfl (by decide)
  have e2 := stF_new (h := h) (c := c_House) (fs := [fl_face]) (vs := [faceW H.fc]) (x := .tup (H.cells.map Cl.w)) (j := fl_cells) rfl (by decide)
  have e3 := stF_new (h := h) (c := c_House) (fs := [fl_face, fl_cells]) (vs := [faceW H.fc, .tup (H.cells.map Cl.w)]) (x := .tup (H.bodies.map Bd.w)) (j := fl_bodies) rfl (by decide)
  have e4 := stF_new (h := h) (c := c_House) (fs := [fl_face, fl_cells, fl_bodies]) (vs := [faceW H.fc, .tup (H.cells.map Cl.w), .tup (H.bodies.map Bd.w)]) (x := .dct (H.fc.doors.map .str) (H.bodies.map (bdW H.fc.size H.cells))) (j := fl_body_by_door) rfl (by decide)
  have p1 : putFs fl_face [] = [fl_face] := rfl
  have p2 : putFs fl_cells [fl_face] = [fl_face, fl_cells] := by decide
  have p3 : putFs fl_bodies [fl_face, fl_cells] = [fl_face, fl_cells, fl_bodies] := by decide
  have p4 : putFs fl_body_by_door [fl_face, fl_cells, fl_bodies] = hsFs := by decide
  have q1 : ∀ x, putVs fl_face x [] [] = [x] := fun x => rfl
  have q2 : ∀ a x, putVs fl_cells x [fl_face] [a] = [a, x] := fun a x => by simp [putVs]
  have q3 : ∀ a b x, putVs fl_bodies x [fl_face, fl_cells] [a, b] = [a, b, x] := fun a b x => by simp [putVs, fl_face, fl_cells, fl_bodies]
  have q4 : ∀ a b c x, putVs fl_body_by_door x [fl_face, fl_cells, fl_bodies] [a, b, c] = [a, b, c, x] := fun a b c x => by simp [putVs, fl_face, fl_cells, fl_bodies, fl_body_by_door]
  rw [p1, q1] at e1
  rw [p2, q2] at e2
  rw [p3, q3] at e3
  rw [p4, q4] at e4
  have d1 : ∀ g : WH, compD none (zipW (H.fc.doors.map .str) (H.bodies.map Bd.w)) (tgW (.tup [.nm 4, .nm 5])) bYes (dVar 4) (dMk iniT valT (prg (k + 7)) c_Body (aCons (dVar 1) (aCons (dVar 2) (aCons (dVar 5) aNil)))) (wipeW [some (.ref h.length), some (faceW H.fc), some (.tup (H.cells.map Cl.w)), some (.tup (H.bodies.map Bd.w)), none, none] [4, 5]) (zipW (H.fc.doors.map .str) (H.bodies.map Bd.w)) ([], []) g = .ok (H.fc.doors.map .str, H.bodies.map (bdW H.fc.size H.cells)) g := fun g => by
    have := compD_mt (ws0 := zipW (H.fc.doors.map .str) (H.bodies.map Bd.w)) (t := tgW (.tup [.nm 4, .nm 5])) (kx := dVar 4) (vx := dMk iniT valT (prg (k + 7)) c_Body (aCons (dVar 1) (aCons (dVar 2) (aCons (dVar 5) aNil)))) (sw := wipeW [some (.ref h.length), some (faceW H.fc), some (.tup (H.cells.map Cl.w)), some (.tup (H.bodies.map Bd.w)), none, none] [4, 5]) (h := g) (fun p => W.tup [.str p.1, p.2.w]) Prod.fst (fun p => bdW H.fc.size H.cells p.2) (H.fc.doors.zip H.bodies) [] [] (fun p hp => ⟨_, rfl, by simp [wipeW], by
      have hb : p.2 ∈ H.bodies := (List.of_mem_zip hp).2
      have q := mk_body (k := k + 6) (h := g) (ok.b _ hb) ok.cl
      simp [wipeW, dMk, q]⟩) (by rw [List.nil_append, ek]; exact ok.f.dn) rfl (by have := ok.f.dl; have := ok.bl; simp; unfold lim; omega)
    rw [← zl] at this
    have ek' := congrArg (List.map W.str) ek
    have ev' := congrArg (List.map (bdW H.fc.size H.cells)) ev
    rw [List.map_map] at ek' ev'
    rw [List.map_nil, List.nil_append, List.nil_append] at this
    rw [this, ← ek', ← ev']
    rfl
  have gg : gc (h ++ [Ob.ins c_House [] []]).length .non (h ++ [.ins c_House [] []]) (h ++ [.ins c_House hsFs (hsVs H)]) = h ++ [.ins c_House hsFs (hsVs H)] := gc_len (by simp)
  have ii : isaT (.inr c_Face) c_Face = some true := rfl
  simp only [List.map_cons, List.map_nil, List.cons_append, List.nil_append]
  simp [-List.map_map, -List.map_append, -List.length_append, d_houses_House_init, tyX, ii, t1, t2, truW, e1, e2, e3, insOf, lookF, d1, e4, gg]
theorem mk_house {H : Hs} (ok : H.Ok) : mkT iniT valT (prg (k + 8)) c_House [faceW H.fc, .tup (H.cells.map Cl.w), .tup (H.bodies.map Bd.w)] h = .ok (hsW H) h :=
  mkT_val (f := i_houses_House_init) rfl rfl hsW_lt (house_init ok)
end
end KW.P

set_option linter.all false
set_option maxRecDepth 100000
set_option maxHeartbeats 4000000
/-! houses: what the rows do -/
namespace KW.P
open PySem L2 KW TL
def worth (ns : List Str) (vs : List Int) : Thg → Int
  | .nm s => vs.getD (ns.idxOf s) 0
  | .no n => n
def recko (o : Str) (a b : Int) : Int := if o = "+" then a + b else if o = "-" then a - b else if o = "*" then a * b else if o = "=" then (if a = b then 1 else 0) else if a < b then 1 else 0
def toldV (ns : List Str) (vs : List Int) : Tld → Int
  | .th t => worth ns vs t
  | .op o a b => recko o (worth ns vs a) (worth ns vs b)
def putV (ns : List Str) (zs vs : List Int) (x : Str) (v : Int) : List Int := vs.set (ns.idxOf x) (v % zs.getD (ns.idxOf x) 1)
def stp (ns : List Str) (zs vs : List Int) (i : Nat) : Row → Nat × List Int
  | .put x t => (i + 1, putV ns zs vs x (toldV ns vs t))
  | .go k => (k, vs)
  | .whn t k => if worth ns vs t ≠ 0 then (k, vs) else (i + 1, vs)
  | _ => (i + 1, vs)
def Row.sil : Row → Bool
  | .put .. => true
  | .go _ => true
  | .whn .. => true
  | _ => false
/-- going along the rows, with fuel -/
def run (ns : List Str) (zs : List Int) (rows : List Row) : Nat → List (Nat × List Int) → Nat → List Int → Option (Option Nat × List Int)
  | 0, _, _, _ => none
  | n + 1, seen, i, vs => match rows[i]? with
    | none => some (none, vs)
    | some r => if r.sil then (if (i, vs) ∈ seen then some (none, vs) else run ns zs rows n (seen ++ [(i, vs)]) (stp ns zs vs i r).1 (stp ns zs vs i r).2)
      else some (match r with | .halt => none | _ => some i, vs)
abbrev itW (vs : List Int) : List W := vs.map .int
abbrev ltO (vs : List Int) : Ob := .lst (itW vs)
theorem lb {sz : Int} {cs : List Cl} {b : Bd} : lookF fl_places bdFs (bdVs sz cs b) = some (placesW (namesOf cs b)) ∧ lookF fl_own_sizes bdFs (bdVs sz cs b) = some (.lst ((ownOf sz b).map .int)) ∧ lookF fl_all_sizes bdFs (bdVs sz cs b) = some (.lst ((allOf sz cs b).map .int)) ∧ lookF fl_all_rows bdFs (bdVs sz cs b) = some (.tup (b.rows.map Row.w)) := ⟨rfl, rfl, rfl, rfl⟩
theorem lh {H : Hs} : lookF fl_face hsFs (hsVs H) = some (faceW H.fc) ∧ lookF fl_cells hsFs (hsVs H) = some (.tup (H.cells.map Cl.w)) ∧ lookF fl_bodies hsFs (hsVs H) = some (.tup (H.bodies.map Bd.w)) ∧ lookF fl_body_by_door hsFs (hsVs H) = some (.dct (H.fc.doors.map .str) (H.bodies.map (bdW H.fc.size H.cells))) := ⟨rfl, rfl, rfl, rfl⟩
theorem lf {f : Fc} : lookF fl_size fcFs (fcVs f) = some (.int f.size) ∧ lookF fl_doors fcFs (fcVs f) = some (.tup (f.doors.map .str)) ∧ lookF fl_strangers fcFs (fcVs f) = some (.tup (f.far.map .str)) := ⟨rfl, rfl, rfl⟩
theorem ix_nat {i n : Nat} (h : i < n) : ixN n (i : Int) = some i := by
  rw [ixN, if_pos (by omega), if_pos (by omega)]; simp
theorem at_int {vs : List Int} {i : Nat} (h : i < vs.length) : atI (itW vs) (i : Int) = some (.int (vs.getD i 0)) := by
  rw [atI, List.length_map, ix_nat h]
  simp [h]
theorem lookN {s : Str} {ks : List Str} (h : s ∈ ks) : lookD (.str s) (ks.map .str) (ks.zipIdx.map fun p => .int (p.2 : Nat)) = some (.int ((ks.idxOf s : Nat) : Int)) := by
  have := lookD_ix (n := 0) h
  rw [Nat.zero_add] at this
  exact this
theorem atL1 {x : W} : atI [x] (-1) = some x := atLast (xs := [])
theorem atL2 {x y : W} : atI [x, y] (-1) = some y := atLast (xs := [x])
theorem all_len {sz : Int} {cs : List Cl} {b : Bd} : (allOf sz cs b).length = (namesOf cs b).length := by simp [allOf, ownOf, namesOf]
/-- worths are right -/
structure VOk (ns : List Str) (vs : List Int) : Prop where
  l : vs.length = ns.length
  s : ∀ v ∈ vs, v.natAbs < 2 ^ 20
structure ZOk (zs : List Int) : Prop where
  p : ∀ z ∈ zs, 0 < z ∧ z ≤ 1000
theorem zs_ok {f : Fc} {cs : List Cl} {b : Bd} (fo : f.Ok) (co : ∀ c ∈ cs, c.Ok) (bo : b.Ok f.far cs) : ZOk (allOf f.size cs b) := ⟨fun z hz => by
  simp only [allOf, ownOf, List.mem_append, List.mem_map, List.mem_cons] at hz
  rcases hz with ⟨c, hc, rfl⟩ | rfl | ⟨l, hl, rfl⟩
  · have := (co c hc).s; omega
  · have := fo.s; omega
  · have := (bo.k l hl).2; omega⟩
theorem z_get {zs : List Int} (z : ZOk zs) {i : Nat} (h : i < zs.length) : 0 < zs.getD i 1 ∧ zs.getD i 1 ≤ 1000 := by
  have := z.p zs[i] (List.getElem_mem h)
  simpa [h] using this
theorem putV_ok {ns : List Str} {zs vs : List Int} {x : Str} {v : Int} (z : ZOk zs) (lz : zs.length = ns.length) (hx : x ∈ ns) (o : VOk ns vs) : VOk ns (putV ns zs vs x v) := ⟨by simp [putV, o.l], fun w hw => by
  have hi : ns.idxOf x < zs.length := by rw [lz]; exact List.idxOf_lt_length_of_mem hx
  have q := z_get z hi
  rcases List.mem_or_eq_of_mem_set hw with h | h
  · exact o.s w h
  · have h1 := Int.emod_nonneg v (b := zs.getD (ns.idxOf x) 1) (by omega)
    have h2 := Int.emod_lt_of_pos v q.1
    rw [h]; omega⟩
theorem worth_sm {ns : List Str} {vs : List Int} {t : Thg} (o : VOk ns vs) (ok : t.Ok ns) : (worth ns vs t).natAbs < 2 ^ 20 := by
  cases t with
  | nm s =>
    have hi : ns.idxOf s < vs.length := by rw [o.l]; exact List.idxOf_lt_length_of_mem ok
    have := o.s vs[ns.idxOf s] (List.getElem_mem hi)
    simpa [worth, hi] using this
  | no n =>
    have ok : 0 ≤ n ∧ n ≤ 999 := ok
    simp only [worth]; omega
theorem od : (("-" : Str) = "+") = False ∧ (("*" : Str) = "+") = False ∧ (("=" : Str) = "+") = False ∧ (("<" : Str) = "+") = False ∧ (("*" : Str) = "-") = False ∧ (("=" : Str) = "-") = False ∧ (("<" : Str) = "-") = False ∧ (("=" : Str) = "*") = False ∧ (("<" : Str) = "*") = False ∧ (("<" : Str) = "=") = False := by decide +kernel
section
variable {k : Nat} {h : WH} {r : Nat} {vs : List Int} {sz : Int} {cs : List Cl} {b : Bd}
theorem worth_of_ok {t : Thg} (e : h[r]? = some (ltO vs)) (o : VOk (namesOf cs b) vs) (ok : t.Ok (namesOf cs b)) : prg (k + 1) i_houses_Body_worth_of [bdW sz cs b, .ref r, t.w] h = .ok (.int (worth (namesOf cs b) vs t)) h := by
  rw [r_houses_Body_worth_of (show [bdW sz cs b, W.ref r, t.w].length = 3 from rfl)]
  cases t with
  | nm s =>
    have ok : s ∈ namesOf cs b := ok
    have hi : (namesOf cs b).idxOf s < vs.length := by rw [o.l]; exact List.idxOf_lt_length_of_mem ok
    simp [-List.getD_eq_getElem?_getD, d_houses_Body_worth_of, Thg.w, tyW, kss, truW, insOf, lb, dIx, keyOfW, keyW, lookN ok, f_ixR e, at_int hi, worth]
  | no n => simp [d_houses_Body_worth_of, Thg.w, tyW, kis, truW, worth]
theorem put_in_ok {x : Str} {v : Int} (e : h[r]? = some (ltO vs)) (o : VOk (namesOf cs b) vs) (z : ZOk (allOf sz cs b)) (hx : x ∈ namesOf cs b) : prg (k + 1) i_houses_Body_put_in [bdW sz cs b, .ref r, .str x, .int v] h = .ok .non (h.set r (ltO (putV (namesOf cs b) (allOf sz cs b) vs x v))) := by
  rw [r_houses_Body_put_in (show [bdW sz cs b, W.ref r, W.str x, W.int v].length = 4 from rfl)]
  have hi : (namesOf cs b).idxOf x < vs.length := by rw [o.l]; exact List.idxOf_lt_length_of_mem hx
  have hz : (namesOf cs b).idxOf x < (allOf sz cs b).length := by rw [all_len]; exact List.idxOf_lt_length_of_mem hx
  have q := z_get z hz
  have ea : atI (itW (allOf sz cs b)) (((namesOf cs b).idxOf x : Nat) : Int) = some (.int ((allOf sz cs b).getD ((namesOf cs b).idxOf x) 1)) := by
    rw [at_int hz]
    simp [hz]
  have es : ∀ w, fSetI (.ref r) (.int (((namesOf cs b).idxOf x : Nat) : Int)) w h = some (h.set r (.lst ((itW vs).set ((namesOf cs b).idxOf x) w))) := fun w => setI_ok e (by rw [List.length_map]; exact ix_nat hi)
  simp [-List.getD_eq_getElem?_getD, d_houses_Body_put_in, insOf, lb, dIx, keyOfW, keyW, lookN hx, ea, q.1, es, putV]
  simp only [ltO, itW, List.map_set]
theorem reck_ok {o : Str} {x y : Int} (ho : o ∈ OPSL) (hx : x.natAbs < 2 ^ 20) (hy : y.natAbs < 2 ^ 20) : prg (k + 1) i_houses_reckoned [.str o, .int x, .int y] h = .ok (.int (recko o x y)) h := by
  rw [r_houses_reckoned (show [W.str o, W.int x, W.int y].length = 3 from rfl)]
  have m := mulB_of 20 hx hy (by decide)
  simp only [OPSL, List.mem_cons, List.not_mem_nil, or_false] at ho
  rcases ho with rfl | rfl | rfl | rfl | rfl
  · simp [d_houses_reckoned, eqS, recko]
  · simp [d_houses_reckoned, eqS, recko, od]
  · simp [d_houses_reckoned, eqS, recko, od, m]
  · simp [d_houses_reckoned, eqS, eqN, recko, od, bInt]
  · simp [d_houses_reckoned, eqS, recko, od, bInt]
theorem put_ok {x : Str} {t : Tld} (e : h[r]? = some (ltO vs)) (o : VOk (namesOf cs b) vs) (z : ZOk (allOf sz cs b)) (hx : x ∈ namesOf cs b) (ht : t.Ok (namesOf cs b)) : prg (k + 2) i_houses_Body_put [bdW sz cs b, .ref r, .str x, t.w] h = .ok .non (h.set r (ltO (putV (namesOf cs b) (allOf sz cs b) vs x (toldV (namesOf cs b) vs t)))) := by
  rw [r_houses_Body_put (show [bdW sz cs b, W.ref r, W.str x, t.w].length = 4 from rfl)]
  have m1 : mtT c_Body mt_put_in = some i_houses_Body_put_in := rfl
  have m2 : mtT c_Body mt_worth_of = some i_houses_Body_worth_of := rfl
  have P := fun v => put_in_ok (k := k) (v := v) e o z hx
  cases t with
  | th t =>
    have w := worth_of_ok (k := k) (sz := sz) e o (show t.Ok (namesOf cs b) from ht)
    cases t with
    | nm s =>
      simp only [Thg.w] at w
      simp [d_houses_Body_put, Tld.w, Thg.w, tyW, kst, truW, dMt, insOf, m1, m2, w, P, toldV]
    | no n =>
      simp only [Thg.w] at w
      simp [d_houses_Body_put, Tld.w, Thg.w, tyW, kit, truW, dMt, insOf, m1, m2, w, P, toldV]
  | op q a c =>
    obtain ⟨hq, ha, hc⟩ := ht
    have w1 := worth_of_ok (k := k) (sz := sz) e o ha
    have w2 := worth_of_ok (k := k) (sz := sz) e o hc
    have w3 := reck_ok (k := k) (h := h) hq (worth_sm o ha) (worth_sm o hc)
    simp [d_houses_Body_put, Tld.w, tyW, ktt, truW, tg3, dMt, insOf, m1, m2, w1, w2, w3, P, toldV]
theorem row_at {i : Nat} {q : Row} (hr : b.rows[i]? = some q) : atI (b.rows.map Row.w) (i : Int) = some q.w := by
  have hi := (List.getElem?_eq_some_iff.mp hr).1
  rw [atI, List.length_map, ix_nat hi]
  simp [hr]
theorem onward_ok {i : Nat} {q : Row} {far : List Str} (e : h[r]? = some (ltO vs)) (o : VOk (namesOf cs b) vs) (z : ZOk (allOf sz cs b)) (hr : b.rows[i]? = some q) (ok : q.Ok far (namesOf cs b) b.rows.length) :
    prg (k + 3) i_houses_Body_onward [bdW sz cs b, .ref r, .int (i : Int)] h = .ok (.int ((stp (namesOf cs b) (allOf sz cs b) vs i q).1 : Nat)) (h.set r (ltO (stp (namesOf cs b) (allOf sz cs b) vs i q).2)) := by
  rw [r_houses_Body_onward (show [bdW sz cs b, W.ref r, W.int (i : Int)].length = 3 from rfl)]
  have m1 : mtT c_Body mt_put = some i_houses_Body_put := rfl
  have m2 : mtT c_Body mt_worth_of = some i_houses_Body_worth_of := rfl
  have hs := set_self e
  have ra := row_at hr
  cases q with
  | put x t =>
    have P := put_ok (k := k) e o z ok.1 ok.2
    simp [d_houses_Body_onward, insOf, lb, ra, Row.w, eqS, dMt, m1, P, wd2, wd3, stp]
  | go j => simp [d_houses_Body_onward, insOf, lb, ra, Row.w, eqS, wd1, atL1, stp, ← hs]
  | whn t j =>
    have w := worth_of_ok (k := k + 1) (sz := sz) e o ok.1
    by_cases c : worth (namesOf cs b) vs t = 0 <;> simp [d_houses_Body_onward, insOf, lb, ra, Row.w, eqS, eqN, wd1, wd2, atL2, stp, dMt, m2, w, c, ← hs]
  | ask p t x => simp [d_houses_Body_onward, insOf, lb, ra, Row.w, eqS, wd1, wd2, wd3, stp, ← hs]
  | tell t => simp [d_houses_Body_onward, insOf, lb, ra, Row.w, eqS, wd1, wd2, wd3, stp, ← hs]
  | halt => simp [d_houses_Body_onward, insOf, lb, ra, Row.w, eqS, wd1, wd2, wd3, stp, ← hs]
theorem stp_ok {i : Nat} {q : Row} {far ns : List Str} {zs : List Int} {many : Nat} (o : VOk ns vs) (z : ZOk zs) (lz : zs.length = ns.length) (hi : i < many) (ok : q.Ok far ns many) : (stp ns zs vs i q).1 ≤ many ∧ VOk ns (stp ns zs vs i q).2 := by
  cases q with
  | put x t => exact ⟨hi, putV_ok z lz ok.1 o⟩
  | go j => exact ⟨ok, o⟩
  | whn t j =>
    simp only [stp]
    split
    · exact ⟨ok.2, o⟩
    · exact ⟨hi, o⟩
  | _ => exact ⟨hi, o⟩
/-! going along -/
theorem nk_int (l : List Int) : nkWs (itW l) = some (l.map .num) := by
  induction l with
  | nil => rfl
  | cons a l ih =>
    simp only [itW, List.map_cons, nkWs, nkW] at ih ⊢
    rw [ih]
theorem dep_int (l : List Int) : NestedKey.depthAll (l.map .num) = 0 := by
  induction l with
  | nil => rfl
  | cons a l ih => simp [NestedKey.depthAll, NestedKey.depth, ih]
abbrev seW (p : Nat × List Int) : W := .tup [.int (p.1 : Nat), .tup (itW p.2)]
abbrev seK (p : Nat × List Int) : NestedKey := .tup [.num (p.1 : Nat), .tup (p.2.map .num)]
theorem nk_se (p : Nat × List Int) : nkT (seW p) = some (seK p) := by
  have : nkW (seW p) = some (seK p) := by simp [nkW, nkWs, nk_int]
  unfold nkT
  simp only [this]
  rw [if_pos]
  simp [NestedKey.depth, NestedKey.depthAll, dep_int]
theorem se_inj {p q : Nat × List Int} (e : nkW (seW q) = some (seK p)) : q = p := by
  have e2 : nkW (seW q) = some (seK q) := by simp [nkW, nkWs, nk_int]
  rw [e2] at e
  simp only [seK, Option.some.injEq, NestedKey.tup.injEq, List.cons.injEq, NestedKey.num.injEq, and_true] at e
  obtain ⟨e1, e3⟩ := e
  have := List.map_inj_right (f := NestedKey.num) (fun _ _ z => by simpa using z) |>.mp e3
  exact Prod.ext (by omega) this
abbrev tdO (s : List (Nat × List Int)) : Ob := .td (s.map seW) (s.map fun _ => .bl true)
theorem get_no {p : Nat × List Int} : ∀ {s : List (Nat × List Int)}, p ∉ s → getT (seK p) (s.map seW) (s.map fun _ => .bl true) = none
  | [], _ => rfl
  | q :: s, hn => by
    have h1 : ¬ nkW (seW q) = some (seK p) := fun e => hn (se_inj e ▸ List.mem_cons_self ..)
    simp only [List.map_cons, getT, if_neg h1, get_no (fun z => hn (List.mem_cons_of_mem _ z))]
theorem get_yes {p : Nat × List Int} : ∀ {s : List (Nat × List Int)}, p ∈ s → getT (seK p) (s.map seW) (s.map fun _ => .bl true) = some (.bl true)
  | q :: s, hm => by
    by_cases h1 : nkW (seW q) = some (seK p)
    · simp only [List.map_cons, getT, if_pos h1]
    · have hm : p ∈ s := by
        rcases List.mem_cons.mp hm with z | z
        · subst z; exact absurd (by simp [nkW, nkWs, nk_int]) h1
        · exact z
      simp only [List.map_cons, getT, if_neg h1, get_yes hm]
theorem put_se {p : Nat × List Int} : ∀ {s : List (Nat × List Int)}, p ∉ s → putT (seK p) (seW p) (.bl true) (s.map seW) (s.map fun _ => .bl true) = ((s ++ [p]).map seW, (s ++ [p]).map fun _ => .bl true)
  | [], _ => rfl
  | q :: s, hn => by
    have h1 : ¬ nkW (seW q) = some (seK p) := fun e => hn (se_inj e ▸ List.mem_cons_self ..)
    simp only [List.map_cons, putT, if_neg h1, put_se (fun z => hn (List.mem_cons_of_mem _ z)), List.cons_append]
/-- the loop's parts -/
def glC : EB := (dAndT (dTst (dOp (fInt fun i j => decide (i < j)) (dVar 2) (dBi bLen (aCons (dFld (dVar 0) fl_all_rows) (aNil))))) (dTst (dOp (fIn true) (dOp fIx (dOp fIx (dFld (dVar 0) fl_all_rows) (dVar 2)) (dC (.int 0))) (dTup (aCons (dC (.str ("ask" : Str))) (aCons (dC (.str ("tell" : Str))) (aCons (dC (.str ("halt" : Str))) (aNil))))))))
def glB (Φ : Fns) : EW := (sSeq (sSet 4 (dTup (aCons (dVar 2) (aCons (dBi bTup (aCons (dVar 1) (aNil))) (aNil)))))
 (sSeq (sIf (dTst (dOp (fIn false) (dVar 4) (dVar 3))) (sSeq (sRet (dC .non))
 (sNil)) (sNil))
 (sSeq (sSetI (dVar 3) (dVar 4) (dC (.bl true)))
 (sSeq (sSet 2 (dMt mtT Φ mt_onward (dVar 0) (aCons (dVar 1) (aCons (dVar 2) (aNil)))))
 (sNil)))))
theorem fin3 {s : Str} {g : WH} : fIn true (.str s) (.tup [.str ("ask" : Str), .str ("tell" : Str), .str ("halt" : Str)]) g = .ok (.bl (!decide (s ∈ (["ask", "tell", "halt"] : List Str)))) g :=
  fnot_strs (s := s) (ss := ["ask", "tell", "halt"])
section
variable {k : Nat} {g : WH} {r d : Nat} {vs : List Int} {sz : Int} {cs : List Cl} {b : Bd} {i : Nat} {s4 : Option W}
abbrev glS (sz : Int) (cs : List Cl) (b : Bd) (r d i : Nat) (s4 : Option W) : WS := [some (bdW sz cs b), some (.ref r), some (.int (i : Nat)), some (.ref d), s4]
theorem gl_end (hi : b.rows.length = i) : glC (glS sz cs b r d i s4) g = .ok false g := by
  simp [glC, insOf, lb, bLen, seqOf, hi]
theorem gl_cond {q : Row} (hr : b.rows[i]? = some q) : glC (glS sz cs b r d i s4) g = .ok q.sil g := by
  have hi := (List.getElem?_eq_some_iff.mp hr).1
  have hi' : (i : Int) < b.rows.length := by omega
  have ra := row_at hr
  cases q <;> simp [glC, insOf, lb, bLen, seqOf, hi', ra, Row.w, fin3, lm, Row.sil, wd4, wd5, wd6] <;> simp [hi, ra, Row.w, fin3, wd4, wd5, wd6]
theorem gl_step {q : Row} {far : List Str} {s : List (Nat × List Int)} {h : WH} (hr : b.rows[i]? = some q) (ok : q.Ok far (namesOf cs b) b.rows.length) (e : r < h.length) (o : VOk (namesOf cs b) vs) (z : ZOk (allOf sz cs b)) (hn : (i, vs) ∉ s) (hl : s.length < lim) (lv : vs.length ≤ 200) :
    ∃ s4', glB (prg (k + 3)) (glS sz cs b r h.length i s4) (h.set r (ltO vs) ++ [tdO s]) = .ok (.next (glS sz cs b r h.length (stp (namesOf cs b) (allOf sz cs b) vs i q).1 s4')) (h.set r (ltO (stp (namesOf cs b) (allOf sz cs b) vs i q).2) ++ [tdO (s ++ [(i, vs)])]) := by
  have m1 : mtT c_Body mt_onward = some i_houses_Body_onward := rfl
  have g1 : (h.set r (ltO vs) ++ [tdO s])[r]? = some (ltO vs) := sa_get e
  have g2 : (h.set r (ltO vs) ++ [tdO s])[h.length]? = some (tdO s) := sa_end
  have g3 : (h.set r (ltO vs) ++ [tdO (s ++ [(i, vs)])])[r]? = some (ltO vs) := sa_get e
  have P := onward_ok (k := k) g3 o z hr ok
  rw [sa_set e] at P
  have f1 : fIn false (seW (i, vs)) (.ref h.length) (h.set r (ltO vs) ++ [tdO s]) = .ok (.bl false) (h.set r (ltO vs) ++ [tdO s]) := by
    rw [f_inT g2]
    simp only [tIn, nk_se, get_no hn]
    rfl
  have f2 : fSetI (.ref h.length) (seW (i, vs)) (.bl true) (h.set r (ltO vs) ++ [tdO s]) = some (h.set r (ltO vs) ++ [tdO (s ++ [(i, vs)])]) := by
    simp only [fSetI, g2, nk_se, List.length_map, if_pos hl, put_se hn, sa_setE]
  refine ⟨some (seW (i, vs)), ?_⟩
  simp only [seW] at f1 f2
  simp [glB, bTup, lstOf, g1, lm, f1, f2, dMt, insOf, m1, P]
theorem gl_seen {q : Row} {s : List (Nat × List Int)} {h : WH} (e : r < h.length) (hn : (i, vs) ∈ s) :
    glB (prg (k + 3)) (glS sz cs b r h.length i s4) (h.set r (ltO vs) ++ [tdO s]) = .ok (.ret .non) (h.set r (ltO vs) ++ [tdO s]) := by
  have g1 : (h.set r (ltO vs) ++ [tdO s])[r]? = some (ltO vs) := sa_get e
  have g2 : (h.set r (ltO vs) ++ [tdO s])[h.length]? = some (tdO s) := sa_end
  have f1 : fIn false (seW (i, vs)) (.ref h.length) (h.set r (ltO vs) ++ [tdO s]) = .ok (.bl true) (h.set r (ltO vs) ++ [tdO s]) := by
    rw [f_inT g2]
    simp only [tIn, nk_se, get_yes hn]
    rfl
  simp only [seW] at f1
  simp [glB, bTup, lstOf, g1, lm, f1]
theorem gl_loop {far : List Str} {h : WH} (ok : ∀ x ∈ b.rows, x.Ok far (namesOf cs b) b.rows.length) (e : r < h.length) (z : ZOk (allOf sz cs b)) (nl : (namesOf cs b).length ≤ 200) : ∀ (n : Nat) (s : List (Nat × List Int)) (i : Nat) (vs : List Int) (s4 : Option W) (a : Option Nat) (vs' : List Int), run (namesOf cs b) (allOf sz cs b) b.rows n s i vs = some (a, vs') → VOk (namesOf cs b) vs → i ≤ b.rows.length → s.length + n < lim →
    (a = none ∧ ∃ s', whlL glC (glB (prg (k + 3))) n (glS sz cs b r h.length i s4) (h.set r (ltO vs) ++ [tdO s]) = .ok (.ret .non) (h.set r (ltO vs') ++ [tdO s'])) ∨
    (∃ s' s4' j, whlL glC (glB (prg (k + 3))) n (glS sz cs b r h.length i s4) (h.set r (ltO vs) ++ [tdO s]) = .ok (.next (glS sz cs b r h.length j s4')) (h.set r (ltO vs') ++ [tdO s']) ∧ ((b.rows.length = j ∧ a = none) ∨ (b.rows[j]? = some .halt ∧ a = none) ∨ ∃ q, b.rows[j]? = some q ∧ q.sil = false ∧ q ≠ .halt ∧ a = some j))
  | 0, s, i, vs, s4, a, vs', he, _, _, _ => by simp [run] at he
  | n + 1, s, i, vs, s4, a, vs', he, o, hi, hl => by
    unfold run at he
    cases hr : b.rows[i]? with
    | none =>
      rw [hr] at he
      have hj : b.rows.length = i := by have := List.getElem?_eq_none_iff.mp hr; omega
      simp only [Option.some.injEq, Prod.mk.injEq] at he
      obtain ⟨rfl, rfl⟩ := he
      refine .inr ⟨s, s4, i, ?_, .inl ⟨hj, rfl⟩⟩
      unfold whlL
      rw [gl_end hj]
      simp
    | some q =>
      rw [hr] at he
      simp only at he
      have hlt := (List.getElem?_eq_some_iff.mp hr).1
      have okq : q.Ok far (namesOf cs b) b.rows.length := ok q (List.mem_of_getElem? hr)
      cases hs : q.sil with
      | false =>
        rw [hs] at he
        simp only [Bool.false_eq_true, if_false, Option.some.injEq, Prod.mk.injEq] at he
        obtain ⟨ha, rfl⟩ := he
        refine .inr ⟨s, s4, i, ?_, ?_⟩
        · unfold whlL
          rw [gl_cond hr, hs]
          simp
        · cases q with
          | halt => exact .inr (.inl ⟨hr, ha.symm⟩)
          | ask p t x => exact .inr (.inr ⟨_, hr, rfl, by simp, ha.symm⟩)
          | tell t => exact .inr (.inr ⟨_, hr, rfl, by simp, ha.symm⟩)
          | put x t => simp [Row.sil] at hs
          | go j => simp [Row.sil] at hs
          | whn t j => simp [Row.sil] at hs
      | true =>
        rw [hs] at he
        simp only [if_true] at he
        by_cases hm : (i, vs) ∈ s
        · rw [if_pos hm] at he
          simp only [Option.some.injEq, Prod.mk.injEq] at he
          obtain ⟨rfl, rfl⟩ := he
          refine .inl ⟨rfl, s, ?_⟩
          unfold whlL
          rw [gl_cond hr, hs]
          simp [gl_seen (q := q) (k := k) e hm]
        · rw [if_neg hm] at he
          have so := stp_ok (i := i) o z all_len hlt okq
          obtain ⟨s4', gs⟩ := gl_step (k := k) (s4 := s4) hr okq e o z hm (by omega) (by rw [o.l]; exact nl)
          have ih := gl_loop ok e z nl n (s ++ [(i, vs)]) _ _ s4' a vs' he so.2 so.1 (by simp only [List.length_append, List.length_singleton]; omega)
          have ew : whlL glC (glB (prg (k + 3))) (n + 1) (glS sz cs b r h.length i s4) (h.set r (ltO vs) ++ [tdO s]) = whlL glC (glB (prg (k + 3))) n (glS sz cs b r h.length (stp (namesOf cs b) (allOf sz cs b) vs i q).1 s4') (h.set r (ltO (stp (namesOf cs b) (allOf sz cs b) vs i q).2) ++ [tdO (s ++ [(i, vs)])]) := by
            conv => lhs; unfold whlL
            rw [gl_cond hr, hs]
            simp [gs]
          rw [ew]
          exact ih
end
end
end KW.P

set_option linter.all false
set_option maxRecDepth 100000
set_option maxHeartbeats 4000000
/-! houses: knock and answer -/
namespace KW.P
open PySem L2 KW TL
section
variable {k : Nat} {h : WH} {r : Nat} {vs : List Int} {sz : Int} {cs : List Cl} {b : Bd} {i : Nat}
theorem glB_eq (Φ : Fns) : d_houses_Body_gone_along Φ = sSeq (sSet 3 dTd) (sSeq (whlL glC (glB Φ) 10000)
 (sSeq (sIf (dOrT (dTst (dOp (fEq false) (dVar 2) (dBi bLen (aCons (dFld (dVar 0) fl_all_rows) (aNil))))) (dTst (dOp (fEq false) (dOp fIx (dOp fIx (dFld (dVar 0) fl_all_rows) (dVar 2)) (dC (.int 0))) (dC (.str ("halt" : Str)))))) (sSeq (sRet (dC .non))
 (sNil)) (sNil))
 (sSeq (sRet (dVar 2))
 (sNil)))) := rfl
def rowW : Option Nat → W | none => .non | some a => .int (a : Nat)
theorem gone_ok {far : List Str} {a : Option Nat} {vs' : List Int} (e : h[r]? = some (ltO vs)) (o : VOk (namesOf cs b) vs) (z : ZOk (allOf sz cs b)) (bo : b.Ok far cs) (hi : i ≤ b.rows.length)
    (hr : run (namesOf cs b) (allOf sz cs b) b.rows 10000 [] i vs = some (a, vs')) : prg (k + 4) i_houses_Body_gone_along [bdW sz cs b, .ref r, .int (i : Nat)] h = .ok (rowW a) (h.set r (ltO vs')) := by
  rw [r_houses_Body_gone_along (show [bdW sz cs b, W.ref r, W.int (i : Nat)].length = 3 from rfl), glB_eq]
  have hl := (List.getElem?_eq_some_iff.mp e).1
  have hh := set_self e
  have gg : ∀ (w : W) (s' : List (Nat × List Int)), w.lt h.length = true → gc h.length w h (h.set r (ltO vs') ++ [tdO s']) = h.set r (ltO vs') := fun w s' hw =>
    gc_drop (by simp) hw fun j hj => by
      by_cases ej : j = r
      · subst ej
        exact .inr ⟨ltO vs', List.getElem?_set_self hl, by simp only [Ob.lt, ints_lt]⟩
      · exact .inl (List.getElem?_set_ne (Ne.symm ej))
  have L := gl_loop (k := k) (h := h) bo.r hl z (by have := bo.l; omega) 10000 [] i vs none a vs' hr o hi (by simp [lim])
  rw [← hh] at L
  have t0 : tdO [] = Ob.td [] [] := rfl
  rw [t0] at L
  simp only [List.map_cons, List.map_nil, List.replicate, List.cons_append, List.nil_append]
  simp only [x_seq, x_set, x_td, x_st, q_next, List.set_cons_succ, List.set_cons_zero]
  rcases L with ⟨rfl, s', L⟩ | ⟨s', s4', j, L, c⟩
  · rw [L]
    simp only [q_ret, fin_ret, gg .non s' rfl, rowW]
  · rw [L]
    simp only [q_next]
    rcases c with ⟨hj, rfl⟩ | ⟨hj, rfl⟩ | ⟨q, hj, hs, hq, rfl⟩
    · have : (j : Int) = b.rows.length := by omega
      simp [insOf, lb, bLen, seqOf, eqN, this, gg .non s' rfl, rowW]
    · have ra := row_at hj
      have hj' := (List.getElem?_eq_some_iff.mp hj).1
      have n1 : ¬ (j : Int) = b.rows.length := by omega
      have n2 : ¬ j = b.rows.length := by omega
      simp [insOf, lb, bLen, seqOf, eqN, eqS, n1, n2, ra, Row.w, gg .non s' rfl, rowW]
    · have ra := row_at hj
      have hj' := (List.getElem?_eq_some_iff.mp hj).1
      have n1 : ¬ (j : Int) = b.rows.length := by omega
      have n2 : ¬ j = b.rows.length := by omega
      cases q with
      | ask p t x => simp [insOf, lb, bLen, seqOf, eqN, eqS, n1, n2, ra, Row.w, wd6, gg (.int (j : Nat)) s' rfl, rowW]
      | tell t => simp [insOf, lb, bLen, seqOf, eqN, eqS, n1, n2, ra, Row.w, wd6, gg (.int (j : Nat)) s' rfl, rowW]
      | halt => exact absurd rfl hq
      | put x t => simp [Row.sil] at hs
      | go j => simp [Row.sil] at hs
      | whn t j => simp [Row.sil] at hs
/-- a reply of a house -/
inductive Rp | dead | tell (n : Int) (st : List Int) | ask (p : Str) (n : Int) (st : List Int) (door : Str) (row : Nat) (own : List Int)
def Rp.w : Rp → W
  | .dead => .tup [.str "dead"]
  | .tell n st => .tup [.str "tell", .int n, .tup (itW st)]
  | .ask p n st d r own => .tup [.str "ask", .str p, .int n, .tup (itW st), .tup [.str d, .int (r : Nat), .tup (itW own)]]
def rpOf (sz : Int) (ns : List Str) (many : Nat) (door : Str) (rows : List Row) : Option Nat × List Int → Rp
  | (none, _) => .dead
  | (some a, vs) => match rows[a]? with
    | some (.tell t) => .tell (worth ns vs t % sz) (vs.take many)
    | some (.ask p t _) => .ask p (worth ns vs t % sz) (vs.take many) door a (vs.drop many)
    | _ => .dead
theorem rp_lt {p : Rp} {n : Nat} : p.w.lt n = true := by cases p <;> simp [Rp.w, W.lt, W.lts, ints_lt]
theorem look_door {g : Bd → W} : ∀ {ds : List Str} {bs : List Bd} {j : Nat} {d : Str} {b : Bd}, ds.Nodup → ds[j]? = some d → bs[j]? = some b → lookD (.str d) (ds.map .str) (bs.map g) = some (g b)
  | [], _, _, _, _, _, h1, _ => by simp at h1
  | _ :: _, [], _, _, _, _, _, h2 => by simp at h2
  | x :: ds, y :: bs, 0, d, b, _, h1, h2 => by
    simp only [List.getElem?_cons_zero, Option.some.injEq] at h1 h2
    subst h1; subst h2
    simp [lookD]
  | x :: ds, y :: bs, j + 1, d, b, nd, h1, h2 => by
    simp only [List.getElem?_cons_succ] at h1 h2
    have hx : ¬ x = d := fun z => (List.nodup_cons.mp nd).1 (z ▸ List.mem_of_getElem? h1)
    simp only [List.map_cons, lookD, W.str.injEq, if_neg hx]
    exact look_door (List.nodup_cons.mp nd).2 h1 h2
theorem cut_to {vs : List Int} {m : Nat} (h : m ≤ vs.length) : cutW (itW vs) none (some (m : Int)) = itW (vs.take m) := by
  simp only [cutW, HT.sIx, List.length_map, if_neg (show ¬ (m : Int) < 0 by omega), Int.toNat_natCast, Nat.min_eq_left h]
  simp [itW, List.map_take]
theorem cut_from {vs : List Int} {m : Nat} (h : m ≤ vs.length) : cutW (itW vs) (some (m : Int)) none = itW (vs.drop m) := by
  simp only [cutW, HT.sIx, List.length_map, if_neg (show ¬ (m : Int) < 0 by omega), Int.toNat_natCast, Nat.min_eq_left h]
  rw [List.take_of_length_le (by simp)]
  simp [itW, List.map_drop]
theorem run_end {ns : List Str} {zs : List Int} {rows : List Row} : ∀ {n : Nat} {s : List (Nat × List Int)} {i : Nat} {vs : List Int} {a : Nat} {vs' : List Int}, run ns zs rows n s i vs = some (some a, vs') → ∃ q, rows[a]? = some q ∧ q.sil = false ∧ q ≠ .halt
  | 0, _, _, _, _, _, h => by simp [run] at h
  | n + 1, s, i, vs, a, vs', h => by
    unfold run at h
    split at h
    · simp at h
    · rename_i q hq
      split at h
      · split at h
        · simp at h
        · exact run_end h
      · rename_i hs
        simp only [Option.some.injEq, Prod.mk.injEq] at h
        cases q with
        | halt => simp at h
        | ask p t x => simp only [Option.some.injEq] at h; exact ⟨_, h.1 ▸ hq, rfl, by simp⟩
        | tell t => simp only [Option.some.injEq] at h; exact ⟨_, h.1 ▸ hq, rfl, by simp⟩
        | put x t => simp [Row.sil] at hs
        | go j => simp [Row.sil] at hs
        | whn t j => simp [Row.sil] at hs
theorem run_ok {ns : List Str} {zs : List Int} {rows : List Row} {far : List Str} (z : ZOk zs) (lz : zs.length = ns.length) (ok : ∀ x ∈ rows, x.Ok far ns rows.length) : ∀ {n : Nat} {s : List (Nat × List Int)} {i : Nat} {vs : List Int} {a : Option Nat} {vs' : List Int}, run ns zs rows n s i vs = some (a, vs') → VOk ns vs → VOk ns vs'
  | 0, _, _, _, _, _, h, _ => by simp [run] at h
  | n + 1, s, i, vs, a, vs', h, o => by
    unfold run at h
    split at h
    · simp only [Option.some.injEq, Prod.mk.injEq] at h; exact h.2 ▸ o
    · rename_i q hq
      split at h
      · split at h
        · simp only [Option.some.injEq, Prod.mk.injEq] at h; exact h.2 ▸ o
        · exact run_ok z lz ok h (stp_ok o z lz (List.getElem?_eq_some_iff.mp hq).1 (ok q (List.mem_of_getElem? hq))).2
      · simp only [Option.some.injEq, Prod.mk.injEq] at h; exact h.2 ▸ o
/-- a door's body in a right house -/
structure Door (H : Hs) (d : Str) (b : Bd) : Prop where
  ok : H.Ok
  at_ : ∃ j : Nat, H.fc.doors[j]? = some d ∧ H.bodies[j]? = some b
theorem Door.bo {H : Hs} {d : Str} {b : Bd} (D : Door H d b) : b.Ok H.fc.far H.cells := by
  obtain ⟨j, _, h2⟩ := D.at_
  exact D.ok.b b (List.mem_of_getElem? h2)
theorem Door.z {H : Hs} {d : Str} {b : Bd} (D : Door H d b) : ZOk (allOf H.fc.size H.cells b) := zs_ok D.ok.f D.ok.c D.bo
theorem Door.look {H : Hs} {d : Str} {b : Bd} (D : Door H d b) : lookD (.str d) (H.fc.doors.map .str) (H.bodies.map (bdW H.fc.size H.cells)) = some (bdW H.fc.size H.cells b) := by
  obtain ⟨j, h1, h2⟩ := D.at_
  exact look_door D.ok.f.dn h1 h2
theorem said_ok {H : Hs} {d : Str} {x : Option Nat × List Int} (D : Door H d b) (e : h[r]? = some (ltO vs)) (o : VOk (namesOf H.cells b) vs) (hi : i ≤ b.rows.length)
    (hr : run (namesOf H.cells b) (allOf H.fc.size H.cells b) b.rows 10000 [] i vs = some x) :
    prg (k + 5) i_houses_House_said [hsW H, .str d, .ref r, .int (i : Nat)] h = .ok (rpOf H.fc.size (namesOf H.cells b) H.cells.length d b.rows x).w (h.set r (ltO x.2)) := by
  obtain ⟨a, vs'⟩ := x
  rw [r_houses_House_said (show [hsW H, W.str d, W.ref r, W.int (i : Nat)].length = 4 from rfl)]
  have m1 : mtT c_Body mt_gone_along = some i_houses_Body_gone_along := rfl
  have m2 : mtT c_Body mt_worth_of = some i_houses_Body_worth_of := rfl
  have G := gone_ok (k := k) (sz := H.fc.size) e o D.z D.bo hi hr
  have o' := run_ok D.z all_len D.bo.r hr o
  have e' : (h.set r (ltO vs'))[r]? = some (ltO vs') := get_same e
  have sz0 : 0 < H.fc.size := by have := D.ok.f.s; omega
  have ml : H.cells.length ≤ vs'.length := by rw [o'.l]; simp [namesOf]
  cases a with
  | none =>
    simp only [rowW] at G
    simp [d_houses_House_said, insOf, lh, dIx, keyOfW, keyW, D.look, dMt, m1, G, fIs, rpOf, Rp.w, gc_set]
  | some a =>
    obtain ⟨q, hq, hs, hh⟩ := run_end hr
    have ra := row_at hq
    simp only [rowW] at G
    have c1 : ∀ m, fSl m (.ref r) none (some (H.cells.length : Int)) (h.set r (ltO vs')) = newL m (itW (vs'.take H.cells.length)) (h.set r (ltO vs')) := fun m => by
      simp only [fSl, lstOf, e', cut_to ml]
    have c2 : ∀ m, fSl m (.ref r) (some (H.cells.length : Int)) none (h.set r (ltO vs')) = newL m (itW (vs'.drop H.cells.length)) (h.set r (ltO vs')) := fun m => by
      simp only [fSl, lstOf, e', cut_from ml]
    cases q with
    | tell t =>
      have w := worth_of_ok (k := k + 3) (sz := H.fc.size) e' o' (D.bo.r _ (List.mem_of_getElem? hq) : t.Ok _)
      simp [-List.map_take, -List.map_drop, d_houses_House_said, insOf, lh, lf, lb, dIx, keyOfW, keyW, D.look, dMt, m1, m2, G, fIs, rpOf, Rp.w, gc_set, bLen, seqOf, c1, c2, bTup, lstOf, ra, Row.w, eqS, w, sz0, lm, hq]
    | ask p t y =>
      have ok := D.bo.r _ (List.mem_of_getElem? hq)
      have w := worth_of_ok (k := k + 3) (sz := H.fc.size) e' o' (ok.2.1 : t.Ok _)
      simp [-List.map_take, -List.map_drop, d_houses_House_said, insOf, lh, lf, lb, dIx, keyOfW, keyW, D.look, dMt, m1, m2, G, fIs, rpOf, Rp.w, gc_set, bLen, seqOf, c1, c2, bTup, lstOf, ra, Row.w, eqS, wd5, w, sz0, lm, hq]
    | halt => exact absurd rfl hh
    | put x t => simp [Row.sil] at hs
    | go j => simp [Row.sil] at hs
    | whn t j => simp [Row.sil] at hs
/-- worths at a knock -/
def vKnock (b : Bd) (st : List Int) (n : Int) : List Int := st ++ [n] ++ List.replicate b.kept.length 0
theorem knock_ok {H : Hs} {d : Str} {st : List Int} {n : Int} {x : Option Nat × List Int} (D : Door H d b) (ls : st.length = H.cells.length) (ss : ∀ v ∈ st, v.natAbs < 2 ^ 20) (hn : n.natAbs < 2 ^ 20)
    (hr : run (namesOf H.cells b) (allOf H.fc.size H.cells b) b.rows 10000 [] 0 (vKnock b st n) = some x) :
    prg (k + 6) i_houses_House_knock [hsW H, .tup (itW st), .str d, .int n] h = .ok (rpOf H.fc.size (namesOf H.cells b) H.cells.length d b.rows x).w h := by
  rw [r_houses_House_knock (show [hsW H, W.tup (itW st), W.str d, W.int n].length = 4 from rfl)]
  have m1 : mtT c_House mt_said = some i_houses_House_said := rfl
  have o : VOk (namesOf H.cells b) (vKnock b st n) := ⟨by simp [vKnock, namesOf, ls], fun v hv => by
    simp only [vKnock, List.mem_append, List.mem_singleton, List.mem_replicate] at hv
    rcases hv with (hv | rfl) | ⟨_, rfl⟩
    · exact ss v hv
    · exact hn
    · decide⟩
  have g1 : (h ++ [ltO (vKnock b st n)])[h.length]? = some (ltO (vKnock b st n)) := get_end
  have S := said_ok (k := k) (i := 0) D g1 o (Nat.zero_le _) hr
  have nl := D.bo.l
  have kl : b.kept.length < 200 := by simp [namesOf] at nl; omega
  have sl : st.length < 200 := by have := D.ok.cl; omega
  have a1 : ∀ g : WH, fAdd false (.lst (itW st)) (.lst [.int n]) g = .ok (.lst (itW st ++ [.int n])) g := fun g => by
    simp [fAdd, lstOf]; unfold lim; omega
  have a2 : ∀ g : WH, fMul false (.lst [.int 0]) (.int (b.kept.length : Int)) g = .ok (.lst (List.replicate b.kept.length (.int 0))) g := fun g => by
    have : (List.replicate b.kept.length [W.int 0]).flatten = List.replicate b.kept.length (.int 0) := by
      induction b.kept.length with
      | zero => rfl
      | succ n ih => simp [List.replicate_succ, ih]
    simp only [fMul, lstOf]
    rw [if_pos ⟨by omega, by omega, by simp; unfold lim; omega⟩, Int.toNat_natCast, this]
    rfl
  have a3 : fAdd true (.lst (itW st ++ [.int n])) (.lst (List.replicate b.kept.length (.int 0))) h = .ok (.ref h.length) (h ++ [ltO (vKnock b st n)]) := by
    simp only [fAdd, lstOf]
    rw [if_pos (by simp; unfold lim; omega)]
    simp [ltO, itW, vKnock]
  have ol : ((ownOf H.fc.size b).length : Int) - 1 = b.kept.length := by simp [ownOf]
  have gg : gc h.length (rpOf H.fc.size (namesOf H.cells b) H.cells.length d b.rows x).w h (h ++ [ltO x.2]) = h := by
    refine gc_drop rfl rp_lt fun i _ => .inl rfl
  have se : (h ++ [ltO (vKnock b st n)]).set h.length (ltO x.2) = h ++ [ltO x.2] := by
    rw [List.set_append_right _ _ (Nat.le_refl _)]; simp
  rw [se] at S
  rw [Int.natCast_zero] at S
  simp [d_houses_House_knock, insOf, lh, lb, dIx, keyOfW, keyW, D.look, bList, seqOf, a1, lm, bLen, lstOf, ol, a2, a3, dMt, m1, S, gg]
/-- worths at an answer -/
theorem answer_ok {H : Hs} {d : Str} {st own : List Int} {n : Int} {row : Nat} {p y : Str} {t : Thg} {x : Option Nat × List Int} (D : Door H d b) (ls : st.length = H.cells.length) (lo : own.length = (ownOf H.fc.size b).length) (ss : ∀ v ∈ st, v.natAbs < 2 ^ 20) (so : ∀ v ∈ own, v.natAbs < 2 ^ 20)
    (hq : b.rows[row]? = some (.ask p t y))
    (hr : run (namesOf H.cells b) (allOf H.fc.size H.cells b) b.rows 10000 [] (row + 1) (putV (namesOf H.cells b) (allOf H.fc.size H.cells b) (st ++ own) y n) = some x) :
    prg (k + 6) i_houses_House_answer [hsW H, .tup (itW st), .tup [.str d, .int (row : Nat), .tup (itW own)], .int n] h = .ok (rpOf H.fc.size (namesOf H.cells b) H.cells.length d b.rows x).w h := by
  rw [r_houses_House_answer (show [hsW H, W.tup (itW st), W.tup [.str d, .int (row : Nat), .tup (itW own)], W.int n].length = 4 from rfl)]
  have m1 : mtT c_House mt_said = some i_houses_House_said := rfl
  have m2 : mtT c_Body mt_put_in = some i_houses_Body_put_in := rfl
  have o : VOk (namesOf H.cells b) (st ++ own) := ⟨by
    have q := all_len (sz := H.fc.size) (cs := H.cells) (b := b)
    simp [allOf] at q
    simp [ls, lo]; omega, fun v hv => by
    rcases List.mem_append.mp hv with hv | hv
    · exact ss v hv
    · exact so v hv⟩
  have ok := D.bo.r _ (List.mem_of_getElem? hq)
  have g1 : (h ++ [ltO (st ++ own)])[h.length]? = some (ltO (st ++ own)) := get_end
  have se : ∀ u, (h ++ [ltO (st ++ own)]).set h.length (ltO u) = h ++ [ltO u] := fun u => by
    rw [List.set_append_right _ _ (Nat.le_refl _)]; simp
  have P := put_in_ok (k := k + 4) (sz := H.fc.size) (v := n) g1 o D.z ok.2.2
  rw [se] at P
  have o2 := putV_ok (v := n) D.z all_len ok.2.2 o
  have g2 : (h ++ [ltO (putV (namesOf H.cells b) (allOf H.fc.size H.cells b) (st ++ own) y n)])[h.length]? = some (ltO (putV (namesOf H.cells b) (allOf H.fc.size H.cells b) (st ++ own) y n)) := get_end
  have hlt := (List.getElem?_eq_some_iff.mp hq).1
  have S := said_ok (k := k) (i := row + 1) D g2 o2 hlt hr
  have se2 : ∀ u v, (h ++ [ltO u]).set h.length (ltO v) = h ++ [ltO v] := fun u v => by
    rw [List.set_append_right _ _ (Nat.le_refl _)]; simp
  rw [se2] at S
  have ll : st.length + own.length < 200 := by have := o.l; have := D.bo.l; simp at *; omega
  have a3 : fAdd true (.lst (itW st)) (.lst (itW own)) h = .ok (.ref h.length) (h ++ [ltO (st ++ own)]) := by
    simp only [fAdd, lstOf]
    rw [if_pos (by simp; unfold lim; omega)]
    simp [ltO, itW]
  have gg : gc h.length (rpOf H.fc.size (namesOf H.cells b) H.cells.length d b.rows x).w h (h ++ [ltO x.2]) = h := by
    refine gc_drop rfl rp_lt fun i _ => .inl rfl
  have ra := row_at hq
  have at3 : ∀ a b c d : W, atI [a, b, c, d] 3 = some d := fun a b c d => rfl
  have ec : ((row + 1 : Nat) : Int) = (row : Int) + 1 := by omega
  rw [ec] at S
  simp [d_houses_House_answer, tg3, insOf, lh, lb, dIx, keyOfW, keyW, D.look, bList, seqOf, a3, lm, ra, Row.w, at3, dMt, m1, m2, P, S, gg]
end
end KW.P

set_option linter.all false
set_option maxRecDepth 100000
set_option maxHeartbeats 4000000
/-! data of houses -/
namespace KW.P
open PySem L2 KW TL
theorem ok_low {s : Str} (h : NmL s) : PyData.strOk s = true := by
  unfold PyData.strOk
  rw [Array.all_eq_true']
  intro c hc
  have := h.2.2 c (by simpa using hc)
  exact decide_eq_true (by omega)
theorem dats_int (l : List Int) : W.dats (itW l) = some (l.map .int) := by
  induction l with
  | nil => rfl
  | cons a l ih =>
    simp only [itW, List.map_cons, W.dats, W.dat] at ih ⊢
    rw [ih]
theorem lay_int (l : List Int) : PyData.canLayAll0 (l.map .int) = true := by
  induction l with
  | nil => rfl
  | cons a l ih => simp [PyData.canLayAll0, PyData.canLay0, ih]
theorem dpt_int (l : List Int) : PyData.depthAll (l.map .int) = 0 := by
  induction l with
  | nil => rfl
  | cons a l ih => simp [PyData.depthAll, PyData.depth, ih]
structure Fr where
  d : Str
  row : Nat
  own : List Int
abbrev Fr.w (f : Fr) : W := .tup [.str f.d, .int (f.row : Nat), .tup (itW f.own)]
def Fr.dat (f : Fr) : PyData := .tuple [.str f.d, .int (f.row : Nat), .tuple (f.own.map .int)]
theorem fr_dat (f : Fr) : f.w.dat = some f.dat := by simp [W.dat, W.dats, dats_int, Fr.dat]
theorem frs_dat (l : List Fr) : W.dats (l.map Fr.w) = some (l.map Fr.dat) := by
  induction l with
  | nil => rfl
  | cons a l ih => simp only [List.map_cons, W.dats, fr_dat, ih]
theorem fr_lay {f : Fr} (h : PyData.strOk f.d = true) : f.dat.canLay0 = true ∧ f.dat.depth = 2 := by
  simp [Fr.dat, PyData.canLay0, PyData.canLayAll0, PyData.depth, PyData.depthAll, lay_int, dpt_int, h]
theorem frs_lay {l : List Fr} (h : ∀ f ∈ l, PyData.strOk f.d = true) : PyData.canLayAll0 (l.map Fr.dat) = true ∧ PyData.depthAll (l.map Fr.dat) ≤ 2 := by
  induction l with
  | nil => exact ⟨rfl, by simp [PyData.depthAll]⟩
  | cons a l ih =>
    have q := fr_lay (h a (List.mem_cons_self ..))
    have i := ih fun f hf => h f (List.mem_cons_of_mem _ hf)
    simp [PyData.canLayAll0, PyData.depthAll, q.1, q.2, i.1, i.2]
abbrev pileW (l : List Fr) : W := .tup (l.map Fr.w)
abbrev momW (st : List Int) (l : List Fr) : W := .tup [.tup (itW st), pileW l]
theorem fr_lt {l : List Fr} {n : Nat} : W.lts n (l.map Fr.w) = true := lts_map (fun f => by simp only [W.lt, W.lts, ints_lt, Bool.and_self]) _
theorem stell : PyData.strOk ("tell" : Str) = true ∧ PyData.strOk ("ask" : Str) = true ∧ PyData.strOk ("dead" : Str) = true := by decide +kernel
end KW.P

set_option linter.all false
set_option maxRecDepth 100000
set_option maxHeartbeats 4000000
/-! data that can be shown -/
namespace KW.P
open PySem L2 KW TL
structure Nice (w : W) (L D : Nat) (d : PyData) : Prop where
  e : w.dat = some d
  c : d.canLay0 = true
  s : d.showable = true
  p : d.depth ≤ D
  n : d.shown.length ≤ L
theorem Nice.mono {w : W} {L D L' D' : Nat} {d : PyData} (h : Nice w L D d) (l : L ≤ L') (m : D ≤ D') : Nice w L' D' d := ⟨h.e, h.c, h.s, Nat.le_trans h.p m, Nat.le_trans h.n l⟩
theorem nice_int {i : Int} (h : i.natAbs < 2 ^ 40) : Nice (.int i) 42 0 (.int i) := by
  have l : i.natAbs.log2 < 41 := lg 41 (by omega) (by decide)
  refine ⟨rfl, rfl, ?_, Nat.le_refl _, ?_⟩
  · show decide (i.natAbs.log2 < 1920) = true
    exact decide_eq_true (by omega)
  · have : (toString i).length ≤ 41 + 1 := PySem.int_text_length_le (by decide) l
    show (PySem.Str.ofString (toString i)).length ≤ 42
    rw [PySem.ofString_length]; exact this
theorem nice_str {s : Str} {n : Nat} (h : PyData.strOk s = true) (hl : s.length ≤ n) : Nice (.str s) (10 * n + 2) 0 (.str s) := by
  refine ⟨rfl, h, rfl, Nat.le_refl _, ?_⟩
  have := StrLaws.reprText_len s (fun c hc => by
    unfold PyData.strOk at h
    rw [Array.all_eq_true'] at h
    have := h c (by simpa using hc)
    simp only [decide_eq_true_eq] at this
    omega)
  show (reprText s).length ≤ _
  omega
inductive Nices (L D : Nat) : List W → List PyData → Prop
  | nil : Nices L D [] []
  | cons {w d ws ds} : Nice w L D d → Nices L D ws ds → Nices L D (w :: ws) (d :: ds)
theorem nices_all {L D : Nat} {ws : List W} {ds : List PyData} (h : Nices L D ws ds) : W.dats ws = some ds ∧ PyData.canLayAll0 ds = true ∧ PyData.showableAll ds = true ∧ PyData.depthAll ds ≤ D ∧ piled (PyData.shownAll ds) ≤ ws.length * (L + 2) ∧ (PyData.shownAll ds).length = ws.length := by
  induction h with
  | nil => exact ⟨rfl, rfl, rfl, by simp [PyData.depthAll], by simp [PyData.shownAll, piled], rfl⟩
  | cons h1 h2 ih =>
    obtain ⟨i1, i2, i3, i4, i5, i6⟩ := ih
    have q := h1.n
    refine ⟨by simp [W.dats, h1.e, i1], by simp [PyData.canLayAll0, h1.c, i2], by simp [PyData.showableAll, h1.s, i3], by simp only [PyData.depthAll]; exact Nat.max_le.mpr ⟨h1.p, i4⟩, ?_, by simp [PyData.shownAll, i6]⟩
    simp only [PyData.shownAll, piled_cons, List.length_cons, Nat.add_mul]
    omega
theorem nice_tup {L D : Nat} {ws : List W} {ds : List PyData} (h : Nices L D ws ds) : Nice (.tup ws) (ws.length * (L + 2) + 3) (D + 1) (.tuple ds) := by
  obtain ⟨i1, i2, i3, i4, i5, i6⟩ := nices_all h
  refine ⟨by simp [W.dat, i1], i2, i3, by simp only [PyData.depth]; omega, ?_⟩
  show (tupleText (PyData.shownAll ds)).length ≤ _
  unfold tupleText
  rw [strLen_append, strLen_append]
  have e1 : ((("(" : String) : Str)).length = 1 := rfl
  have e3 : (Str.join ", " (PyData.shownAll ds)).length ≤ piled (PyData.shownAll ds) := by
    by_cases z : PyData.shownAll ds = []
    · rw [z]; decide
    · have := join_length_add _ z; omega
  have e2 : (((if (PyData.shownAll ds).length == 1 then ",)" else ")" : String)) : Str).length ≤ 2 := by split <;> decide
  rw [e1]
  omega
theorem nices_ints {l : List Int} (h : ∀ i ∈ l, i.natAbs < 2 ^ 40) : Nices 42 0 (itW l) (l.map .int) := by
  induction l with
  | nil => exact .nil
  | cons a l ih => exact .cons (nice_int (h a (List.mem_cons_self ..))) (ih fun i hi => h i (List.mem_cons_of_mem _ hi))
section
variable {h : WH}
theorem Nice.repr {ws : List W} {L D : Nat} {d : PyData} (n : Nice (.tup ws) L D d) (l : L ≤ lim) (p : D ≤ 60) : bRepr [.tup ws] h = .ok (.str d.shown) h := by
  have e : datH h (.tup ws) = some d := by simp [datH, lstOf, n.e]
  have s : showB d = true := by
    simp only [showB, n.s, Bool.true_and, Bool.and_eq_true, decide_eq_true_eq]
    exact ⟨Nat.le_trans n.p p, Nat.le_trans n.n l⟩
  simp only [bRepr, e, s, if_true]
theorem Nice.eq {ws : List W} {L D : Nat} {d : PyData} {m : Bool} (n : Nice (.tup ws) L D d) (p : D ≤ 60) : fEq m (.tup ws) (.tup ws) h = .ok (.bl (!m)) h := by
  have e : datH h (.tup ws) = some d := by simp [datH, lstOf, n.e]
  have q := n.p
  have s : SeqAt.shaped d = true := by
    simp only [SeqAt.shaped, n.c, Bool.true_and, decide_eq_true_eq]; omega
  have r : PyData.eqv d d = true := SeqAt.eqv_refl d n.c
  simp only [fEq, scalW, e, s, r, and_self, if_true, Bool.true_bne]
end
theorem nice_pile {l : List Fr} {n : Nat} (hl : l.length ≤ n) (hs : ∀ f ∈ l, NmL f.d ∧ f.row < 10000 ∧ f.own.length ≤ 20 ∧ ∀ i ∈ f.own, i.natAbs < 2 ^ 40) : ∃ d, Nice (pileW l) (n * 2700 + 3) 3 d := by
  have q : ∀ l : List Fr, (∀ f ∈ l, NmL f.d ∧ f.row < 10000 ∧ f.own.length ≤ 20 ∧ ∀ i ∈ f.own, i.natAbs < 2 ^ 40) → ∃ ds, Nices 2698 2 (l.map Fr.w) ds := by
    intro l
    induction l with
    | nil => exact fun _ => ⟨_, .nil⟩
    | cons f l ih =>
      intro hs
      obtain ⟨ds, hd⟩ := ih fun g hg => hs g (List.mem_cons_of_mem _ hg)
      obtain ⟨h1, h2, h3, h4⟩ := hs f (List.mem_cons_self ..)
      have a1 := (nice_str (ok_low h1) h1.2.1).mono (show 10 * 6 + 2 ≤ 883 by decide) (Nat.zero_le 1)
      have a2 := (nice_int (i := (f.row : Nat)) (by omega)).mono (show 42 ≤ 883 by decide) (Nat.zero_le 1)
      have a3 := (nice_tup (nices_ints h4)).mono (L' := 883) (D' := 1) (by rw [List.length_map]; omega) (by decide)
      have a4 := nice_tup (.cons a1 (.cons a2 (.cons a3 .nil)))
      exact ⟨_, .cons (a4.mono (by simp) (by decide)) hd⟩
  obtain ⟨ds, hd⟩ := q l hs
  refine ⟨_, (nice_tup hd).mono ?_ (by decide)⟩
  rw [List.length_map]
  have := Nat.mul_le_mul_right 2700 hl
  omega
theorem nice_mom {st : List Int} {l : List Fr} {n : Nat} (h0 : st.length ≤ 60) (h1 : ∀ i ∈ st, i.natAbs < 2 ^ 40) (hl : l.length ≤ n) (hn : 1 ≤ n) (hs : ∀ f ∈ l, NmL f.d ∧ f.row < 10000 ∧ f.own.length ≤ 20 ∧ ∀ i ∈ f.own, i.natAbs < 2 ^ 40) : ∃ d, Nice (momW st l) (n * 5400 + 20) 4 d := by
  obtain ⟨d, hd⟩ := nice_pile hl hs
  have a1 := (nice_tup (nices_ints h1)).mono (L' := n * 2700 + 3) (D' := 3) (by rw [List.length_map]; omega) (by decide)
  have a2 := nice_tup (.cons a1 (.cons hd .nil))
  exact ⟨_, a2.mono (by simp; omega) (by decide)⟩
end KW.P

set_option linter.all false
set_option maxRecDepth 100000
set_option maxHeartbeats 400000
/-! going along: to a stop, or round and round -/
namespace KW.P
open PySem L2 KW TL
abbrev Cf := Nat × List Int
section
variable (ns : List Str) (zs : List Int) (rows : List Row)
/-- one row on -/
def nx (c : Cf) : Cf := match rows[c.1]? with | some r => stp ns zs c.2 c.1 r | none => c
def Sil (c : Cf) : Prop := ∃ r, rows[c.1]? = some r ∧ r.sil = true
def it : Nat → Cf → Cf
  | 0, c => c
  | n + 1, c => it n (nx ns zs rows c)
structure Reach (n : Nat) (c d : Cf) : Prop where
  e : it ns zs rows n c = d
  s : ∀ k < n, Sil rows (it ns zs rows k c)
end
section
variable {ns : List Str} {zs : List Int} {rows : List Row} {c d e : Cf}
theorem it_add {n m : Nat} : it ns zs rows (n + m) c = it ns zs rows m (it ns zs rows n c) := by
  induction n generalizing c with
  | zero => rw [Nat.zero_add]; rfl
  | succ n ih => rw [Nat.succ_add]; exact ih
theorem it_s {n : Nat} : it ns zs rows (n + 1) c = nx ns zs rows (it ns zs rows n c) := it_add (m := 1)
theorem Reach.zero : Reach ns zs rows 0 c c := ⟨rfl, fun k h => absurd h (Nat.not_lt_zero k)⟩
theorem Reach.one {r : Row} (h : rows[c.1]? = some r) (hs : r.sil = true) (hd : stp ns zs c.2 c.1 r = d) : Reach ns zs rows 1 c d := ⟨by show nx ns zs rows c = d; simp [nx, h, hd], fun k hk => by
  have : k = 0 := by omega
  subst this
  exact ⟨r, h, hs⟩⟩
theorem Reach.trans {n m : Nat} (h1 : Reach ns zs rows n c d) (h2 : Reach ns zs rows m d e) : Reach ns zs rows (n + m) c e := ⟨by rw [it_add, h1.e, h2.e], fun k hk => by
  by_cases z : k < n
  · exact h1.s k z
  · obtain ⟨j, rfl⟩ : ∃ j, k = n + j := ⟨k - n, by omega⟩
    rw [it_add, h1.e]
    exact h2.s j (by omega)⟩
/-- what is told of a stop -/
def stopR (rows : List Row) (c : Cf) : Option Nat × List Int := (match rows[c.1]? with | none => none | some .halt => none | some _ => some c.1, c.2)
theorem run_to {n fuel : Nat} (h : Reach ns zs rows n c d) (hs : ¬ Sil rows d) (hf : n < fuel) : run ns zs rows fuel [] c.1 c.2 = some (stopR rows d) := by
  have inj : ∀ j k, j < k → k ≤ n → it ns zs rows j c ≠ it ns zs rows k c := fun j k hj hk he => by
    have e1 : it ns zs rows (j + (n - k)) c = d := by
      rw [it_add, he, ← it_add, show k + (n - k) = n from by omega, h.e]
    exact hs (e1 ▸ h.s (j + (n - k)) (by omega))
  have q : ∀ (m k f : Nat), k + m = n → m < f → run ns zs rows f ((List.range k).map fun j => it ns zs rows j c) (it ns zs rows k c).1 (it ns zs rows k c).2 = some (stopR rows d) := by
    intro m
    induction m with
    | zero =>
      intro k f hk hf
      obtain ⟨f, rfl⟩ : ∃ g, f = g + 1 := ⟨f - 1, by omega⟩
      have : k = n := by omega
      subst this
      rw [h.e, run]
      unfold stopR
      cases hr : rows[d.1]? with
      | none => rfl
      | some r =>
        have hsr : r.sil = false := by
          cases z : r.sil with
          | false => rfl
          | true => exact absurd ⟨r, hr, z⟩ hs
        simp only [hsr, Bool.false_eq_true, if_false]
        cases r <;> rfl
    | succ m ih =>
      intro k f hk hf
      obtain ⟨f, rfl⟩ : ∃ g, f = g + 1 := ⟨f - 1, by omega⟩
      obtain ⟨r, hr, hsr⟩ := h.s k (by omega)
      have hn : ((it ns zs rows k c).1, (it ns zs rows k c).2) ∉ (List.range k).map fun j => it ns zs rows j c := fun z => by
        obtain ⟨j, hj, ej⟩ := List.mem_map.mp z
        exact inj j k (List.mem_range.mp hj) (by omega) ej
      rw [run_go' hr hsr hn]
      have e1 := ih (k + 1) f (by omega) (by omega)
      rw [it_s] at e1
      have e2 : nx ns zs rows (it ns zs rows k c) = stp ns zs (it ns zs rows k c).2 (it ns zs rows k c).1 r := by simp [nx, hr]
      rw [e2, List.range_succ, List.map_append] at e1
      exact e1
  exact q n 0 fuel (by omega) hf
where
  run_go' {n : Nat} {s : List Cf} {i : Nat} {vs : List Int} {r : Row} (hr : rows[i]? = some r) (hs : r.sil = true) (hn : (i, vs) ∉ s) : run ns zs rows (n + 1) s i vs = run ns zs rows n (s ++ [(i, vs)]) (stp ns zs vs i r).1 (stp ns zs vs i r).2 := by
    rw [run, hr]; simp only [hs, if_true, if_neg hn]
theorem nodup_le {α : Type} [DecidableEq α] : ∀ {l U : List α}, l.Nodup → (∀ x ∈ l, x ∈ U) → l.length ≤ U.length
  | [], _, _, _ => Nat.zero_le _
  | x :: l, U, nd, h => by
    have hx := h x (List.mem_cons_self ..)
    have q := nodup_le (l := l) (U := U.erase x) (List.nodup_cons.mp nd).2 fun y hy => (List.mem_erase_of_ne (fun (z : y = x) => (List.nodup_cons.mp nd).1 (z ▸ hy))).mpr (h y (List.mem_cons_of_mem _ hy))
    rw [List.length_erase_of_mem hx] at q
    have : 0 < U.length := List.length_pos_of_mem hx
    simp only [List.length_cons]; omega
theorem run_ring {fuel : Nat} {U : List Cf} (h : ∀ k, it ns zs rows k c ∈ U ∧ Sil rows (it ns zs rows k c)) (hf : U.length < fuel) : ∃ vs', run ns zs rows fuel [] c.1 c.2 = some (none, vs') := by
  have q : ∀ (m k : Nat), ((List.range k).map fun j => it ns zs rows j c).Nodup → U.length < m + k → ∃ vs', run ns zs rows m ((List.range k).map fun j => it ns zs rows j c) (it ns zs rows k c).1 (it ns zs rows k c).2 = some (none, vs') := by
    intro m
    induction m with
    | zero =>
      intro k nd hk
      have := nodup_le nd fun x hx => by
        obtain ⟨j, _, rfl⟩ := List.mem_map.mp hx
        exact (h j).1
      simp only [List.length_map, List.length_range] at this
      omega
    | succ m ih =>
      intro k nd hk
      obtain ⟨r, hr, hsr⟩ := (h k).2
      by_cases hn : ((it ns zs rows k c).1, (it ns zs rows k c).2) ∈ (List.range k).map fun j => it ns zs rows j c
      · exact ⟨(it ns zs rows k c).2, by rw [run, hr]; simp only [hsr, if_true, if_pos hn]⟩
      · rw [run_to.run_go' hr hsr hn]
        have nd2 : ((List.range (k + 1)).map fun j => it ns zs rows j c).Nodup := by
          rw [List.range_succ, List.map_append]
          exact List.nodup_append.mpr ⟨nd, by simp, fun x hx y hy z => by
            simp only [List.map_cons, List.map_nil, List.mem_singleton] at hy
            subst hy; subst z
            exact hn hx⟩
        obtain ⟨vs', e1⟩ := ih (k + 1) nd2 (by omega)
        rw [it_s] at e1
        have e2 : nx ns zs rows (it ns zs rows k c) = stp ns zs (it ns zs rows k c).2 (it ns zs rows k c).1 r := by simp [nx, hr]
        rw [e2, List.range_succ, List.map_append] at e1
        exact ⟨vs', e1⟩
  exact q fuel 0 (by simp) (by omega)
end
end KW.P

set_option linter.all false
set_option maxRecDepth 100000
set_option maxHeartbeats 4000000
/-! the hand of k01 to k12 -/
namespace KW.P
open PySem L2 KW TL
structure Hd where
  g : Int
  m : Int
  t : Int
abbrev HO (a : Hd) : Ob := .lst [.int a.g, .int a.m, .int a.t]
structure Hd.Ok (a : Hd) (n : Nat) : Prop where
  g : 0 ≤ a.g
  m : 0 ≤ a.m ∧ a.m < 2 ^ 61
  t : 0 ≤ a.t ∧ a.t ≤ n
theorem Hd.Ok.mono {a : Hd} {n n' : Nat} (h : a.Ok n) (l : n ≤ n') : a.Ok n' := ⟨h.g, h.m, h.t.1, by have := h.t.2; omega⟩
theorem ho_lt {a : Hd} {n : Nat} : (HO a).lt n = true := by simp [HO, Ob.lt, W.lts, W.lt]
theorem gc_ho {h : WH} {r : Nat} {a : Hd} {w : W} {e : WH} (hr : r < h.length) (hw : w.lt h.length = true) : gc h.length w h (h.set r (HO a) ++ e) = h.set r (HO a) :=
  gc_drop (by simp) hw fun i hi => by
    by_cases z : i = r
    · subst z
      exact .inr ⟨HO a, List.getElem?_set_self hr, ho_lt⟩
    · exact .inl (List.getElem?_set_ne (Ne.symm z))
theorem take_g {k : Nat} {h : WH} {r : Nat} {a : Hd} {n : Int} (hr : h[r]? = some (HO a)) (hg : 0 < a.g) (hn : 0 < n) (hl : divB n = true) :
    prg (k + 1) i_L_take [.ref r, .int n] h = .ok (.int (a.g % n)) (h.set r (HO { a with g := a.g / n })) := by
  rw [r_L_take (show [W.ref r, W.int n].length = 2 from rfl)]
  simp [d_L_take, f_ixR hr, setI_ok hr (i := 0) (n := 0) rfl, hg, hn, hl]
theorem take_ok {k N : Nat} {h : WH} {r : Nat} {a : Hd} {n : Int} (hr : h[r]? = some (HO a)) (ha : a.Ok N) (hN : N < 1000000) (hn : 0 < n) (hl : n < 1000000) :
    ∃ d a', prg (k + 1) i_L_take [.ref r, .int n] h = .ok (.int d) (h.set r (HO a')) ∧ 0 ≤ d ∧ d < n ∧ a'.Ok (N + 1) := by
  by_cases hg : 0 < a.g
  · refine ⟨_, _, take_g hr hg hn (divB_of hn (by omega)), Int.emod_nonneg _ (by omega), Int.emod_lt_of_pos _ hn, ?_, ha.m, ha.t.1, by have := ha.t.2; show a.t ≤ _; omega⟩
    exact Int.ediv_nonneg ha.g (by omega)
  · obtain ⟨p, hp, ep⟩ := atMem (xs := [W.int 2147483647, W.int 2147483629, W.int 2147483587, W.int 2147483579, W.int 2147483563, W.int 2147483549, W.int 2147483543, W.int 2147483497]) (i := (a.t + 1) % 8) (by omega) (by simp only [List.length_cons, List.length_nil]; omega)
    obtain ⟨q, rfl, q0, q1⟩ : ∃ q : Int, p = .int q ∧ 0 < q ∧ q ≤ 2147483647 := by
      simp only [List.mem_cons, List.not_mem_nil, or_false] at hp
      rcases hp with rfl | rfl | rfl | rfl | rfl | rfl | rfl | rfl <;> exact ⟨_, rfl, by decide, by decide⟩
    obtain ⟨t0, t1⟩ := ha.t
    obtain ⟨m0, m1⟩ := ha.m
    have c1 : mulB 7919 (a.t + 1) = true := mulB_of 100 (by omega) (by omega) (by decide)
    have l5 := powB5 (i := a.m + 7919 * (a.t + 1)) 64 (by omega) (by decide)
    generalize hx : (a.m + 7919 * (a.t + 1)) ^ 5 % q = x
    have x0 : 0 ≤ x := by rw [← hx]; exact Int.emod_nonneg _ (by omega)
    have x1 : x < q := by rw [← hx]; exact Int.emod_lt_of_pos _ q0
    have x2 := Int.emod_nonneg x (show (1009 : Int) ≠ 0 by decide)
    have x3 := Int.emod_lt_of_pos x (show (0 : Int) < 1009 by decide)
    have c4 : mulB x (x % 1009 + (a.t + 1)) = true := mulB_of 100 (by omega) (by omega) (by decide)
    have d7 : divB 7 = true := by decide
    refine ⟨x * (x % 1009 + (a.t + 1)) % q / 7 % n, { a with t := a.t + 1 }, ?_, Int.emod_nonneg _ (by omega), Int.emod_lt_of_pos _ hn, ha.g, ha.m, by show 0 ≤ a.t + 1; omega, by show a.t + 1 ≤ _; omega⟩
    rw [r_L_take (show [W.ref r, W.int n].length = 2 from rfl)]
    have hr2 := get_same (x := HO { a with t := a.t + 1 }) hr
    simp only [HO] at hr2
    have p5 : (5 : Int).toNat = 5 := rfl
    simp [d_L_take, f_ixR hr, f_ixR hr2, setI_ok hr (i := 2) (n := 2) rfl, hg, hn, lm, ep, q0, c1, c4, hx, l5, d7]
theorem of_lst {k N : Nat} {h : WH} {r : Nat} {a : Hd} {ws : List W} (hr : h[r]? = some (HO a)) (ha : a.Ok N) (hN : N < 1000000) (h0 : ws ≠ []) (hl : ws.length < 1000) :
    ∃ w a', prg (k + 2) i_L_of [.ref r, .lst ws] h = .ok w (h.set r (HO a')) ∧ w ∈ ws ∧ a'.Ok (N + 1) := by
  have hp : 0 < ws.length := List.length_pos_iff.mpr h0
  obtain ⟨d, a', e, d0, d1, ok⟩ := take_ok (k := k) (n := (ws.length : Nat)) hr ha hN (by omega) (by omega)
  obtain ⟨w, hw, ew⟩ := atMem (xs := ws) d0 d1
  refine ⟨w, a', ?_, hw, ok⟩
  rw [r_L_of (show [W.ref r, W.lst ws].length = 2 from rfl)]
  simp [d_L_of, bLen, seqOf, lstOf, e, ew]
theorem of_str {k N : Nat} {h : WH} {r : Nat} {a : Hd} {x : Str} (hr : h[r]? = some (HO a)) (ha : a.Ok N) (hN : N < 1000000) (h0 : 0 < x.length) (hl : x.length < 1000) :
    ∃ c a', prg (k + 2) i_L_of [.ref r, .str x] h = .ok (.str ⟨#[c]⟩) (h.set r (HO a')) ∧ c ∈ x.cps.toList ∧ a'.Ok (N + 1) := by
  obtain ⟨d, a', e, d0, d1, ok⟩ := take_ok (k := k) (n := (x.length : Nat)) hr ha hN (by omega) (by omega)
  obtain ⟨c, hc, ec⟩ := atMem (xs := x.cps.toList) d0 (by simpa [Str.length] using d1)
  have l1 : x.length ≤ lim := by unfold lim; omega
  refine ⟨c, a', ?_, hc, ok⟩
  rw [r_L_of (show [W.ref r, W.str x].length = 2 from rfl)]
  have i1 : ∀ g : WH, fIx (.str x) (.int d) g = .ok (.str ⟨#[c]⟩) g := fun g => by
    show fIxS (.str x) (.int d) g = _
    simp [fIxS, l1, ec]
  simp [d_L_of, bLen, e, l1, i1]
/-- the hand -/
theorem hand_ok {k : Nat} {h : WH} {ns : List Int} {i : Nat} (hi : i ≤ 3) (hl : ns.length ≤ 63) : ∃ a : Hd, prg (k + 1) i_L_hand [.scr ns, .int i] h = .ok (.ref h.length) (h ++ [HO a]) ∧ a.Ok 0 := by
  rw [r_L_hand (show [W.scr ns, W.int (i : Nat)].length = 2 from rfl)]
  obtain ⟨c, hc⟩ : ∃ c : Int, (if (i : Int) < (ns.length : Int) then (match atI (ns.map W.int) (i : Int) with | some w => R.ok w h | none => .no) else .ok (.int (11 * (i : Int) + ns.length)) h) = .ok (.int c) h := by
    by_cases z : (i : Int) < (ns.length : Int)
    · have hz : i < ns.length := by omega
      refine ⟨ns[i], ?_⟩
      rw [if_pos z]
      have q : atI (ns.map W.int) (i : Int) = some (.int ns[i]) := atI_nat (by rw [List.getElem?_map, List.getElem?_eq_getElem hz]; rfl)
      rw [q]
    · exact ⟨11 * (i : Int) + ns.length, by rw [if_neg z]⟩
  generalize hb : (if c < 0 then -c else c) = b
  have b0 : 0 ≤ b := by rw [← hb]; split <;> omega
  generalize ht : ((10 : Int) ^ 60) ^ 5 = t
  have t0 : 0 < t := by rw [← ht]; decide +kernel
  have t1 : t < 2 ^ 1000 := by rw [← ht]; decide +kernel
  have x0 : 0 ≤ b % t := Int.emod_nonneg _ (by omega)
  have x1 : b % t < t := Int.emod_lt_of_pos _ t0
  generalize hy : (if decide ((10 : Int) ^ 18 ≤ b) then (1 : Int) else 0) = y
  have y0 : y = 0 ∨ y = 1 := by rw [← hy]; split <;> simp
  have mm : mulB (b % t) y = true := mulB_of 1000 (by omega) (by omega) (by decide)
  have mi : mulB 7919 (i : Int) = true := mulB_of 100 (by omega) (by omega) (by decide)
  have mj : mulB (7919 * (i : Int)) (i : Int) = true := mulB_of 100 (by omega) (by omega) (by decide)
  have mk : mulB 11 (i : Int) = true := mulB_of 100 (by omega) (by omega) (by decide)
  have p1 : powB 10 60 = true := by decide +kernel
  have p2 : powB (10 ^ 60) 5 = true := by decide +kernel
  have p3 : powB 10 18 = true := by decide +kernel
  refine ⟨⟨b % t * y, (c % 2305843009213693951 + 7919 * (i : Int) * (i : Int) + 13) % 2305843009213693951, 0⟩, ?_, ?_, ⟨?_, ?_⟩, ⟨by show (0 : Int) ≤ 0; decide, by show (0 : Int) ≤ ((0 : Nat) : Int); decide⟩⟩
  · have l3 : 3 ≤ lim := by decide
    have bl : bLen [.scr ns] h = .ok (.int ns.length) h := by simp [bLen, seqOf]
    have ix : fIx (.scr ns) (.int (i : Int)) h = (match atI (ns.map W.int) (i : Int) with | some w => R.ok w h | none => .no) := rfl
    have e1 : ∀ sw : WS, sw[0]? = some (some (.scr ns)) → sw[1]? = some (some (.int i)) → dIf (dTst (dOp (fInt fun i j => decide (i < j)) (dVar 1) (dBi bLen (aCons (dVar 0) (aNil))))) (dOp fIx (dVar 0) (dVar 1)) (dOp (fAdd false) (dOp (fMul false) (dC (.int 11)) (dVar 1)) (dBi bLen (aCons (dVar 0) (aNil)))) sw h = .ok (.int c) h := fun sw a0 a1 => by
      rw [← hc]
      by_cases z : (i : Int) < (ns.length : Int)
      · have z2 : i < ns.length := by omega
        simp only [x_if, x_tst, x_op, x_var, a0, a1, x_bind, x_bi, x_cons, x_nil, bl, f_int, decide_eq_true z, if_true, ix, if_pos z]
      · simp only [x_if, x_tst, x_op, x_var, a0, a1, x_bind, x_bi, x_cons, x_nil, bl, f_int, decide_eq_false z, Bool.false_eq_true, if_false, x_c, if_neg z, f_mul, mk, if_true, f_add]
    have ab : ∀ g : WH, bAbs [.int c] g = .ok (.int b) g := fun g => by simp only [bAbs, hb]
    have bi : ∀ g : WH, bInt [.bl (decide ((10 : Int) ^ 18 ≤ b))] g = .ok (.int y) g := fun g => by simp only [bInt, hy]
    have q1 : ∀ g : WH, fPow (.int 10) (.int 60) g = .ok (.int (10 ^ 60)) g := fun g => by rw [f_pow, if_pos p1]; rfl
    have q2 : ∀ g : WH, fPow (.int (10 ^ 60)) (.int 5) g = .ok (.int t) g := fun g => by rw [f_pow, if_pos p2, ← ht]; rfl
    have q3 : ∀ g : WH, fPow (.int 10) (.int 18) g = .ok (.int (10 ^ 18)) g := fun g => by rw [f_pow, if_pos p3]; rfl
    have e2 : ∀ sw : WS, sw[2]? = some (some (.int c)) → dOp (fMul false) (dOp (fMod) (dBi bAbs (aCons (dVar 2) (aNil))) (dOp (fPow) (dOp (fPow) (dC (.int 10)) (dC (.int 60))) (dC (.int 5)))) (dBi bInt (aCons (dOp (fInt fun i j => decide (j ≤ i)) (dBi bAbs (aCons (dVar 2) (aNil))) (dOp (fPow) (dC (.int 10)) (dC (.int 18)))) (aNil))) sw h = .ok (.int (b % t * y)) h := fun sw a2 => by
      simp only [x_op, x_bi, x_cons, x_nil, x_var, a2, x_bind, x_c, ab, q1, q2, q3, f_mod, if_pos t0, f_int, bi, f_mul, mm, if_true]
    have rg : gc h.length (.ref h.length) h (h ++ [HO ⟨b % t * y, (c % 2305843009213693951 + 7919 * (i : Int) * (i : Int) + 13) % 2305843009213693951, 0⟩]) = h ++ [HO ⟨b % t * y, (c % 2305843009213693951 + 7919 * (i : Int) * (i : Int) + 13) % 2305843009213693951, 0⟩] := ref_gc (Nat.le_refl _)
    have ed : d_L_hand (prg k) = sSeq (sSet 2 (dIf (dTst (dOp (fInt fun i j => decide (i < j)) (dVar 1) (dBi bLen (aCons (dVar 0) (aNil))))) (dOp fIx (dVar 0) (dVar 1)) (dOp (fAdd false) (dOp (fMul false) (dC (.int 11)) (dVar 1)) (dBi bLen (aCons (dVar 0) (aNil)))))) (sSeq (sSet 3 (dOp (fMul false) (dOp (fMod) (dBi bAbs (aCons (dVar 2) (aNil))) (dOp (fPow) (dOp (fPow) (dC (.int 10)) (dC (.int 60))) (dC (.int 5)))) (dBi bInt (aCons (dOp (fInt fun i j => decide (j ≤ i)) (dBi bAbs (aCons (dVar 2) (aNil))) (dOp (fPow) (dC (.int 10)) (dC (.int 18)))) (aNil))))) (sSeq (sRet (dLst true (aCons (dVar 3) (aCons (dOp (fMod) (dOp (fAdd false) (dOp (fAdd false) (dOp (fMod) (dVar 2) (dC (.int 2305843009213693951))) (dOp (fMul false) (dOp (fMul false) (dC (.int 7919)) (dVar 1)) (dVar 1))) (dC (.int 13))) (dC (.int 2305843009213693951))) (aCons (dC (.int 0)) (aNil)))))) sNil)) := rfl
    show fin h (d_L_hand (prg k) [some (.scr ns), some (.int i), none, none] h) = _
    rw [ed, x_seq, x_set, e1 _ rfl rfl]
    simp only [x_st, q_next, x_seq, x_set]
    rw [e2 _ rfl]
    simp [mi, mj, l3, rg]
  · show 0 ≤ b % t * y
    rcases y0 with rfl | rfl <;> omega
  · exact Int.emod_nonneg _ (by decide)
  · have := Int.emod_lt_of_pos (c % 2305843009213693951 + 7919 * (i : Int) * (i : Int) + 13) (show (0 : Int) < 2305843009213693951 by decide)
    exact Int.lt_trans this (by decide)
end KW.P

set_option linter.all false
set_option maxRecDepth 100000
set_option maxHeartbeats 400000
/-! k05's house -/
namespace KW.P
open PySem L2 KW TL
abbrev NS5 : List Str := ["x", "y", "a", "s", "t"]
def r0 (ask : Bool) (step : Int) : Row := if ask then .ask "p" (.nm "a") "s" else .put "s" (.th (.no step))
def rows5 (ask : Bool) (step goal : Int) (last : List Row) : List Row := r0 ask step :: .put "t" (.op "=" (.nm "x") (.no goal)) :: .whn (.nm "t") 6 :: .put "x" (.op "+" (.nm "x") (.nm "s")) :: .put "y" (.op "+" (.nm "y") (.no 1)) :: .go 1 :: .put "t" (.op "+" (.nm "y") (.nm "x")) :: last
inductive Lst | tell | halt | none
def Lst.rows : Lst → List Row | .tell => [.tell (.nm "t")] | .halt => [.halt] | .none => []
structure P5 where
  (wide other first step goal : Int)
  ask : Bool
  last : Lst
structure P5.Ok (P : P5) : Prop where
  w : 1 ≤ P.wide ∧ P.wide ≤ 1000
  o : 1 ≤ P.other ∧ P.other ≤ 1000
  f : 0 ≤ P.first ∧ P.first < P.wide
  g : 0 ≤ P.goal ∧ P.goal < P.wide
  s : 0 ≤ P.step ∧ P.step ≤ 999
  b : 5 * (P.wide * P.other) ≤ 9900
def b5 (P : P5) : Bd := ⟨"a", [("s", 1000), ("t", 1000)], rows5 P.ask P.step P.goal P.last.rows⟩
def hs5 (P : P5) : Hs := ⟨⟨4, ["d"], ["p"]⟩, [⟨"x", P.wide, P.first⟩, ⟨"y", P.other, 0⟩], [b5 P]⟩
abbrev Z5 (P : P5) : List Int := [P.wide, P.other, 4, 1000, 1000]
theorem ns5 {P : P5} : namesOf (hs5 P).cells (b5 P) = NS5 := rfl
theorem z5 {P : P5} : allOf (hs5 P).fc.size (hs5 P).cells (b5 P) = Z5 P := rfl
instance (s : Str) : Decidable (Low (cl s)) := by unfold Low; infer_instance
instance (s : Str) : Decidable (NmL s) := by unfold NmL; infer_instance
theorem nm5 : NmL "x" ∧ NmL "y" ∧ NmL "a" ∧ NmL "s" ∧ NmL "t" ∧ NmL "d" ∧ NmL "p" := by decide +kernel
theorem ix5 : NS5.idxOf ("x" : Str) = 0 ∧ NS5.idxOf ("y" : Str) = 1 ∧ NS5.idxOf ("a" : Str) = 2 ∧ NS5.idxOf ("s" : Str) = 3 ∧ NS5.idxOf ("t" : Str) = 4 := by decide +kernel
theorem in5 : ("x" : Str) ∈ NS5 ∧ ("y" : Str) ∈ NS5 ∧ ("a" : Str) ∈ NS5 ∧ ("s" : Str) ∈ NS5 ∧ ("t" : Str) ∈ NS5 := by decide +kernel
theorem op5 : ("+" : Str) ∈ OPSL ∧ ("=" : Str) ∈ OPSL ∧ ("p" : Str) ∈ (["p"] : List Str) := by decide +kernel
theorem nd5 : NS5.Nodup ∧ (["x", "y"] : List Str).Nodup := by decide +kernel
theorem main5 : ("main" : Str) ∉ (["p"] : List Str) := by decide +kernel
theorem hs5_ok {P : P5} (p : P.Ok) : (hs5 P).Ok := by
  obtain ⟨mx, my, ma, ms, mt, md, mp⟩ := nm5
  obtain ⟨ix, iy, ia, is, it⟩ := in5
  have pw := p.w; have po := p.o; have pf := p.f; have pg := p.g; have ps := p.s
  have ll : P.last.rows.length ≤ 1 := by cases P.last <;> simp [Lst.rows]
  refine ⟨⟨show (1 : Int) ≤ 4 ∧ (4 : Int) ≤ 4 by decide, by simp [hs5], by simp [hs5], ?_, by simp [hs5], by simp [hs5], ?_, main5⟩, ?_, nd5.2, by simp [hs5], by simp [hs5], ?_⟩
  · intro s h; rw [List.mem_singleton.mp h]; exact md
  · intro s h; rw [List.mem_singleton.mp h]; exact mp
  · intro c h
    simp only [hs5, List.mem_cons, List.not_mem_nil, or_false] at h
    rcases h with rfl | rfl
    · exact ⟨mx, pw, by show 0 ≤ P.first ∧ P.first ≤ P.wide - 1; omega⟩
    · exact ⟨my, po, by show (0 : Int) ≤ 0 ∧ 0 ≤ P.other - 1; omega⟩
  · intro b h
    rw [List.mem_singleton.mp h]
    refine ⟨ma, ?_, nd5.1, by rw [ns5]; decide, by simp [b5, rows5], by simp [b5, rows5]; omega, ?_⟩
    · intro l h
      simp only [b5, List.mem_cons, List.not_mem_nil, or_false] at h
      rcases h with rfl | rfl
      · exact ⟨ms, by decide, by decide⟩
      · exact ⟨mt, by decide, by decide⟩
    · intro r h
      rw [ns5]
      have hl : 6 ≤ (b5 P).rows.length := by simp [b5, rows5]
      simp only [b5, rows5, List.mem_cons] at h
      rcases h with rfl | rfl | rfl | rfl | rfl | rfl | rfl | h
      · unfold r0
        split
        · exact ⟨op5.2.2, ia, is⟩
        · exact ⟨is, ps⟩
      · exact ⟨it, op5.2.1, ix, by show 0 ≤ P.goal ∧ P.goal ≤ 999; omega⟩
      · exact ⟨it, hl⟩
      · exact ⟨ix, op5.1, ix, is⟩
      · exact ⟨iy, op5.1, iy, by show (0 : Int) ≤ 1 ∧ (1 : Int) ≤ 999; decide⟩
      · show 1 ≤ (b5 P).rows.length; omega
      · exact ⟨it, op5.1, iy, ix⟩
      · cases hl : P.last with
        | tell => rw [hl] at h; rw [List.mem_singleton.mp h]; exact it
        | halt => rw [hl] at h; rw [List.mem_singleton.mp h]; exact trivial
        | none => rw [hl] at h; simp [Lst.rows] at h
theorem door5 {P : P5} (p : P.Ok) : Door (hs5 P) "d" (b5 P) := ⟨hs5_ok p, 0, rfl, rfl⟩
section
variable {P : P5} {X Y A S T : Int}
theorem wo5 : worth NS5 [X, Y, A, S, T] (.nm "x") = X ∧ worth NS5 [X, Y, A, S, T] (.nm "y") = Y ∧ worth NS5 [X, Y, A, S, T] (.nm "a") = A ∧ worth NS5 [X, Y, A, S, T] (.nm "s") = S ∧ worth NS5 [X, Y, A, S, T] (.nm "t") = T := by
  obtain ⟨ix, iy, ia, is, it⟩ := ix5
  simp only [worth, ix, iy, ia, is, it]
  exact ⟨rfl, rfl, rfl, rfl, rfl⟩
theorem pu5 {v : Int} : putV NS5 (Z5 P) [X, Y, A, S, T] "x" v = [v % P.wide, Y, A, S, T] ∧ putV NS5 (Z5 P) [X, Y, A, S, T] "y" v = [X, v % P.other, A, S, T] ∧ putV NS5 (Z5 P) [X, Y, A, S, T] "s" v = [X, Y, A, v % 1000, T] ∧ putV NS5 (Z5 P) [X, Y, A, S, T] "t" v = [X, Y, A, S, v % 1000] := by
  obtain ⟨ix, iy, ia, is, it⟩ := ix5
  simp only [putV, ix, iy, ia, is, it]
  exact ⟨rfl, rfl, rfl, rfl⟩
theorem reck_eq {a b : Int} : recko "=" a b = if a = b then 1 else 0 := by simp [recko, od]
theorem reck_add {a b : Int} : recko "+" a b = a + b := by simp [recko]
abbrev R5 (P : P5) (n : Nat) (c d : Cf) : Prop := Reach NS5 (Z5 P) (b5 P).rows n c d
theorem s1 : R5 P 1 (1, [X, Y, A, S, T]) (2, [X, Y, A, S, if X = P.goal then 1 else 0]) := .one (r := .put "t" (.op "=" (.nm "x") (.no P.goal))) rfl rfl (by
  have w1 := (wo5 (X := X) (Y := Y) (A := A) (S := S) (T := T)).1
  have w2 : worth NS5 [X, Y, A, S, T] (.no P.goal) = P.goal := rfl
  simp only [stp, toldV, w1, w2, reck_eq, pu5]
  by_cases z : X = P.goal <;> simp [z])
theorem s2 : R5 P 1 (2, [X, Y, A, S, T]) (if T ≠ 0 then 6 else 3, [X, Y, A, S, T]) := .one (r := .whn (.nm "t") 6) rfl rfl (by
  simp only [stp, wo5]
  split <;> rfl)
theorem s3 : R5 P 1 (3, [X, Y, A, S, T]) (4, [(X + S) % P.wide, Y, A, S, T]) := .one (r := .put "x" (.op "+" (.nm "x") (.nm "s"))) rfl rfl (by
  simp only [stp, toldV, wo5, reck_add, pu5])
theorem s4 : R5 P 1 (4, [X, Y, A, S, T]) (5, [X, (Y + 1) % P.other, A, S, T]) := .one (r := .put "y" (.op "+" (.nm "y") (.no 1))) rfl rfl (by
  have w2 : worth NS5 [X, Y, A, S, T] (.no 1) = 1 := rfl
  simp only [stp, toldV, wo5, w2, reck_add, pu5])
theorem s5 : R5 P 1 (5, [X, Y, A, S, T]) (1, [X, Y, A, S, T]) := .one (r := .go 1) rfl rfl rfl
theorem s6 : R5 P 1 (6, [X, Y, A, S, T]) (7, [X, Y, A, S, (Y + X) % 1000]) := .one (r := .put "t" (.op "+" (.nm "y") (.nm "x"))) rfl rfl (by
  simp only [stp, toldV, wo5, reck_add, pu5])
theorem s0 (hp : P.ask = false) : R5 P 1 (0, [X, Y, A, S, T]) (1, [X, Y, A, P.step % 1000, T]) := .one (r := .put "s" (.th (.no P.step))) (by show some (r0 P.ask P.step) = _; rw [hp]; rfl) rfl (by
  have w2 : worth NS5 [X, Y, A, S, T] (.no P.step) = P.step := rfl
  simp only [stp, toldV, w2, pu5])
theorem round (h : X ≠ P.goal) : R5 P 5 (1, [X, Y, A, S, 0]) (1, [(X + S) % P.wide, (Y + 1) % P.other, A, S, 0]) := by
  have a := s1 (P := P) (X := X) (Y := Y) (A := A) (S := S) (T := 0)
  rw [if_neg h] at a
  have b := s2 (P := P) (X := X) (Y := Y) (A := A) (S := S) (T := 0)
  exact (((a.trans b).trans s3).trans s4).trans s5
theorem last3 (h : X = P.goal) : R5 P 3 (1, [X, Y, A, S, 0]) (7, [X, Y, A, S, (Y + X) % 1000]) := by
  have a := s1 (P := P) (X := X) (Y := Y) (A := A) (S := S) (T := 0)
  rw [if_pos h] at a
  have b := s2 (P := P) (X := X) (Y := Y) (A := A) (S := S) (T := 1)
  exact (a.trans b).trans s6
/-- the counter behind k rounds -/
def X5 (P : P5) (S : Int) (k : Nat) : Int := (P.first + k * S) % P.wide
theorem X5_0 (p : P.Ok) : X5 P S 0 = P.first := by
  have := Int.emod_eq_of_lt p.f.1 p.f.2
  simp [X5, this]
theorem X5_s {k : Nat} : X5 P S (k + 1) = (X5 P S k + S) % P.wide := by
  simp only [X5, Int.emod_add_emod]
  congr 1
  rw [Int.natCast_succ, Int.add_mul, Int.one_mul, Int.add_assoc]
theorem rounds5 (p : P.Ok) : ∀ k : Nat, (∀ j < k, X5 P S j ≠ P.goal) → R5 P (5 * k) (1, [P.first, 0, A, S, 0]) (1, [X5 P S k, (k : Int) % P.other, A, S, 0])
  | 0, _ => by
    rw [X5_0 p]
    have := Int.emod_eq_of_lt (Int.le_refl 0) (show 0 < P.other by have := p.o; omega)
    simp only [Int.natCast_zero, this]
    exact .zero
  | k + 1, h => by
    have a := rounds5 p k fun j hj => h j (by omega)
    have b := round (P := P) (X := X5 P S k) (Y := (k : Int) % P.other) (A := A) (S := S) (h k (by omega))
    have c := a.trans b
    rw [Int.emod_add_emod, ← X5_s] at c
    exact c
theorem stop7 : ¬ Sil (b5 P).rows (7, [X, Y, A, S, T]) := by
  rintro ⟨r, hr, hs⟩
  have : (b5 P).rows[7]? = P.last.rows[0]? := rfl
  rw [this] at hr
  cases hl : P.last with
  | tell => rw [hl] at hr; simp [Lst.rows] at hr; subst hr; simp [Row.sil] at hs
  | halt => rw [hl] at hr; simp [Lst.rows] at hr; subst hr; simp [Row.sil] at hs
  | none => rw [hl] at hr; simp [Lst.rows] at hr
end
end KW.P

set_option linter.all false
set_option maxRecDepth 100000
set_option maxHeartbeats 400000
/-! k05: told, or round and round -/
namespace KW.P
open PySem L2 KW TL
section
variable {P : P5} {A S : Int} {c0 : Cf} {n0 : Nat}
theorem told5 (p : P.Ok) {k : Nat} (h0 : n0 ≤ 1) (hc : R5 P n0 c0 (1, [P.first, 0, A, S, 0])) (hk : k < 1000) (hg : X5 P S k = P.goal) (hn : ∀ j < k, X5 P S j ≠ P.goal) :
    run NS5 (Z5 P) (b5 P).rows 10000 [] c0.1 c0.2 = some (stopR (b5 P).rows (7, [P.goal, (k : Int) % P.other, A, S, ((k : Int) % P.other + P.goal) % 1000])) := by
  have a := (hc.trans (rounds5 p k hn)).trans (last3 (P := P) (Y := (k : Int) % P.other) (A := A) (S := S) hg)
  rw [hg] at a
  exact run_to a stop7 (by omega)
/-- what stands round and round -/
def Iv (P : P5) (A S : Int) (c : Cf) : Prop := ∃ (i j : Nat) (Y : Int), c = (i, [X5 P S j, Y, A, S, 0]) ∧ (1 ≤ i ∧ i ≤ 5) ∧ 0 ≤ Y ∧ Y < P.other
def U5 (P : P5) (A S : Int) : List Cf := ([1, 2, 3, 4, 5] : List Nat).flatMap fun i => (List.range P.wide.toNat).flatMap fun (x : Nat) => (List.range P.other.toNat).map fun (y : Nat) => (i, [(x : Int), (y : Int), A, S, 0])
theorem len_fm {α β : Type} {f : α → List β} {c : Nat} (h : ∀ a, (f a).length = c) : ∀ l : List α, (l.flatMap f).length = l.length * c
  | [] => by simp
  | a :: l => by rw [List.flatMap_cons, List.length_append, h, len_fm h l, List.length_cons, Nat.succ_mul, Nat.add_comm]
theorem u5_len (p : P.Ok) : (U5 P A S).length ≤ 9900 := by
  unfold U5
  rw [len_fm (c := P.wide.toNat * P.other.toNat) (fun i => by rw [len_fm (c := P.other.toNat) (fun x => by simp), List.length_range])]
  have h := p.b
  have hw := p.w; have ho := p.o
  have e : ((P.wide.toNat * P.other.toNat : Nat) : Int) = P.wide * P.other := by
    rw [Int.natCast_mul, Int.toNat_of_nonneg (by omega), Int.toNat_of_nonneg (by omega)]
  simp only [List.length_cons, List.length_nil]
  omega
theorem iv_in (p : P.Ok) {c : Cf} (h : Iv P A S c) : c ∈ U5 P A S := by
  obtain ⟨i, j, Y, rfl, hi, y0, y1⟩ := h
  have hw := p.w
  have x0 : 0 ≤ X5 P S j := Int.emod_nonneg _ (by omega)
  have x1 : X5 P S j < P.wide := Int.emod_lt_of_pos _ (by omega)
  refine List.mem_flatMap.mpr ⟨i, ?_, List.mem_flatMap.mpr ⟨(X5 P S j).toNat, List.mem_range.mpr (by omega), List.mem_map.mpr ⟨Y.toNat, List.mem_range.mpr (by omega), ?_⟩⟩⟩
  · simp only [List.mem_cons, List.not_mem_nil, or_false]; omega
  · rw [Int.toNat_of_nonneg x0, Int.toNat_of_nonneg y0]
theorem iv_go (p : P.Ok) (hn : ∀ j, X5 P S j ≠ P.goal) {c : Cf} (h : Iv P A S c) : Sil (b5 P).rows c ∧ Iv P A S (nx NS5 (Z5 P) (b5 P).rows c) := by
  obtain ⟨i, j, Y, rfl, hi, y0, y1⟩ := h
  have q : ∀ {d : Cf}, R5 P 1 (i, [X5 P S j, Y, A, S, 0]) d → Iv P A S d → Sil (b5 P).rows (i, [X5 P S j, Y, A, S, 0]) ∧ Iv P A S (nx NS5 (Z5 P) (b5 P).rows (i, [X5 P S j, Y, A, S, 0])) := fun {d} r v => by
    have e : nx NS5 (Z5 P) (b5 P).rows (i, [X5 P S j, Y, A, S, 0]) = d := r.e
    exact ⟨r.s 0 (by decide), e ▸ v⟩
  obtain rfl | rfl | rfl | rfl | rfl : i = 1 ∨ i = 2 ∨ i = 3 ∨ i = 4 ∨ i = 5 := by omega
  · have a := s1 (P := P) (X := X5 P S j) (Y := Y) (A := A) (S := S) (T := 0)
    rw [if_neg (hn j)] at a
    exact q a ⟨2, j, Y, rfl, by decide, y0, y1⟩
  · have a := s2 (P := P) (X := X5 P S j) (Y := Y) (A := A) (S := S) (T := 0)
    exact q a ⟨3, j, Y, rfl, by decide, y0, y1⟩
  · have a := s3 (P := P) (X := X5 P S j) (Y := Y) (A := A) (S := S) (T := 0)
    rw [← X5_s] at a
    exact q a ⟨4, j + 1, Y, rfl, by decide, y0, y1⟩
  · have a := s4 (P := P) (X := X5 P S j) (Y := Y) (A := A) (S := S) (T := 0)
    exact q a ⟨5, j, _, rfl, by decide, Int.emod_nonneg _ (by omega), Int.emod_lt_of_pos _ (by omega)⟩
  · have a := s5 (P := P) (X := X5 P S j) (Y := Y) (A := A) (S := S) (T := 0)
    exact q a ⟨1, j, Y, rfl, by decide, y0, y1⟩
theorem ring5 (p : P.Ok) (h0 : n0 ≤ 1) (hc : R5 P n0 c0 (1, [P.first, 0, A, S, 0])) (hn : ∀ j, X5 P S j ≠ P.goal) : ∃ vs', run NS5 (Z5 P) (b5 P).rows 10000 [] c0.1 c0.2 = some (none, vs') := by
  have v0 : Iv P A S (1, [P.first, 0, A, S, 0]) := ⟨1, 0, 0, by rw [X5_0 p], by decide, Int.le_refl 0, by have := p.o; omega⟩
  have v : ∀ k, Iv P A S (it NS5 (Z5 P) (b5 P).rows k (1, [P.first, 0, A, S, 0])) := by
    intro k
    induction k with
    | zero => exact v0
    | succ k ih => rw [it_s]; exact (iv_go p hn ih).2
  have ul := u5_len (A := A) (S := S) p
  refine run_ring (U := c0 :: U5 P A S) (fun k => ?_) (by simp only [List.length_cons]; omega)
  by_cases z : k < n0
  · have : k = 0 := by omega
    subst this
    exact ⟨List.mem_cons_self .., hc.s 0 z⟩
  · obtain ⟨j, rfl⟩ : ∃ j, k = n0 + j := ⟨k - n0, by omega⟩
    rw [it_add, hc.e]
    exact ⟨List.mem_cons_of_mem _ (iv_in p (v j)), (iv_go p hn (v j)).1⟩
/-- how many rounds -/
def kf (P : P5) (S : Int) : Option Nat := (List.range P.wide.toNat).find? fun k => decide (X5 P S k = P.goal)
theorem X5_per (p : P.Ok) (k : Nat) : X5 P S k = X5 P S (k % P.wide.toNat) := by
  have hw := p.w
  have e : (P.wide.toNat : Int) = P.wide := Int.toNat_of_nonneg (by omega)
  have d := Nat.div_add_mod k P.wide.toNat
  have d2 : (k : Int) = P.wide * ((k / P.wide.toNat : Nat) : Int) + ((k % P.wide.toNat : Nat) : Int) := by
    have := congrArg (fun n : Nat => (n : Int)) d
    simp only [Int.natCast_add, Int.natCast_mul, e] at this
    exact this.symm
  simp only [X5]
  rw [d2, Int.add_mul, Int.mul_assoc, Int.add_comm (P.wide * _) _, ← Int.add_assoc, Int.add_mul_emod_self_left]
theorem kf_none (p : P.Ok) (h : kf P S = none) : ∀ j, X5 P S j ≠ P.goal := fun j e => by
  have hw := p.w
  rw [X5_per p] at e
  have := List.find?_eq_none.mp h (j % P.wide.toNat) (List.mem_range.mpr (Nat.mod_lt _ (by omega)))
  simp [e] at this
theorem kf_some {k : Nat} (h : kf P S = some k) : X5 P S k = P.goal ∧ k < P.wide.toNat ∧ ∀ j < k, X5 P S j ≠ P.goal := by
  have h1 := List.find?_some h
  have h2 := List.mem_of_find?_eq_some h
  refine ⟨by simpa using h1, List.mem_range.mp h2, fun j hj e => ?_⟩
  obtain ⟨_, as, bs, he, hb⟩ := List.find?_eq_some_iff_append.mp h
  have hlen : as.length = k := by
    have := congrArg (fun l : List Nat => l[as.length]?) he
    simp only [List.getElem?_append_right (Nat.le_refl _), Nat.sub_self, List.getElem?_cons_zero] at this
    have hl : as.length < P.wide.toNat := by
      have := congrArg List.length he
      simp at this; omega
    rw [List.getElem?_range hl] at this
    simpa using this
  have hj2 : j ∈ as := by
    have := congrArg (fun l : List Nat => l[j]?) he
    have hl : j < P.wide.toNat := by have := List.mem_range.mp h2; omega
    simp only [List.getElem?_append_left (show j < as.length by omega), List.getElem?_range hl] at this
    exact List.mem_of_getElem? this.symm
  have := hb j hj2
  simp [e] at this
end
end KW.P

set_option linter.all false
set_option maxRecDepth 100000
set_option maxHeartbeats 400000
/-! k05: what is told, what is due -/
namespace KW.P
open PySem L2 KW TL
section
variable {P : P5} {S : Int} {k : Nat} {h : WH}
def reply5 (P : P5) (S : Int) : Rp := match kf P S with
  | none => .dead
  | some k => match P.last with
    | .tell => .tell (((k : Int) % P.other + P.goal) % 1000 % 4) [P.goal, (k : Int) % P.other]
    | _ => .dead
theorem rp5 {Y A T : Int} : rpOf (hs5 P).fc.size NS5 (hs5 P).cells.length "d" (b5 P).rows (stopR (b5 P).rows (7, [P.goal, Y, A, S, T])) = match P.last with | .tell => .tell (T % 4) [P.goal, Y] | _ => .dead := by
  have e : (b5 P).rows[7]? = P.last.rows[0]? := rfl
  unfold stopR
  simp only [e]
  cases hl : P.last with
  | tell =>
    have e2 : (b5 P).rows[7]? = some (.tell (.nm "t")) := by rw [e, hl]; rfl
    have w := (wo5 (X := P.goal) (Y := Y) (A := A) (S := S) (T := T)).2.2.2.2
    simp only [Lst.rows, List.getElem?_cons_zero, rpOf, e2, w]
    rfl
  | halt => simp [Lst.rows, rpOf]
  | none => simp [Lst.rows, rpOf]
theorem any5 (p : P.Ok) {c0 : Cf} {n0 : Nat} {A : Int} (h0 : n0 ≤ 1) (hc : R5 P n0 c0 (1, [P.first, 0, A, S, 0])) : ∃ x, run NS5 (Z5 P) (b5 P).rows 10000 [] c0.1 c0.2 = some x ∧ rpOf (hs5 P).fc.size NS5 (hs5 P).cells.length "d" (b5 P).rows x = reply5 P S := by
  unfold reply5
  cases hk : kf P S with
  | none =>
    obtain ⟨vs', e⟩ := ring5 p h0 hc (kf_none p hk)
    exact ⟨_, e, rfl⟩
  | some k =>
    obtain ⟨h1, h2, h3⟩ := kf_some hk
    have hw := p.w
    refine ⟨_, told5 p h0 hc (by omega) h1 h3, ?_⟩
    rw [rp5]
theorem knock5 (p : P.Ok) (ha : P.ask = false) : prg (k + 6) i_houses_House_knock [hsW (hs5 P), .tup [.int P.first, .int 0], .str "d", .int 2] h = .ok (reply5 P P.step).w h := by
  have e : P.step % 1000 = P.step := Int.emod_eq_of_lt p.s.1 (by have := p.s; omega)
  have pf := p.f; have pw := p.w
  have a := s0 (P := P) (X := P.first) (Y := 0) (A := 2) (S := 0) (T := 0) ha
  rw [e] at a
  obtain ⟨x, hx, hr⟩ := any5 p (Nat.le_refl 1) a
  have K := knock_ok (k := k) (h := h) (st := [P.first, 0]) (n := 2) (door5 p) rfl (fun v hv => by
    simp only [List.mem_cons, List.not_mem_nil, or_false] at hv
    rcases hv with rfl | rfl <;> omega) (by decide) hx
  rw [ns5, hr] at K
  exact K
theorem knock5a (p : P.Ok) (ha : P.ask = true) : prg (k + 6) i_houses_House_knock [hsW (hs5 P), .tup [.int P.first, .int 0], .str "d", .int 2] h = .ok (.tup [.str "ask", .str "p", .int 2, .tup [.int P.first, .int 0], .tup [.str "d", .int 0, .tup [.int 2, .int 0, .int 0]]]) h := by
  have pf := p.f; have pw := p.w
  have hr : (b5 P).rows[0]? = some (.ask "p" (.nm "a") "s") := by
    show some (r0 P.ask P.step) = _
    rw [ha]; rfl
  have hx : run NS5 (Z5 P) (b5 P).rows 10000 [] 0 [P.first, 0, 2, 0, 0] = some (some 0, [P.first, 0, 2, 0, 0]) := by
    rw [show (10000 : Nat) = 9999 + 1 from rfl, run, hr]; rfl
  have K := knock_ok (k := k) (h := h) (st := [P.first, 0]) (n := 2) (door5 p) rfl (fun v hv => by
    simp only [List.mem_cons, List.not_mem_nil, or_false] at hv
    rcases hv with rfl | rfl <;> omega) (by decide) hx
  have w := (wo5 (X := P.first) (Y := 0) (A := 2) (S := 0) (T := 0)).2.2.1
  have e2 : rpOf (hs5 P).fc.size NS5 (hs5 P).cells.length "d" (b5 P).rows (some 0, [P.first, 0, 2, 0, 0]) = .ask "p" 2 [P.first, 0] "d" 0 [2, 0, 0] := by
    simp only [rpOf, hr, w]; rfl
  rw [ns5, e2] at K
  exact K
theorem answer5 (p : P.Ok) (ha : P.ask = true) {w : Int} (w0 : 0 ≤ w) (w1 : w < 4) : prg (k + 6) i_houses_House_answer [hsW (hs5 P), .tup [.int P.first, .int 0], .tup [.str "d", .int 0, .tup [.int 2, .int 0, .int 0]], .int w] h = .ok (reply5 P w).w h := by
  have pf := p.f; have pw := p.w
  have hr : (b5 P).rows[0]? = some (.ask "p" (.nm "a") "s") := by
    show some (r0 P.ask P.step) = _
    rw [ha]; rfl
  obtain ⟨x, hx, he⟩ := any5 (c0 := (1, [P.first, 0, 2, w, 0])) (n0 := 0) (S := w) (A := 2) p (by decide) .zero
  have e : w % 1000 = w := Int.emod_eq_of_lt w0 (by omega)
  have pv := (pu5 (P := P) (X := P.first) (Y := 0) (A := 2) (S := 0) (T := 0) (v := w)).2.2.1
  rw [e] at pv
  have hx2 : run NS5 (Z5 P) (b5 P).rows 10000 [] (0 + 1) (putV NS5 (Z5 P) ([P.first, 0] ++ [2, 0, 0]) "s" w) = some x := by
    show run NS5 (Z5 P) (b5 P).rows 10000 [] 1 (putV NS5 (Z5 P) [P.first, 0, 2, 0, 0] "s" w) = some x
    rw [pv]; exact hx
  have K := answer_ok (k := k) (h := h) (st := [P.first, 0]) (own := [2, 0, 0]) (n := w) (row := 0) (p := "p") (y := "s") (t := .nm "a") (door5 p) rfl rfl (fun v hv => by
    simp only [List.mem_cons, List.not_mem_nil, or_false] at hv
    rcases hv with rfl | rfl <;> omega) (fun v hv => by
    simp only [List.mem_cons, List.not_mem_nil, or_false] at hv
    rcases hv with rfl | rfl | rfl <;> decide) hr hx2
  rw [ns5, he] at K
  exact K
theorem compL_ft {α : Type} {ws0 : List W} {t : W → WS → Option WS} {cond : EB} {elt : EV} {sw : WS} (g f : α → W) (q : α → Bool) : ∀ (l : List α) (acc : List W), (∀ a ∈ l, ∃ sw1, t (g a) sw = some sw1 ∧ cond sw1 h = .ok (q a) h ∧ elt sw1 h = .ok (f a) h) → acc.length + l.length ≤ lim → compL none ws0 t cond elt sw (l.map g) acc h = .ok (acc ++ (l.filter q).map f) h
  | [], acc, _, _ => by unfold compL; simp [srcOk]
  | a :: l, acc, st, hl => by
    obtain ⟨sw1, e1, e2, e3⟩ := st a (List.mem_cons_self ..)
    simp only [List.length_cons] at hl
    have z : srcOk none ws0 h = true := rfl
    rw [List.map_cons]
    unfold compL
    rw [if_pos z, e1]
    cases hq : q a with
    | true =>
      rw [hq] at e2
      simp only [e2, e3]
      rw [if_pos (by omega), compL_ft g f q l (acc ++ [f a]) (fun u hu => st u (List.mem_cons_of_mem _ hu)) (by simp only [List.length_append, List.length_singleton]; omega)]
      simp [hq]
    | false =>
      rw [hq] at e2
      simp only [e2]
      rw [compL_ft g f q l acc (fun u hu => st u (List.mem_cons_of_mem _ hu)) (by omega)]
      simp [hq]
theorem rounds_ok (p : P.Ok) (s0 : 0 ≤ S) (s1 : S < 1000) : prg (k + 1) i_L_rounds [.int P.first, .int S, .int P.wide, .int P.goal] h = .ok (.int (match kf P S with | some k => (k : Int) | none => -1)) h := by
  rw [r_L_rounds (show [W.int P.first, .int S, .int P.wide, .int P.goal].length = 4 from rfl)]
  have pw := p.w; have pf := p.f
  have wn : (P.wide.toNat : Int) = P.wide := Int.toNat_of_nonneg (by omega)
  have rl : (-(lim : Int) ≤ P.wide) ∧ P.wide ≤ (lim : Int) := by
    have : (lim : Int) = 1000000 := rfl
    omega
  have w0 : 0 < P.wide := by omega
  have rr : rngW 0 P.wide.toNat = (List.range P.wide.toNat).map fun i => W.int (i : Nat) := by simp [rngW]
  have c := compL_ft (h := h) (ws0 := rngW 0 P.wide.toNat) (t := tgW (.nm 5)) (cond := dTst (dOp (fEq false) (dOp (fMod) (dOp (fAdd false) (dVar 0) (dOp (fMul false) (dVar 5) (dVar 1))) (dVar 2)) (dVar 3))) (elt := dVar 5) (sw := wipeW [some (.int P.first), some (.int S), some (.int P.wide), some (.int P.goal), none, none] [5]) (fun i : Nat => W.int (i : Nat)) (fun i => .int (i : Nat)) (fun k => decide (X5 P S k = P.goal)) (List.range P.wide.toNat) [] (fun i hi => ⟨_, rfl, by
    have hi := List.mem_range.mp hi
    have m : mulB (i : Int) S = true := mulB_of 100 (by omega) (by omega) (by decide)
    simp [wipeW, m, w0, eqN]
    rfl, by simp [wipeW]⟩) (by simp; unfold lim; omega)
  rw [← rr, List.nil_append] at c
  have kd : kf P S = ((List.range P.wide.toNat).filter fun k => decide (X5 P S k = P.goal)).head? := by
    rw [List.head?_filter]; rfl
  rw [kd]
  generalize (List.range P.wide.toNat).filter (fun k => decide (X5 P S k = P.goal)) = l at *
  have il : ∀ l : List Nat, (l.map fun i => W.int (i : Nat)) = itW (l.map fun (i : Nat) => (i : Int)) := fun l => by simp [itW]
  have e2 : ∀ g : WH, datH g (.lst (l.map fun i => W.int (i : Nat))) = some (.list ((l.map fun (i : Nat) => (i : Int)).map .int)) := fun g => by
    simp only [datH, lstOf, il, dats_int]; rfl
  have e1 : ∀ g : WH, datH g (.lst []) = some (.list []) := fun g => rfl
  have ne : ∀ g : WH, fEq true (.lst (l.map fun i => W.int (i : Nat))) (.lst []) g = .ok (.bl (!l.isEmpty)) g := fun g => by
    have s1 : SeqAt.shaped (.list ((l.map fun (i : Nat) => (i : Int)).map .int)) = true := by
      simp only [SeqAt.shaped, PyData.canLay0, PyData.depth, lay_int, dpt_int]; rfl
    have s2 : SeqAt.shaped (.list []) = true := rfl
    have s3 : PyData.eqv (.list ((l.map fun (i : Nat) => (i : Int)).map .int)) (.list []) = l.isEmpty := by
      cases l with
      | nil => rfl
      | cons a l => simp [PyData.eqv, PyData.eqvAll]
    have sc : scalW (.lst (l.map fun i => W.int (i : Nat))) (.lst []) = none := rfl
    simp only [fEq, sc, e1, e2, s1, s2, s3, and_self, if_true]
    cases l <;> rfl
  cases l with
  | nil =>
    have n1 := ne h
    simp only [List.map_nil, List.isEmpty_nil, Bool.not_true] at n1 c
    simp [d_L_rounds, rl, c, lm, n1]
  | cons a l =>
    have n1 := ne h
    simp only [List.map_cons, List.isEmpty_cons, Bool.not_false] at n1 c
    simp [d_L_rounds, rl, c, lm, n1]
def Lst.w : Lst → W | .tell => .tup [.str "tell", .str "t"] | .halt => .tup [.str "halt"] | .none => .non
theorem due5 (p : P.Ok) (s0 : 0 ≤ S) (s1 : S < 1000) : prg (k + 2) i_L_due [.int P.first, .int P.goal, .int P.wide, .int P.other, .int S, P.last.w] h = .ok (reply5 P S).w h := by
  rw [r_L_due (show [W.int P.first, .int P.goal, .int P.wide, .int P.other, .int S, P.last.w].length = 6 from rfl)]
  have r := rounds_ok (k := k) (h := h) p s0 s1
  have po : 0 < P.other := by have := p.o; omega
  unfold reply5
  cases hk : kf P S with
  | none =>
    rw [hk] at r
    simp [d_L_due, r, eqN, lm, Rp.w]
  | some j =>
    rw [hk] at r
    have nj : ¬ (j : Int) = -1 := by omega
    have cm : P.goal + (j : Int) % P.other = (j : Int) % P.other + P.goal := Int.add_comm _ _
    cases hl : P.last with
    | none => simp [d_L_due, r, eqN, nj, lm, Rp.w, Lst.w, fIs]
    | halt => simp [d_L_due, r, eqN, eqS, nj, lm, Rp.w, Lst.w, fIs]
    | tell => simp [d_L_due, r, eqN, eqS, nj, lm, Rp.w, Lst.w, fIs, wd6, po, cm, itW]
end
end KW.P

set_option linter.all false
set_option maxRecDepth 100000
set_option maxHeartbeats 1000000
/-! k05: the law -/
namespace KW.P
open PySem L2 KW TL
def q5W (Φ : Fns) : EW := (sSeq (sSet 15 (dCall (Φ i_L_due) (aCons (dVar 10) (aCons (dVar 11) (aCons (dVar 6) (aCons (dVar 7) (aCons (dVar 14) (aCons (dVar 4) (aNil)))))))))
 (sSeq (sIf (dTst (dOp (fEq true) (dBi bRepr (aCons (dMt mtT Φ mt_answer (dVar 9) (aCons (dTup (aCons (dVar 10) (aCons (dC (.int 0)) (aNil)))) (aCons (dVar 13) (aCons (dVar 14) (aNil))))) (aNil))) (dBi bRepr (aCons (dVar 15) (aNil))))) (sSeq (sRet (dC (.bl false)))
 (sNil)) (sNil))
 (sNil)))
def q5T (Φ : Fns) : EW := (sSeq (sPar 4 5 (aCons (dCall (Φ i_L_of) (aCons (dVar 2) (aCons (dLst false (aCons (dTup (aCons (dC (.str ("tell" : Str))) (aCons (dC (.str ("t" : Str))) (aNil)))) (aCons (dTup (aCons (dC (.str ("tell" : Str))) (aCons (dC (.str ("t" : Str))) (aNil)))) (aCons (dTup (aCons (dC (.str ("tell" : Str))) (aCons (dC (.str ("t" : Str))) (aNil)))) (aCons (dTup (aCons (dC (.str ("halt" : Str))) (aNil))) (aCons (dC .non) (aNil))))))) (aNil)))) (aCons (dOp (fEq false) (dOp (fMod) (dVar 3) (dC (.int 2))) (dC (.int 1))) (aNil))))
 (sSeq (sTgL [.nm 6, .nm 7] (dCall (Φ i_L_of) (aCons (dVar 2) (aCons (dLst false (aCons (dLst false (aCons (dC (.int 1000)) (aCons (dC (.int 1)) (aNil)))) (aCons (dLst false (aCons (dC (.int 999)) (aCons (dC (.int 1)) (aNil)))) (aCons (dLst false (aCons (dC (.int 40)) (aCons (dC (.int 39)) (aNil)))) (aCons (dLst false (aCons (dC (.int 36)) (aCons (dC (.int 27)) (aNil)))) (aCons (dLst false (aCons (dC (.int 24)) (aCons (dC (.int 1)) (aNil)))) (aCons (dLst false (aCons (dC (.int 1)) (aCons (dC (.int 30)) (aNil)))) (aCons (dLst false (aCons (dC (.int 960)) (aCons (dC (.int 2)) (aNil)))) (aNil))))))))) (aNil)))))
 (sSeq (sSet 8 (dCall (Φ i_L_of) (aCons (dVar 2) (aCons (dLst false (aCons (dC (.int 0)) (aCons (dC (.int 1)) (aCons (dC (.int 2)) (aCons (dC (.int 3)) (aCons (dC (.int 5)) (aCons (dC (.int 6)) (aCons (dC (.int 12)) (aCons (dC (.int 35)) (aCons (dC (.int 997)) (aNil))))))))))) (aNil)))))
 (sSeq (sTg (tgW (.tup [.nm 9, .nm 10, .nm 11])) (dCall (Φ i_L_house) (aCons (dVar 2) (aCons (dVar 6) (aCons (dVar 7) (aCons (dVar 8) (aCons (dVar 5) (aCons (dVar 4) (aNil)))))))))
 (sSeq (sSet 12 (dMt mtT Φ mt_knock (dVar 9) (aCons (dMt mtT Φ mt_first (dVar 9) aNil) (aCons (dC (.str ("d" : Str))) (aCons (dC (.int 2)) (aNil))))))
 (sSeq (sIf (dNotT (dTru (dVar 5))) (sSeq (sIf (dTst (dOp (fEq true) (dBi bRepr (aCons (dVar 12) (aNil))) (dBi bRepr (aCons (dCall (Φ i_L_due) (aCons (dVar 10) (aCons (dVar 11) (aCons (dVar 6) (aCons (dVar 7) (aCons (dVar 8) (aCons (dVar 4) (aNil)))))))) (aNil))))) (sSeq (sRet (dC (.bl false)))
 (sNil)) (sNil))
 (sSeq (sCont)
 (sNil))) (sNil))
 (sSeq (sSet 13 (dTup (aCons (dC (.str ("d" : Str))) (aCons (dC (.int 0)) (aCons (dTup (aCons (dC (.int 2)) (aCons (dC (.int 0)) (aCons (dC (.int 0)) (aNil))))) (aNil))))))
 (sSeq (sIf (dTst (dOp (fEq true) (dBi bRepr (aCons (dVar 12) (aNil))) (dBi bRepr (aCons (dTup (aCons (dC (.str ("ask" : Str))) (aCons (dC (.str ("p" : Str))) (aCons (dC (.int 2)) (aCons (dTup (aCons (dVar 10) (aCons (dC (.int 0)) (aNil)))) (aCons (dVar 13) (aNil))))))) (aNil))))) (sSeq (sRet (dC (.bl false)))
 (sNil)) (sNil))
 (sSeq (sFor (iRg1 (aCons (dC (.int 4)) (aNil))) (.nm 14) (q5W Φ))
 (sNil))))))))))
def q5O (Φ : Fns) : EW := (sSeq (sSet 2 (dCall (Φ i_L_hand) (aCons (dVar 0) (aCons (dVar 1) (aNil)))))
 (sSeq (sFor (iRg1 (aCons (dC (.int 4)) (aNil))) (.nm 3) (q5T Φ))
 (sNil)))
theorem law5_eq (Φ : Fns) : d_L_law Φ = 
 sSeq (sFor (iRg1 (aCons (dOp (fAdd false) (dC (.int 1)) (dBi bMin2 (aCons (dC (.int 3)) (aCons (dBi bLen (aCons (dVar 0) (aNil))) (aNil))))) (aNil))) (.nm 1) (q5O Φ))
 (sSeq (sRet (dC (.bl true)))
 (sNil)) := rfl
theorem cut8 {a b c d e f g x : W} : cutW [a, b, c, d, e, f, g, x] none (some (-1)) = [a, b, c, d, e, f, g] := rfl
theorem first5 {k : Nat} {h : WH} {P : P5} : prg (k + 1) i_houses_House_first [hsW (hs5 P)] h = .ok (.tup [.int P.first, .int 0]) h := by
  rw [r_houses_House_first (show [hsW (hs5 P)].length = 1 from rfl)]
  have c := compL_mt (ws0 := (hs5 P).cells.map Cl.w) (t := tgW (.tup [.nm 1, .nm 2, .nm 3])) (elt := dVar 3) (sw := wipeW [some (hsW (hs5 P)), none, none, none] [1, 2, 3]) (h := h) Cl.w (fun c => .int c.fst) (hs5 P).cells [] (fun c hc => ⟨_, rfl, by
    simp [wipeW]⟩) (by simp [hs5, lm])
  rw [List.nil_append] at c
  simp [d_houses_House_first, insOf, lh, c, bTup, lstOf]
  rfl
theorem house5 {k N : Nat} {h : WH} {r : Nat} {a : Hd} {wide other step : Int} {ask : Bool} {last : Lst} (hr : h[r]? = some (HO a)) (ha : a.Ok N) (hN : N < 500000) (hw : 1 ≤ wide ∧ wide ≤ 1000) (ho : 1 ≤ other ∧ other ≤ 1000) (hs : 0 ≤ step ∧ step ≤ 999) (hb : 5 * (wide * other) ≤ 9900) :
    ∃ (a' : Hd) (first goal : Int), prg (k + 9) i_L_house [.ref r, .int wide, .int other, .int step, .bl ask, last.w] h = .ok (.tup [hsW (hs5 ⟨wide, other, first, step, goal, ask, last⟩), .int first, .int goal]) (h.set r (HO a')) ∧ (⟨wide, other, first, step, goal, ask, last⟩ : P5).Ok ∧ a'.Ok (N + 2) := by
  have hr' := (List.getElem?_eq_some_iff.mp hr).1
  obtain ⟨goal, a1, e1, g0, g1, ok1⟩ := take_ok (k := k + 7) (n := wide) hr ha (by omega) (by omega) (by omega)
  obtain ⟨first, a2, e2, f0, f1, ok2⟩ := take_ok (k := k + 7) (n := wide) (h := h.set r (HO a1)) (r := r) (List.getElem?_set_self hr') ok1 (by omega) (by omega) (by omega)
  rw [List.set_set] at e2
  have po : (⟨wide, other, first, step, goal, ask, last⟩ : P5).Ok := ⟨hw, ho, ⟨f0, f1⟩, ⟨g0, g1⟩, hs, hb⟩
  refine ⟨a2, first, goal, ?_, po, ok2⟩
  rw [r_L_house (show [W.ref r, .int wide, .int other, .int step, .bl ask, last.w].length = 6 from rfl)]
  have H := hs5_ok po
  have mf : ∀ g : WH, mkT iniT valT (prg (k + 8)) c_Face [.int 4, .tup [.str "d"], .tup [.str "p"]] g = .ok (faceW (hs5 ⟨wide, other, first, step, goal, ask, last⟩).fc) g := fun g => by
    have q := mk_face (k := k + 5) (h := g) H.f
    have ef : fcVs (hs5 ⟨wide, other, first, step, goal, ask, last⟩).fc = [.int 4, .tup [.str "d"], .tup [.str "p"]] := rfl
    rw [ef] at q
    exact q
  have ec : (hs5 ⟨wide, other, first, step, goal, ask, last⟩).cells.map Cl.w = [.tup [.str "x", .int wide, .int first], .tup [.str "y", .int other, .int 0]] := rfl
  have eb : (hs5 ⟨wide, other, first, step, goal, ask, last⟩).bodies.map Bd.w = [.tup [.str "a", .tup [.tup [.str "s", .int 1000], .tup [.str "t", .int 1000]], .tup ([(r0 ask step).w, .tup [.str "put", .str "t", .tup [.str "=", .str "x", .int goal]], .tup [.str "when", .str "t", .int 6], .tup [.str "put", .str "x", .tup [.str "+", .str "x", .str "s"]], .tup [.str "put", .str "y", .tup [.str "+", .str "y", .int 1]], .tup [.str "go", .int 1], .tup [.str "put", .str "t", .tup [.str "+", .str "y", .str "x"]]] ++ last.rows.map Row.w)]] := rfl
  have mh : ∀ g : WH, mkT iniT valT (prg (k + 8)) c_House [faceW (hs5 ⟨wide, other, first, step, goal, ask, last⟩).fc, .tup ((hs5 ⟨wide, other, first, step, goal, ask, last⟩).cells.map Cl.w), .tup ((hs5 ⟨wide, other, first, step, goal, ask, last⟩).bodies.map Bd.w)] g = .ok (hsW (hs5 ⟨wide, other, first, step, goal, ask, last⟩)) g := fun g => mk_house (k := k) H
  rw [ec, eb] at mh
  have ad : ∀ (a b : List W) (g : WH), a.length + b.length ≤ lim → fAdd false (.tup a) (.tup b) g = .ok (.tup (a ++ b)) g := fun a b g q => by simp only [fAdd, if_pos q]
  clear ec eb H
  generalize hsW (hs5 ⟨wide, other, first, step, goal, ask, last⟩) = HW at *
  generalize faceW (hs5 ⟨wide, other, first, step, goal, ask, last⟩).fc = FW at *
  cases ask <;> cases last <;> simp only [r0, Bool.false_eq_true, if_false, if_true, Row.w, Tld.w, Thg.w, Lst.rows, List.map_nil, List.map_cons, List.append_nil, List.cons_append, List.nil_append] at mh <;> simp [d_L_house, e1, e2, truW, bLen, seqOf, lm, ad, fIs, Lst.w, fSl, cut8, dMk, mf, mh]
end KW.P

set_option linter.all false
set_option maxRecDepth 100000
set_option maxHeartbeats 1000000
/-! k05: the law, run -/
namespace KW.P
open PySem L2 KW TL
def E1 (h : WH) (a : Ob) : WH := h ++ [a]
section
variable {h : WH} {a b : Ob}
theorem e1_0 : (E1 h a)[h.length]? = some a := by simp [E1]
theorem e1_s : (E1 h a).set h.length b = E1 h b := by simp [E1]
end
theorem rep5 {P : P5} (p : P.Ok) (S : Int) : ∃ s, ∀ g : WH, bRepr [(reply5 P S).w] g = .ok (.str s) g := by
  have pg := p.g; have pw := p.w; have po := p.o
  have hd : ∃ s, ∀ g : WH, bRepr [Rp.dead.w] g = .ok (.str s) g := by
    have a1 := nice_str (s := "dead") (n := 4) stell.2.2 (by decide +kernel)
    exact ⟨_, fun g => (nice_tup (.cons a1 .nil)).repr (by show 1 * (10 * 4 + 2 + 2) + 3 ≤ lim; decide) (by decide)⟩
  unfold reply5
  cases kf P S with
  | none => exact hd
  | some k =>
    cases P.last with
    | halt => exact hd
    | none => exact hd
    | tell =>
      have y0 : 0 ≤ (k : Int) % P.other := Int.emod_nonneg _ (by omega)
      have y1 : (k : Int) % P.other < P.other := Int.emod_lt_of_pos _ (by omega)
      have a1 := (nice_str (s := "tell") (n := 4) stell.1 (by decide +kernel)).mono (show 10 * 4 + 2 ≤ 91 by decide) (show 0 ≤ 1 by decide)
      have a2 := (nice_int (i := ((k : Int) % P.other + P.goal) % 1000 % 4) (by omega)).mono (show 42 ≤ 91 by decide) (show 0 ≤ 1 by decide)
      have a3 := (nice_tup (nices_ints (l := [P.goal, (k : Int) % P.other]) (fun i hi => by
        simp only [List.mem_cons, List.not_mem_nil, or_false] at hi
        rcases hi with rfl | rfl <;> omega))).mono (show 2 * (42 + 2) + 3 ≤ 91 by decide) (show 0 + 1 ≤ 1 by decide)
      exact ⟨_, fun g => (nice_tup (.cons a1 (.cons a2 (.cons a3 .nil)))).repr (by show 3 * (91 + 2) + 3 ≤ lim; decide) (by decide)⟩
theorem rep5a {P : P5} (p : P.Ok) : ∃ s, ∀ g : WH, bRepr [.tup [.str "ask", .str "p", .int 2, .tup [.int P.first, .int 0], .tup [.str "d", .int 0, .tup [.int 2, .int 0, .int 0]]]] g = .ok (.str s) g := by
  have pf := p.f; have pw := p.w
  obtain ⟨mx, my, ma, ms, mt, md, mp⟩ := nm5
  have f1 := (nice_str (ok_low md) md.2.1).mono (show 10 * 6 + 2 ≤ 135 by decide) (show 0 ≤ 1 by decide)
  have f2 := (nice_int (i := 0) (by decide)).mono (show 42 ≤ 135 by decide) (show 0 ≤ 1 by decide)
  have f3 := (nice_tup (nices_ints (l := [2, 0, 0]) (by decide))).mono (show 3 * (42 + 2) + 3 ≤ 135 by decide) (show 0 + 1 ≤ 1 by decide)
  have f := (nice_tup (.cons f1 (.cons f2 (.cons f3 .nil)))).mono (show 3 * (135 + 2) + 3 ≤ 414 by decide) (show 1 + 1 ≤ 2 by decide)
  have a1 := (nice_str (s := "ask") (n := 4) stell.2.1 (by decide +kernel)).mono (show 10 * 4 + 2 ≤ 414 by decide) (show 0 ≤ 2 by decide)
  have a2 := (nice_str (ok_low mp) mp.2.1).mono (show 10 * 6 + 2 ≤ 414 by decide) (show 0 ≤ 2 by decide)
  have a3 := (nice_int (i := 2) (by decide)).mono (show 42 ≤ 414 by decide) (show 0 ≤ 2 by decide)
  have a4 := (nice_tup (nices_ints (l := [P.first, 0]) (fun i hi => by
    simp only [List.mem_cons, List.not_mem_nil, or_false] at hi
    rcases hi with rfl | rfl <;> omega))).mono (show 2 * (42 + 2) + 3 ≤ 414 by decide) (show 0 + 1 ≤ 2 by decide)
  exact ⟨_, fun g => (nice_tup (.cons a1 (.cons a2 (.cons a3 (.cons a4 (.cons f .nil)))))).repr (by show 5 * (414 + 2) + 3 ≤ lim; decide) (by decide)⟩
abbrev fr5 : W := .tup [.str "d", .int 0, .tup [.int 2, .int 0, .int 0]]
section
variable {g : WH} {P : P5} {a : Hd} {v0 v1 v2 v3 y4 y5 y6 y7 y8 y9 y10 y11 y12 y13 y14 y15 : Option W}
theorem worth5 (p : P.Ok) (ha : P.ask = true) {w : Int} (w0 : 0 ≤ w) (w1 : w < 4) : q5W (prg 29) [v0, v1, v2, v3, some P.last.w, y5, some (.int P.wide), some (.int P.other), some (.int P.step), some (hsW (hs5 P)), some (.int P.first), some (.int P.goal), y12, some fr5, some (.int w), y15] g = .ok (.next [v0, v1, v2, v3, some P.last.w, y5, some (.int P.wide), some (.int P.other), some (.int P.step), some (hsW (hs5 P)), some (.int P.first), some (.int P.goal), y12, some fr5, some (.int w), some (reply5 P w).w]) g := by
  have d := due5 (k := 27) (h := g) p w0 (show w < 1000 by omega)
  have an := answer5 (k := 23) (h := g) p ha w0 w1
  obtain ⟨s, r⟩ := rep5 p w
  have m1 : mtT c_House mt_answer = some i_houses_House_answer := rfl
  simp [q5W, d, an, r, dMt, insOf, m1, lm, eqS]
theorem worths5 (p : P.Ok) (ha : P.ask = true) : ∃ z14 z15 : Option W, forL none (rngW 0 4) (tgW (.nm 14)) (q5W (prg 29)) (rngW 0 4) [v0, v1, v2, v3, some P.last.w, y5, some (.int P.wide), some (.int P.other), some (.int P.step), some (hsW (hs5 P)), some (.int P.first), some (.int P.goal), y12, some fr5, y14, y15] g = .ok (.next [v0, v1, v2, v3, some P.last.w, y5, some (.int P.wide), some (.int P.other), some (.int P.step), some (hsW (hs5 P)), some (.int P.first), some (.int P.goal), y12, some fr5, z14, z15]) g := by
  obtain ⟨sw', g', e, z14, z15, rfl, rfl⟩ := forL_run (src := none) (ws0 := rngW 0 4) (t := tgW (.nm 14)) (body := q5W (prg 29)) (items := rngW 0 4) (h := g) (sw := [v0, v1, v2, v3, some P.last.w, y5, some (.int P.wide), some (.int P.other), some (.int P.step), some (hsW (hs5 P)), some (.int P.first), some (.int P.goal), y12, some fr5, y14, y15])
    (fun i sw h' => ∃ z14 z15 : Option W, sw = [v0, v1, v2, v3, some P.last.w, y5, some (.int P.wide), some (.int P.other), some (.int P.step), some (hsW (hs5 P)), some (.int P.first), some (.int P.goal), y12, some fr5, z14, z15] ∧ h' = g) ⟨_, _, rfl, rfl⟩ (fun _ _ _ _ _ => rfl) (by
      rintro i w sw h' hw ⟨z14, z15, rfl, rfl⟩
      obtain ⟨rfl, hi⟩ := rng_get hw
      exact ⟨_, _, _, rfl, .inl (worth5 (w := (i : Nat)) p ha (by omega) (by omega)), _, _, rfl, rfl⟩)
  exact ⟨z14, z15, e⟩
theorem turn5 {N i : Nat} (ha : a.Ok N) (hN : N < 100000) (hi : i < 4) : ∃ (a' : Hd) (z : List (Option W)), z.length = 12 ∧ (q5T (prg 29) [v0, v1, some (.ref g.length), some (.int (i : Nat)), y4, y5, y6, y7, y8, y9, y10, y11, y12, y13, y14, y15] (E1 g (HO a)) = .ok (.next (v0 :: v1 :: some (.ref g.length) :: some (.int (i : Nat)) :: z)) (E1 g (HO a')) ∨ q5T (prg 29) [v0, v1, some (.ref g.length), some (.int (i : Nat)), y4, y5, y6, y7, y8, y9, y10, y11, y12, y13, y14, y15] (E1 g (HO a)) = .ok (.cont (v0 :: v1 :: some (.ref g.length) :: some (.int (i : Nat)) :: z)) (E1 g (HO a'))) ∧ a'.Ok (N + 10) := by
  obtain ⟨wl, a1, e1, hl, ok1⟩ := of_lst (k := 27) (ws := [.tup [.str "tell", .str "t"], .tup [.str "tell", .str "t"], .tup [.str "tell", .str "t"], .tup [.str "halt"], .non]) (h := E1 g (HO a)) (r := g.length) e1_0 ha (by omega) (by simp) (by decide)
  rw [e1_s] at e1
  obtain ⟨last, rfl⟩ : ∃ l : Lst, wl = l.w := by
    simp only [List.mem_cons, List.not_mem_nil, or_false] at hl
    rcases hl with rfl | rfl | rfl | rfl | rfl
    · exact ⟨.tell, rfl⟩
    · exact ⟨.tell, rfl⟩
    · exact ⟨.tell, rfl⟩
    · exact ⟨.halt, rfl⟩
    · exact ⟨.none, rfl⟩
  obtain ⟨wp, a2, e2, hp, ok2⟩ := of_lst (k := 27) (ws := [.lst [.int 1000, .int 1], .lst [.int 999, .int 1], .lst [.int 40, .int 39], .lst [.int 36, .int 27], .lst [.int 24, .int 1], .lst [.int 1, .int 30], .lst [.int 960, .int 2]]) (h := E1 g (HO a1)) (r := g.length) e1_0 ok1 (by omega) (by simp) (by decide)
  rw [e1_s] at e2
  obtain ⟨wide, other, rfl, hw, ho, hb⟩ : ∃ wide other : Int, wp = .lst [.int wide, .int other] ∧ (1 ≤ wide ∧ wide ≤ 1000) ∧ (1 ≤ other ∧ other ≤ 1000) ∧ 5 * (wide * other) ≤ 9900 := by
    simp only [List.mem_cons, List.not_mem_nil, or_false] at hp
    rcases hp with rfl | rfl | rfl | rfl | rfl | rfl | rfl <;> exact ⟨_, _, rfl, by decide, by decide, by decide⟩
  obtain ⟨wt, a3, e3, ht, ok3⟩ := of_lst (k := 27) (ws := [.int 0, .int 1, .int 2, .int 3, .int 5, .int 6, .int 12, .int 35, .int 997]) (h := E1 g (HO a2)) (r := g.length) e1_0 ok2 (by omega) (by simp) (by decide)
  rw [e1_s] at e3
  obtain ⟨step, rfl, hs⟩ : ∃ b : Int, wt = .int b ∧ 0 ≤ b ∧ b ≤ 999 := by
    simp only [List.mem_cons, List.not_mem_nil, or_false] at ht
    rcases ht with rfl | rfl | rfl | rfl | rfl | rfl | rfl | rfl | rfl <;> exact ⟨_, rfl, by decide⟩
  generalize hq : decide ((i : Int) % 2 = 1) = ask
  obtain ⟨a4, first, goal, e4, po, ok4⟩ := house5 (k := 20) (h := E1 g (HO a3)) (r := g.length) (ask := ask) (last := last) e1_0 ok3 (by omega) hw ho hs hb
  rw [e1_s] at e4
  generalize hP : (⟨wide, other, first, step, goal, ask, last⟩ : P5) = P at *
  have w0 : wide = P.wide := by rw [← hP]
  have w1 : other = P.other := by rw [← hP]
  have w2 : first = P.first := by rw [← hP]
  have w3 : step = P.step := by rw [← hP]
  have w4 : goal = P.goal := by rw [← hP]
  have w5 : ask = P.ask := by rw [← hP]
  have w6 : last = P.last := by rw [← hP]
  clear hP
  subst w0 w1 w2 w3 w4 w5 w6
  have m1 : mtT c_House mt_knock = some i_houses_House_knock := rfl
  have m2 : mtT c_House mt_first = some i_houses_House_first := rfl
  have fi := first5 (k := 28) (h := E1 g (HO a4)) (P := P)
  have lu : ∀ gg : WH, lstOf gg (.lst [.int P.wide, .int P.other]) = some [.int P.wide, .int P.other] := fun gg => rfl
  have t2 : ∀ (i j : Nat) (a b : W) (sw : WS), tgWs [.nm i, .nm j] [a, b] sw = some ((sw.set i (some a)).set j (some b)) := fun i j a b sw => rfl
  have l9 : 9 ≤ lim := by decide
  cases hk : P.ask with
  | false =>
    rw [hk] at e4 hq
    have K := knock5 (k := 23) (h := E1 g (HO a4)) po hk
    have du := due5 (k := 27) (h := E1 g (HO a4)) po po.s.1 (show P.step < 1000 by have := po.s; omega)
    obtain ⟨s, r⟩ := rep5 po P.step
    refine ⟨a4, [some P.last.w, some (.bl false), some (.int P.wide), some (.int P.other), some (.int P.step), some (hsW (hs5 P)), some (.int P.first), some (.int P.goal), some (reply5 P P.step).w, y13, y14, y15], rfl, .inr ?_, ok4.mono (by omega)⟩
    simp [q5T, e1, e2, e3, e4, hq, eqN, lu, t2, tg3, dMt, insOf, m1, m2, fi, K, du, r, eqS, lm, l9, truW, sCont]
  | true =>
    rw [hk] at e4 hq
    have K := knock5a (k := 23) (h := E1 g (HO a4)) po hk
    obtain ⟨s, r⟩ := rep5a po
    obtain ⟨z14, z15, el⟩ := worths5 (g := E1 g (HO a4)) (v0 := v0) (v1 := v1) (v2 := some (.ref g.length)) (v3 := some (.int (i : Nat))) (y5 := some (.bl true)) (y12 := some (.tup [.str "ask", .str "p", .int 2, .tup [.int P.first, .int 0], .tup [.str "d", .int 0, .tup [.int 2, .int 0, .int 0]]])) (y14 := y14) (y15 := y15) po hk
    have r4 : (-(lim : Int) ≤ (4 : Int)) ∧ (4 : Int) ≤ (lim : Int) := by
      have : (lim : Int) = 1000000 := rfl
      omega
    have t4 : (4 : Int).toNat = 4 := rfl
    refine ⟨a4, [some P.last.w, some (.bl true), some (.int P.wide), some (.int P.other), some (.int P.step), some (hsW (hs5 P)), some (.int P.first), some (.int P.goal), some (.tup [.str "ask", .str "p", .int 2, .tup [.int P.first, .int 0], .tup [.str "d", .int 0, .tup [.int 2, .int 0, .int 0]]]), some fr5, z14, z15], rfl, .inl ?_, ok4.mono (by omega)⟩
    simp [q5T, e1, e2, e3, e4, hq, eqN, lu, t2, tg3, dMt, insOf, m1, m2, fi, K, r, eqS, lm, l9, truW, r4, t4, el]
end
end KW.P

set_option linter.all false
set_option maxRecDepth 100000
set_option maxHeartbeats 1000000
/-! k05: the whole -/
namespace KW.P
open PySem L2 KW TL
theorem turn5l {g : WH} {a : Hd} {v0 v1 : Option W} {N i : Nat} {y : List (Option W)} (hy : y.length = 12) (ha : a.Ok N) (hN : N < 100000) (hi : i < 4) : ∃ (a' : Hd) (z : List (Option W)), z.length = 12 ∧ (q5T (prg 29) (v0 :: v1 :: some (.ref g.length) :: some (.int (i : Nat)) :: y) (E1 g (HO a)) = .ok (.next (v0 :: v1 :: some (.ref g.length) :: some (.int (i : Nat)) :: z)) (E1 g (HO a')) ∨ q5T (prg 29) (v0 :: v1 :: some (.ref g.length) :: some (.int (i : Nat)) :: y) (E1 g (HO a)) = .ok (.cont (v0 :: v1 :: some (.ref g.length) :: some (.int (i : Nat)) :: z)) (E1 g (HO a'))) ∧ a'.Ok (N + 10) := by
  match y, hy with
  | [y4, y5, y6, y7, y8, y9, y10, y11, y12, y13, y14, y15], _ => exact turn5 ha hN hi
theorem turns5 {g : WH} {a : Hd} {v0 v1 v3 : Option W} {y : List (Option W)} (hy : y.length = 12) (ha : a.Ok 0) : ∃ (sw' : WS) (g' : WH), forL none (rngW 0 4) (tgW (.nm 3)) (q5T (prg 29)) (rngW 0 4) (v0 :: v1 :: some (.ref g.length) :: v3 :: y) (E1 g (HO a)) = .ok (.next (v0 :: sw')) g' ∧ sw'.length = 15 := by
  obtain ⟨sw', g', e, a', w3, z, hz, rfl, rfl, _⟩ := forL_run (src := none) (ws0 := rngW 0 4) (t := tgW (.nm 3)) (body := q5T (prg 29)) (items := rngW 0 4) (sw := v0 :: v1 :: some (.ref g.length) :: v3 :: y) (h := E1 g (HO a))
    (fun i sw g' => ∃ (a' : Hd) (w3 : Option W) (z : List (Option W)), z.length = 12 ∧ sw = v0 :: v1 :: some (.ref g.length) :: w3 :: z ∧ g' = E1 g (HO a') ∧ a'.Ok (10 * i)) ⟨a, v3, y, hy, rfl, rfl, ha⟩ (fun _ _ _ _ _ => rfl) (by
      rintro i w sw g' hw ⟨a', w3, z, hz, rfl, rfl, ok⟩
      obtain ⟨rfl, hi⟩ := rng_get hw
      obtain ⟨a2, z2, hz2, e, ok2⟩ := turn5l (g := g) (v0 := v0) (v1 := v1) hz ok (by omega) hi
      exact ⟨_, _, _, rfl, e, a2, _, z2, hz2, rfl, rfl, ok2.mono (by omega)⟩)
  exact ⟨_, _, e, by simp [hz]⟩
theorem it5 {g : WH} {ns : List Int} {i : Nat} {y : List (Option W)} (hy : y.length = 15) (hl : ns.length ≤ 63) (hi : i ≤ 3) : ∃ (sw' : WS) (g' : WH), q5O (prg 29) ((some (.scr ns) :: y).set 1 (some (.int (i : Nat)))) g = .ok (.next (some (.scr ns) :: sw')) g' ∧ sw'.length = 15 := by
  obtain ⟨a0, e0, ok0⟩ := hand_ok (k := 28) (h := g) (ns := ns) (i := i) hi hl
  match y, hy with
  | y1 :: y2 :: y3 :: yy, hy =>
    have hyy : yy.length = 12 := by simpa using hy
    obtain ⟨sw', g', e, hs⟩ := turns5 (g := g) (a := a0) (v0 := some (.scr ns)) (v1 := some (.int (i : Nat))) (v3 := y3) hyy ok0
    have r4 : (-(lim : Int) ≤ (4 : Int)) ∧ (4 : Int) ≤ (lim : Int) := by
      have : (lim : Int) = 1000000 := rfl
      omega
    have t4 : (4 : Int).toNat = 4 := rfl
    refine ⟨sw', g', ?_, hs⟩
    have e0' : prg 29 i_L_hand [.scr ns, .int (i : Nat)] g = .ok (.ref g.length) (E1 g (HO a0)) := e0
    simp [q5O, e0', r4, t4, e]
theorem plain (ns : List Int) (hl : ns.length ≤ 63) : ∃ h', KW.P.prg 30 i_L_law [.scr ns] [] = .ok (.bl true) h' := by
  have r := r_L_law (k := 29) (h := []) (show [W.scr ns].length = 1 from rfl)
  have r : prg 30 i_L_law [.scr ns] [] = _ := r
  rw [law5_eq] at r
  generalize hm : 1 + (if ns.length < 3 then ns.length else 3) = m
  have m4 : m ≤ 4 := by rw [← hm]; split <;> omega
  obtain ⟨sw', g', e, y, rfl, hy⟩ := forL_run (src := none) (ws0 := rngW 0 m) (t := tgW (.nm 1)) (body := q5O (prg 29)) (items := rngW 0 m) (sw := some (.scr ns) :: List.replicate 15 none) (h := [])
    (fun i sw g' => ∃ y : List (Option W), sw = some (.scr ns) :: y ∧ y.length = 15) ⟨_, rfl, rfl⟩ (fun _ _ _ _ _ => rfl) (by
      rintro i w sw g' hw ⟨y, rfl, hy⟩
      obtain ⟨rfl, hi⟩ := rng_get hw
      obtain ⟨sw', g', e, hy'⟩ := it5 (g := g') (i := i) hy hl (by omega)
      exact ⟨_, _, _, rfl, .inl e, sw', rfl, hy'⟩)
  have bm : bMin2 [.int 3, .int ns.length] [] = .ok (.int (if ns.length < 3 then ns.length else 3 : Nat)) [] := by
    simp only [bMin2]
    by_cases z : ns.length < 3
    · rw [if_pos z, if_pos (by omega)]
    · rw [if_neg z, if_neg (by omega)]; rfl
  have bl : bLen [.scr ns] [] = .ok (.int ns.length) [] := by simp [bLen, seqOf]
  have j1 : (1 : Int) + ((if ns.length < 3 then ns.length else 3 : Nat) : Int) = (m : Int) := by omega
  have rg : iRg1 (aCons (dOp (fAdd false) (dC (.int 1)) (dBi bMin2 (aCons (dC (.int 3)) (aCons (dBi bLen (aCons (dVar 0) (aNil))) (aNil))))) (aNil)) (some (.scr ns) :: List.replicate 15 none) [] = .ok (rngW 0 m, none) [] := by
    have l1 : -(lim : Int) ≤ (m : Int) ∧ (m : Int) ≤ (lim : Int) := by
      have : (lim : Int) = 1000000 := rfl
      omega
    simp only [x_rg1, x_cons, x_op, x_c, x_bi, x_nil, x_bind, x_var, List.getElem?_cons_zero, bl, bm, f_add, j1, if_pos l1, Int.toNat_natCast]
  have fe : ∀ s : EW, sFor (iRg1 (aCons (dOp (fAdd false) (dC (.int 1)) (dBi bMin2 (aCons (dC (.int 3)) (aCons (dBi bLen (aCons (dVar 0) (aNil))) (aNil))))) (aNil))) (.nm 1) s (some (.scr ns) :: List.replicate 15 none) [] = forL none (rngW 0 m) (tgW (.nm 1)) s (rngW 0 m) (some (.scr ns) :: List.replicate 15 none) [] := fun s => by
    rw [x_for, rg]; rfl
  refine ⟨gc ([] : WH).length (.bl true) [] g', ?_⟩
  rw [r, x_seq]
  show fin [] ((sFor _ _ _ (some (W.scr ns) :: List.replicate 15 none) []).seq _) = _
  rw [fe, e]
  rfl
end KW.P

set_option maxHeartbeats 4000000
namespace KW.P
open PySem L2 KW
theorem fm_ne : ∀ g, g < 12 → ∀ m, m < 9 → fnmT g ≠ mnT m := by decide +kernel
theorem lay_lt {c f : Nat} (h : layT c f = true) : f < 12 := by
  unfold layT at h
  split at h <;> first | decide | cases h
theorem all_mk {l : PySem.W.OpenLaw} {w : World} {K : PySem.W.Frag} {h : Heap} {mg : Str → Option Value} {fa : Addr} (X : K.In h) (G : h.Ns mainGlobals mg) (hfa : mg "law" = some (.ref fa))
 {f0 f1 f2 f3 f4 f5 f6 f7 f8 f9 f10 f11 f12 f13 f14 f15 f16 f17 f18 f19 f20 f21 f22 f23 f24 f25 f26 f27 f28 f29 f30 f31 f32 f33 C0 C1 C2 C3 C4 C5 : Addr} {od0 an0 : Option Addr} {sl0 : Array (Option Value)} {oc0 kV0 dc0 pm0 cd0 ct0 : Value} {od1 an1 : Option Addr} {sl1 : Array (Option Value)} {oc1 kV1 dc1 pm1 cd1 ct1 : Value} {od2 an2 : Option Addr} {sl2 : Array (Option Value)} {oc2 kV2 dc2 pm2 cd2 ct2 : Value} {od3 an3 : Option Addr} {sl3 : Array (Option Value)} {oc3 kV3 dc3 pm3 cd3 ct3 : Value} {od4 an4 : Option Addr} {sl4 : Array (Option Value)} {oc4 kV4 dc4 pm4 cd4 ct4 : Value} {od5 an5 : Option Addr} {sl5 : Array (Option Value)} {oc5 kV5 dc5 pm5 cd5 ct5 : Value} {od6 an6 : Option Addr} {sl6 : Array (Option Value)} {oc6 kV6 dc6 pm6 cd6 ct6 : Value} {od7 an7 : Option Addr} {sl7 : Array (Option Value)} {oc7 kV7 dc7 pm7 cd7 ct7 : Value} {od8 an8 : Option Addr} {sl8 : Array (Option Value)} {oc8 kV8 dc8 pm8 cd8 ct8 : Value} {od9 an9 : Option Addr} {sl9 : Array (Option Value)} {oc9 kV9 dc9 pm9 cd9 ct9 : Value} {od10 an10 : Option Addr} {sl10 : Array (Option Value)} {oc10 kV10 dc10 pm10 cd10 ct10 : Value} {od11 an11 : Option Addr} {sl11 : Array (Option Value)} {oc11 kV11 dc11 pm11 cd11 ct11 : Value} {od12 an12 : Option Addr} {sl12 : Array (Option Value)} {oc12 kV12 dc12 pm12 cd12 ct12 : Value} {od13 an13 : Option Addr} {sl13 : Array (Option Value)} {oc13 kV13 dc13 pm13 cd13 ct13 : Value} {od14 an14 : Option Addr} {sl14 : Array (Option Value)} {oc14 kV14 dc14 pm14 cd14 ct14 : Value} {od15 an15 : Option Addr} {sl15 : Array (Option Value)} {oc15 kV15 dc15 pm15 cd15 ct15 : Value} {od16 an16 : Option Addr} {sl16 : Array (Option Value)} {oc16 kV16 dc16 pm16 cd16 ct16 : Value} {od17 an17 : Option Addr} {sl17 : Array (Option Value)} {oc17 kV17 dc17 pm17 cd17 ct17 : Value} {od18 an18 : Option Addr} {sl18 : Array (Option Value)} {oc18 kV18 dc18 pm18 cd18 ct18 : Value} {od19 an19 : Option Addr} {sl19 : Array (Option Value)} {oc19 kV19 dc19 pm19 cd19 ct19 : Value} {od20 an20 : Option Addr} {sl20 : Array (Option Value)} {oc20 kV20 dc20 pm20 cd20 ct20 : Value} {od21 an21 : Option Addr} {sl21 : Array (Option Value)} {oc21 kV21 dc21 pm21 cd21 ct21 : Value} {od22 an22 : Option Addr} {sl22 : Array (Option Value)} {oc22 kV22 dc22 pm22 cd22 ct22 : Value} {od23 an23 : Option Addr} {sl23 : Array (Option Value)} {oc23 kV23 dc23 pm23 cd23 ct23 : Value} {od24 an24 : Option Addr} {sl24 : Array (Option Value)} {oc24 kV24 dc24 pm24 cd24 ct24 : Value} {od25 an25 : Option Addr} {sl25 : Array (Option Value)} {oc25 kV25 dc25 pm25 cd25 ct25 : Value} {od26 an26 : Option Addr} {sl26 : Array (Option Value)} {oc26 kV26 dc26 pm26 cd26 ct26 : Value} {od27 an27 : Option Addr} {sl27 : Array (Option Value)} {oc27 kV27 dc27 pm27 cd27 ct27 : Value} {od28 an28 : Option Addr} {sl28 : Array (Option Value)} {oc28 kV28 dc28 pm28 cd28 ct28 : Value} {od29 an29 : Option Addr} {sl29 : Array (Option Value)} {oc29 kV29 dc29 pm29 cd29 ct29 : Value} {od30 an30 : Option Addr} {sl30 : Array (Option Value)} {oc30 kV30 dc30 pm30 cd30 ct30 : Value} {od31 an31 : Option Addr} {sl31 : Array (Option Value)} {oc31 kV31 dc31 pm31 cd31 ct31 : Value} {od32 an32 : Option Addr} {sl32 : Array (Option Value)} {oc32 kV32 dc32 pm32 cd32 ct32 : Value} {od33 an33 : Option Addr} {sl33 : Array (Option Value)} {oc33 kV33 dc33 pm33 cd33 ct33 : Value} {tk0 : Tok} {tk1_0 : Tok} {ta1 : Addr} {td1 : Option Addr} {tn1 : Nat} {ts1 : Array (Option Value)} {tk2 : Tok} {tk3 : Tok} {tk4 : Tok} {tk5 : Tok} {tk6 : Tok} {tk7 : Tok} {tk8 : Tok} {tk9 : Tok} {tk10_0 : Tok} {tk10_1 : Tok} {tk10_2 : Tok} {tk10_3 : Tok} {tk10_4 : Tok} {ta10 : Addr} {td10 : Option Addr} {tn10 : Nat} {ts10 : Array (Option Value)} {tk11 : Tok} {xf4 : Addr} {xa4 xb4 xg4 : Option Addr} {xs4 : Array (Option Value)} {xc4 xk4 xd4 xp4 xe4 xt4 : Value} {en4 eq4 : Str} {eN4 : Addr} {eb4 : List Value} {es4 : List Str} {eu4 : List Value} {ey4 : Bool} {ec4 : Option Bool} {ed4 : Option Addr} {e04 e14 e24 e34 e54 : Option Value} {xf5 : Addr} {xa5 xb5 xg5 : Option Addr} {xs5 : Array (Option Value)} {xc5 xk5 xd5 xp5 xe5 xt5 : Value} {en5 eq5 : Str} {eN5 : Addr} {eb5 : List Value} {es5 : List Str} {eu5 : List Value} {ey5 : Bool} {ec5 : Option Bool} {ed5 : Option Addr} {e05 e15 e25 e35 e55 : Option Value}
 (aC0 : PySem.W.nsIn K mainGlobals "Face" = some (some (.ref C0)))
 (aC1 : PySem.W.nsIn K mainGlobals "Body" = some (some (.ref C1)))
 (aC2 : PySem.W.nsIn K mainGlobals "House" = some (some (.ref C2)))
 (aC3 : PySem.W.nsIn K mainGlobals "KnockError" = some (some (.ref C3)))
 (aC4 : PySem.W.nsIn K mainGlobals "NoFace" = some (some (.ref C4)))
 (aC5 : PySem.W.nsIn K mainGlobals "BadHouse" = some (some (.ref C5)))
 (a0_0 : PySem.W.nsIn K mainGlobals "is_whole" = some (some (.ref f0)))
 (l0 : K.lookup f0 = some ⟨oc0, od0, .func (PySem.W.fnOf "is_whole" "is_whole" (defArgs t0) (defBody t0) (defScope t0) .none kV0 dc0 pm0 an0 cd0 ct0), sl0⟩)
 (c0 : PySem.W.codeIn K cd0 "is_whole" = true)
 (k0 : PySem.W.keepIn K (.ref f0) = true)
 (a1_0 : PySem.W.nsIn K mainGlobals "is_name" = some (some (.ref f1)))
 (l1 : K.lookup f1 = some ⟨oc1, od1, .func (PySem.W.fnOf "is_name" "is_name" (defArgs t1) (defBody t1) (defScope t1) .none kV1 dc1 pm1 an1 cd1 ct1), sl1⟩)
 (c1 : PySem.W.codeIn K cd1 "is_name" = true)
 (k1 : PySem.W.keepIn K (.ref f1) = true)
 (a2_0 : PySem.W.nsIn K mainGlobals "are_unlike" = some (some (.ref f2)))
 (l2 : K.lookup f2 = some ⟨oc2, od2, .func (PySem.W.fnOf "are_unlike" "are_unlike" (defArgs t2) (defBody t2) (defScope t2) .none kV2 dc2 pm2 an2 cd2 ct2), sl2⟩)
 (c2 : PySem.W.codeIn K cd2 "are_unlike" = true)
 (k2 : PySem.W.keepIn K (.ref f2) = true)
 (a3_0 : PySem.W.nsIn K mainGlobals "are_names" = some (some (.ref f3)))
 (l3 : K.lookup f3 = some ⟨oc3, od3, .func (PySem.W.fnOf "are_names" "are_names" (defArgs t3) (defBody t3) (defScope t3) .none kV3 dc3 pm3 an3 cd3 ct3), sl3⟩)
 (c3 : PySem.W.codeIn K cd3 "are_names" = true)
 (k3 : PySem.W.keepIn K (.ref f3) = true)
 (a4_0 : PySem.W.findIn K (.ref C0) "__init__" = some (some (.ref f4)))
 (i4 : PySem.W.isFn K (.ref f4) = true)
 (l4 : K.lookup f4 = some ⟨oc4, od4, .func (PySem.W.fnOf "__init__" "Face.__init__" (defArgs t4) (defBody t4) (defScope t4) .none kV4 dc4 pm4 an4 cd4 ct4), sl4⟩)
 (c4 : PySem.W.codeIn K cd4 "Face.__init__" = true)
 (k4 : PySem.W.keepIn K (.ref f4) = true)
 (a5_0 : PySem.W.nsIn K mainGlobals "is_thing" = some (some (.ref f5)))
 (l5 : K.lookup f5 = some ⟨oc5, od5, .func (PySem.W.fnOf "is_thing" "is_thing" (defArgs t5) (defBody t5) (defScope t5) .none kV5 dc5 pm5 an5 cd5 ct5), sl5⟩)
 (c5 : PySem.W.codeIn K cd5 "is_thing" = true)
 (k5 : PySem.W.keepIn K (.ref f5) = true)
 (a6_0 : PySem.W.nsIn K mainGlobals "is_sum" = some (some (.ref f6)))
 (l6 : K.lookup f6 = some ⟨oc6, od6, .func (PySem.W.fnOf "is_sum" "is_sum" (defArgs t6) (defBody t6) (defScope t6) .none kV6 dc6 pm6 an6 cd6 ct6), sl6⟩)
 (c6 : PySem.W.codeIn K cd6 "is_sum" = true)
 (k6 : PySem.W.keepIn K (.ref f6) = true)
 (a7_0 : PySem.W.nsIn K mainGlobals "is_named" = some (some (.ref f7)))
 (l7 : K.lookup f7 = some ⟨oc7, od7, .func (PySem.W.fnOf "is_named" "is_named" (defArgs t7) (defBody t7) (defScope t7) .none kV7 dc7 pm7 an7 cd7 ct7), sl7⟩)
 (c7 : PySem.W.codeIn K cd7 "is_named" = true)
 (k7 : PySem.W.keepIn K (.ref f7) = true)
 (a8_0 : PySem.W.nsIn K mainGlobals "fits_row" = some (some (.ref f8)))
 (l8 : K.lookup f8 = some ⟨oc8, od8, .func (PySem.W.fnOf "fits_row" "fits_row" (defArgs t8) (defBody t8) (defScope t8) .none kV8 dc8 pm8 an8 cd8 ct8), sl8⟩)
 (c8 : PySem.W.codeIn K cd8 "fits_row" = true)
 (k8 : PySem.W.keepIn K (.ref f8) = true)
 (a9_0 : PySem.W.nsIn K mainGlobals "is_row" = some (some (.ref f9)))
 (l9 : K.lookup f9 = some ⟨oc9, od9, .func (PySem.W.fnOf "is_row" "is_row" (defArgs t9) (defBody t9) (defScope t9) .none kV9 dc9 pm9 an9 cd9 ct9), sl9⟩)
 (c9 : PySem.W.codeIn K cd9 "is_row" = true)
 (k9 : PySem.W.keepIn K (.ref f9) = true)
 (a10_0 : PySem.W.nsIn K mainGlobals "is_cell" = some (some (.ref f10)))
 (l10 : K.lookup f10 = some ⟨oc10, od10, .func (PySem.W.fnOf "is_cell" "is_cell" (defArgs t10) (defBody t10) (defScope t10) .none kV10 dc10 pm10 an10 cd10 ct10), sl10⟩)
 (c10 : PySem.W.codeIn K cd10 "is_cell" = true)
 (k10 : PySem.W.keepIn K (.ref f10) = true)
 (a11_0 : PySem.W.nsIn K mainGlobals "are_cells" = some (some (.ref f11)))
 (l11 : K.lookup f11 = some ⟨oc11, od11, .func (PySem.W.fnOf "are_cells" "are_cells" (defArgs t11) (defBody t11) (defScope t11) .none kV11 dc11 pm11 an11 cd11 ct11), sl11⟩)
 (c11 : PySem.W.codeIn K cd11 "are_cells" = true)
 (k11 : PySem.W.keepIn K (.ref f11) = true)
 (a12_0 : PySem.W.nsIn K mainGlobals "is_local" = some (some (.ref f12)))
 (l12 : K.lookup f12 = some ⟨oc12, od12, .func (PySem.W.fnOf "is_local" "is_local" (defArgs t12) (defBody t12) (defScope t12) .none kV12 dc12 pm12 an12 cd12 ct12), sl12⟩)
 (c12 : PySem.W.codeIn K cd12 "is_local" = true)
 (k12 : PySem.W.keepIn K (.ref f12) = true)
 (a13_0 : PySem.W.nsIn K mainGlobals "is_body" = some (some (.ref f13)))
 (l13 : K.lookup f13 = some ⟨oc13, od13, .func (PySem.W.fnOf "is_body" "is_body" (defArgs t13) (defBody t13) (defScope t13) .none kV13 dc13 pm13 an13 cd13 ct13), sl13⟩)
 (c13 : PySem.W.codeIn K cd13 "is_body" = true)
 (k13 : PySem.W.keepIn K (.ref f13) = true)
 (a14_0 : PySem.W.nsIn K mainGlobals "are_bodies" = some (some (.ref f14)))
 (l14 : K.lookup f14 = some ⟨oc14, od14, .func (PySem.W.fnOf "are_bodies" "are_bodies" (defArgs t14) (defBody t14) (defScope t14) .none kV14 dc14 pm14 an14 cd14 ct14), sl14⟩)
 (c14 : PySem.W.codeIn K cd14 "are_bodies" = true)
 (k14 : PySem.W.keepIn K (.ref f14) = true)
 (a15_0 : PySem.W.nsIn K mainGlobals "reckoned" = some (some (.ref f15)))
 (l15 : K.lookup f15 = some ⟨oc15, od15, .func (PySem.W.fnOf "reckoned" "reckoned" (defArgs t15) (defBody t15) (defScope t15) .none kV15 dc15 pm15 an15 cd15 ct15), sl15⟩)
 (c15 : PySem.W.codeIn K cd15 "reckoned" = true)
 (k15 : PySem.W.keepIn K (.ref f15) = true)
 (a16_0 : PySem.W.findIn K (.ref C1) "__init__" = some (some (.ref f16)))
 (i16 : PySem.W.isFn K (.ref f16) = true)
 (l16 : K.lookup f16 = some ⟨oc16, od16, .func (PySem.W.fnOf "__init__" "Body.__init__" (defArgs t16) (defBody t16) (defScope t16) .none kV16 dc16 pm16 an16 cd16 ct16), sl16⟩)
 (c16 : PySem.W.codeIn K cd16 "Body.__init__" = true)
 (k16 : PySem.W.keepIn K (.ref f16) = true)
 (a17_0 : PySem.W.findIn K (.ref C1) "worth_of" = some (some (.ref f17)))
 (i17 : PySem.W.isFn K (.ref f17) = true)
 (l17 : K.lookup f17 = some ⟨oc17, od17, .func (PySem.W.fnOf "worth_of" "Body.worth_of" (defArgs t17) (defBody t17) (defScope t17) .none kV17 dc17 pm17 an17 cd17 ct17), sl17⟩)
 (c17 : PySem.W.codeIn K cd17 "Body.worth_of" = true)
 (k17 : PySem.W.keepIn K (.ref f17) = true)
 (a18_0 : PySem.W.findIn K (.ref C1) "put_in" = some (some (.ref f18)))
 (i18 : PySem.W.isFn K (.ref f18) = true)
 (l18 : K.lookup f18 = some ⟨oc18, od18, .func (PySem.W.fnOf "put_in" "Body.put_in" (defArgs t18) (defBody t18) (defScope t18) .none kV18 dc18 pm18 an18 cd18 ct18), sl18⟩)
 (c18 : PySem.W.codeIn K cd18 "Body.put_in" = true)
 (k18 : PySem.W.keepIn K (.ref f18) = true)
 (a19_0 : PySem.W.findIn K (.ref C1) "put" = some (some (.ref f19)))
 (i19 : PySem.W.isFn K (.ref f19) = true)
 (l19 : K.lookup f19 = some ⟨oc19, od19, .func (PySem.W.fnOf "put" "Body.put" (defArgs t19) (defBody t19) (defScope t19) .none kV19 dc19 pm19 an19 cd19 ct19), sl19⟩)
 (c19 : PySem.W.codeIn K cd19 "Body.put" = true)
 (k19 : PySem.W.keepIn K (.ref f19) = true)
 (a20_0 : PySem.W.findIn K (.ref C1) "onward" = some (some (.ref f20)))
 (i20 : PySem.W.isFn K (.ref f20) = true)
 (l20 : K.lookup f20 = some ⟨oc20, od20, .func (PySem.W.fnOf "onward" "Body.onward" (defArgs t20) (defBody t20) (defScope t20) .none kV20 dc20 pm20 an20 cd20 ct20), sl20⟩)
 (c20 : PySem.W.codeIn K cd20 "Body.onward" = true)
 (k20 : PySem.W.keepIn K (.ref f20) = true)
 (a21_0 : PySem.W.findIn K (.ref C1) "gone_along" = some (some (.ref f21)))
 (i21 : PySem.W.isFn K (.ref f21) = true)
 (l21 : K.lookup f21 = some ⟨oc21, od21, .func (PySem.W.fnOf "gone_along" "Body.gone_along" (defArgs t21) (defBody t21) (defScope t21) .none kV21 dc21 pm21 an21 cd21 ct21), sl21⟩)
 (c21 : PySem.W.codeIn K cd21 "Body.gone_along" = true)
 (k21 : PySem.W.keepIn K (.ref f21) = true)
 (a22_0 : PySem.W.findIn K (.ref C2) "__init__" = some (some (.ref f22)))
 (i22 : PySem.W.isFn K (.ref f22) = true)
 (l22 : K.lookup f22 = some ⟨oc22, od22, .func (PySem.W.fnOf "__init__" "House.__init__" (defArgs t22) (defBody t22) (defScope t22) .none kV22 dc22 pm22 an22 cd22 ct22), sl22⟩)
 (c22 : PySem.W.codeIn K cd22 "House.__init__" = true)
 (k22 : PySem.W.keepIn K (.ref f22) = true)
 (a23_0 : PySem.W.findIn K (.ref C2) "first" = some (some (.ref f23)))
 (i23 : PySem.W.isFn K (.ref f23) = true)
 (l23 : K.lookup f23 = some ⟨oc23, od23, .func (PySem.W.fnOf "first" "House.first" (defArgs t23) (defBody t23) (defScope t23) .none kV23 dc23 pm23 an23 cd23 ct23), sl23⟩)
 (c23 : PySem.W.codeIn K cd23 "House.first" = true)
 (k23 : PySem.W.keepIn K (.ref f23) = true)
 (a24_0 : PySem.W.findIn K (.ref C2) "said" = some (some (.ref f24)))
 (i24 : PySem.W.isFn K (.ref f24) = true)
 (l24 : K.lookup f24 = some ⟨oc24, od24, .func (PySem.W.fnOf "said" "House.said" (defArgs t24) (defBody t24) (defScope t24) .none kV24 dc24 pm24 an24 cd24 ct24), sl24⟩)
 (c24 : PySem.W.codeIn K cd24 "House.said" = true)
 (k24 : PySem.W.keepIn K (.ref f24) = true)
 (a25_0 : PySem.W.findIn K (.ref C2) "knock" = some (some (.ref f25)))
 (i25 : PySem.W.isFn K (.ref f25) = true)
 (l25 : K.lookup f25 = some ⟨oc25, od25, .func (PySem.W.fnOf "knock" "House.knock" (defArgs t25) (defBody t25) (defScope t25) .none kV25 dc25 pm25 an25 cd25 ct25), sl25⟩)
 (c25 : PySem.W.codeIn K cd25 "House.knock" = true)
 (k25 : PySem.W.keepIn K (.ref f25) = true)
 (a26_0 : PySem.W.findIn K (.ref C2) "answer" = some (some (.ref f26)))
 (i26 : PySem.W.isFn K (.ref f26) = true)
 (l26 : K.lookup f26 = some ⟨oc26, od26, .func (PySem.W.fnOf "answer" "House.answer" (defArgs t26) (defBody t26) (defScope t26) .none kV26 dc26 pm26 an26 cd26 ct26), sl26⟩)
 (c26 : PySem.W.codeIn K cd26 "House.answer" = true)
 (k26 : PySem.W.keepIn K (.ref f26) = true)
 (a27_0 : PySem.W.nsIn K mainGlobals "_law_hand" = some (some (.ref f27)))
 (l27 : K.lookup f27 = some ⟨oc27, od27, .func (PySem.W.fnOf "_law_hand" "_law_hand" (defArgs t27) (defBody t27) (defScope t27) .none kV27 dc27 pm27 an27 cd27 ct27), sl27⟩)
 (c27 : PySem.W.codeIn K cd27 "_law_hand" = true)
 (k27 : PySem.W.keepIn K (.ref f27) = true)
 (a28_0 : PySem.W.nsIn K mainGlobals "_law_take" = some (some (.ref f28)))
 (l28 : K.lookup f28 = some ⟨oc28, od28, .func (PySem.W.fnOf "_law_take" "_law_take" (defArgs t28) (defBody t28) (defScope t28) .none kV28 dc28 pm28 an28 cd28 ct28), sl28⟩)
 (c28 : PySem.W.codeIn K cd28 "_law_take" = true)
 (k28 : PySem.W.keepIn K (.ref f28) = true)
 (a29_0 : PySem.W.nsIn K mainGlobals "_law_of" = some (some (.ref f29)))
 (l29 : K.lookup f29 = some ⟨oc29, od29, .func (PySem.W.fnOf "_law_of" "_law_of" (defArgs t29) (defBody t29) (defScope t29) .none kV29 dc29 pm29 an29 cd29 ct29), sl29⟩)
 (c29 : PySem.W.codeIn K cd29 "_law_of" = true)
 (k29 : PySem.W.keepIn K (.ref f29) = true)
 (a30_0 : PySem.W.nsIn K mainGlobals "_law_rounds" = some (some (.ref f30)))
 (l30 : K.lookup f30 = some ⟨oc30, od30, .func (PySem.W.fnOf "_law_rounds" "_law_rounds" (defArgs t30) (defBody t30) (defScope t30) .none kV30 dc30 pm30 an30 cd30 ct30), sl30⟩)
 (c30 : PySem.W.codeIn K cd30 "_law_rounds" = true)
 (k30 : PySem.W.keepIn K (.ref f30) = true)
 (a31_0 : PySem.W.nsIn K mainGlobals "_law_house" = some (some (.ref f31)))
 (l31 : K.lookup f31 = some ⟨oc31, od31, .func (PySem.W.fnOf "_law_house" "_law_house" (defArgs t31) (defBody t31) (defScope t31) .none kV31 dc31 pm31 an31 cd31 ct31), sl31⟩)
 (c31 : PySem.W.codeIn K cd31 "_law_house" = true)
 (k31 : PySem.W.keepIn K (.ref f31) = true)
 (a32_0 : PySem.W.nsIn K mainGlobals "_law_due" = some (some (.ref f32)))
 (l32 : K.lookup f32 = some ⟨oc32, od32, .func (PySem.W.fnOf "_law_due" "_law_due" (defArgs t32) (defBody t32) (defScope t32) .none kV32 dc32 pm32 an32 cd32 ct32), sl32⟩)
 (c32 : PySem.W.codeIn K cd32 "_law_due" = true)
 (k32 : PySem.W.keepIn K (.ref f32) = true)
 (a33_0 : PySem.W.nsIn K mainGlobals "law" = some (some (.ref f33)))
 (l33 : K.lookup f33 = some ⟨oc33, od33, .func (PySem.W.fnOf "law" "law" (defArgs t33) (defBody t33) (defScope t33) .none kV33 dc33 pm33 an33 cd33 ct33), sl33⟩)
 (c33 : PySem.W.codeIn K cd33 "law" = true)
 (k33 : PySem.W.keepIn K (.ref f33) = true)
 (pg0 : PySem.W.plainGet K C0 Str.empty = true)
 (hd0 : PySem.W.hasDictIn K C0 = true)
 (po0 : PySem.W.plainOver K C0 = true)
 (sa0 : PySem.W.findIn K (.ref C0) "__setattr__" = some (some (.builtin "object.__setattr__")))
 (mk0 : PySem.W.makesIn K C0 = true)
 (kc0 : PySem.W.keepIn K (.ref C0) = true)
 (n0_0 : PySem.W.findIn K (.ref C0) "size" = some none)
 (n0_1 : PySem.W.findIn K (.ref C0) "doors" = some none)
 (n0_2 : PySem.W.findIn K (.ref C0) "strangers" = some none)
 (pg1 : PySem.W.plainGet K C1 Str.empty = true)
 (hd1 : PySem.W.hasDictIn K C1 = true)
 (po1 : PySem.W.plainOver K C1 = true)
 (sa1 : PySem.W.findIn K (.ref C1) "__setattr__" = some (some (.builtin "object.__setattr__")))
 (mk1 : PySem.W.makesIn K C1 = true)
 (kc1 : PySem.W.keepIn K (.ref C1) = true)
 (n1_3 : PySem.W.findIn K (.ref C1) "places" = some none)
 (n1_4 : PySem.W.findIn K (.ref C1) "own_sizes" = some none)
 (n1_5 : PySem.W.findIn K (.ref C1) "all_sizes" = some none)
 (n1_6 : PySem.W.findIn K (.ref C1) "all_rows" = some none)
 (pg2 : PySem.W.plainGet K C2 Str.empty = true)
 (hd2 : PySem.W.hasDictIn K C2 = true)
 (po2 : PySem.W.plainOver K C2 = true)
 (sa2 : PySem.W.findIn K (.ref C2) "__setattr__" = some (some (.builtin "object.__setattr__")))
 (mk2 : PySem.W.makesIn K C2 = true)
 (kc2 : PySem.W.keepIn K (.ref C2) = true)
 (n2_7 : PySem.W.findIn K (.ref C2) "face" = some none)
 (n2_8 : PySem.W.findIn K (.ref C2) "cells" = some none)
 (n2_9 : PySem.W.findIn K (.ref C2) "bodies" = some none)
 (n2_10 : PySem.W.findIn K (.ref C2) "body_by_door" = some none)
 (ex4 : K.lookup C4 = some (excClassObj en4 eq4 C4 eN4 eb4 [.ref C3, .type "ValueError", .type "Exception", .type "BaseException", .type "object"] true es4 eu4 ey4 ec4 ed4 e04 e14 e24 e34 e54 "ValueError.__new__"))
 (esa4 : PySem.W.findIn K (.ref C4) "__setattr__" = some (some (.builtin "object.__setattr__")))
 (ebx4 : PySem.W.subIn K (.ref C4) (.type "BaseException") = some true)
 (ety4 : PySem.W.typeIn K (.ref C4) = some (.type "type"))
 (ekp4 : PySem.W.keepIn K (.ref C4) = true)
 (ein4 : PySem.W.findIn K (.ref C4) "__init__" = some (some (.ref xf4)))
 (eit4 : PySem.W.typeIn K (.ref xf4) = some (.type "function"))
 (enf4 : PySem.W.findIn K (.ref C4) "field" = some none)
 (el4 : K.lookup xf4 = some ⟨xc4, xa4, .func (PySem.W.fnOf "__init__" "NoFace.__init__" (defArgs xt_NoFace) (defBody xt_NoFace) (defScope xt_NoFace) .none xk4 xd4 xp4 xb4 xe4 xt4), xs4⟩)
 (eco4 : PySem.W.codeIn K xe4 "NoFace.__init__" = true)
 (ekf4 : PySem.W.keepIn K (.ref xf4) = true)
 (ex5 : K.lookup C5 = some (excClassObj en5 eq5 C5 eN5 eb5 [.ref C3, .type "ValueError", .type "Exception", .type "BaseException", .type "object"] true es5 eu5 ey5 ec5 ed5 e05 e15 e25 e35 e55 "ValueError.__new__"))
 (esa5 : PySem.W.findIn K (.ref C5) "__setattr__" = some (some (.builtin "object.__setattr__")))
 (ebx5 : PySem.W.subIn K (.ref C5) (.type "BaseException") = some true)
 (ety5 : PySem.W.typeIn K (.ref C5) = some (.type "type"))
 (ekp5 : PySem.W.keepIn K (.ref C5) = true)
 (ein5 : PySem.W.findIn K (.ref C5) "__init__" = some (some (.ref xf5)))
 (eit5 : PySem.W.typeIn K (.ref xf5) = some (.type "function"))
 (enf5 : PySem.W.findIn K (.ref C5) "field" = some none)
 (el5 : K.lookup xf5 = some ⟨xc5, xa5, .func (PySem.W.fnOf "__init__" "BadHouse.__init__" (defArgs xt_BadHouse) (defBody xt_BadHouse) (defScope xt_BadHouse) .none xk5 xd5 xp5 xb5 xe5 xt5), xs5⟩)
 (eco5 : PySem.W.codeIn K xe5 "BadHouse.__init__" = true)
 (ekf5 : PySem.W.keepIn K (.ref xf5) = true)
 (kga : PySem.W.specialIn K (.ref C3) "__getattribute__" = some (some (.builtin "type.__getattribute__")))
 (krd : PySem.W.readsIn K C3 (.type "type") = true)
 (kfi : PySem.W.findCls K (.ref C3) (.type "type") "__init__" = some (.val (.builtin "ValueError.__init__")))
 (iha0 : PySem.W.findIn K (.ref C0) "__class__" = some (some (.builtin "object.__class__")))
 (ihm0 : PySem.W.mroIn K C0 (.type "object") = some true)
 (iha1 : PySem.W.findIn K (.ref C1) "__class__" = some (some (.builtin "object.__class__")))
 (ihm1 : PySem.W.mroIn K C1 (.type "object") = some true)
 (iha2 : PySem.W.findIn K (.ref C2) "__class__" = some (some (.builtin "object.__class__")))
 (ihm2 : PySem.W.mroIn K C2 (.type "object") = some true)
 (ihn : PySem.W.specialIn K (.builtin "object.__class__") "__get__" = some (some (.builtin "getset_descriptor.__get__")))
 (iht : PySem.W.takesIn K (.builtin "object.__class__") = some true)
 (ki_NoneType_0 : PySem.W.kitOne K (.type "NoneType") (.ref C0) = some false)
 (ki_bool_0 : PySem.W.kitOne K (.type "bool") (.ref C0) = some false)
 (ki_int_0 : PySem.W.kitOne K (.type "int") (.ref C0) = some false)
 (ki_str_0 : PySem.W.kitOne K (.type "str") (.ref C0) = some false)
 (ki_tuple_0 : PySem.W.kitOne K (.type "tuple") (.ref C0) = some false)
 (ki_list_0 : PySem.W.kitOne K (.type "list") (.ref C0) = some false)
 (ki_dict_0 : PySem.W.kitOne K (.type "dict") (.ref C0) = some false)
 (ki_0_0 : PySem.W.kitOne K (.ref C0) (.ref C0) = some true)
 (ki_1_0 : PySem.W.kitOne K (.ref C1) (.ref C0) = some false)
 (ki_2_0 : PySem.W.kitOne K (.ref C2) (.ref C0) = some false)
 (q0 : PySem.W.nsIn K mainGlobals "ASK" = some (some (.str "ask" tk0)))
 (q1 : PySem.W.nsIn K mainGlobals "DEAD" = some (some (.ref ta1)))
 (qt1 : K.lookup ta1 = some ⟨.type "tuple", td1, .seq #[.str "dead" tk1_0] tn1, ts1⟩)
 (q2 : PySem.W.nsIn K mainGlobals "LETTERS" = some (some (.str "abcdefghijklmnopqrstuvwxyz" tk2)))
 (q3 : PySem.W.nsIn K mainGlobals "MAIN" = some (some (.str "main" tk3)))
 (q4 : PySem.W.nsIn K mainGlobals "MOST_DOORS" = some (some (.int 5 tk4)))
 (q5 : PySem.W.nsIn K mainGlobals "MOST_NUMBER" = some (some (.int 999 tk5)))
 (q6 : PySem.W.nsIn K mainGlobals "MOST_SIGNS" = some (some (.int 6 tk6)))
 (q7 : PySem.W.nsIn K mainGlobals "MOST_SIZE" = some (some (.int 4 tk7)))
 (q8 : PySem.W.nsIn K mainGlobals "MOST_STRANGERS" = some (some (.int 4 tk8)))
 (q9 : PySem.W.nsIn K mainGlobals "MOST_WORTHS" = some (some (.int 1000 tk9)))
 (q10 : PySem.W.nsIn K mainGlobals "OPS" = some (some (.ref ta10)))
 (qt10 : K.lookup ta10 = some ⟨.type "tuple", td10, .seq #[.str "+" tk10_0, .str "-" tk10_1, .str "*" tk10_2, .str "=" tk10_3, .str "<" tk10_4] tn10, ts10⟩)
 (q11 : PySem.W.nsIn K mainGlobals "TELL" = some (some (.str "tell" tk11)))
 (z0 : PySem.W.nsIn K mainGlobals "abs" = some none)
 (z1 : PySem.W.nsIn K mainGlobals "all" = some none)
 (z2 : PySem.W.nsIn K mainGlobals "bool" = some none)
 (z3 : PySem.W.nsIn K mainGlobals "enumerate" = some none)
 (z4 : PySem.W.nsIn K mainGlobals "int" = some none)
 (z5 : PySem.W.nsIn K mainGlobals "isinstance" = some none)
 (z6 : PySem.W.nsIn K mainGlobals "len" = some none)
 (z7 : PySem.W.nsIn K mainGlobals "list" = some none)
 (z8 : PySem.W.nsIn K mainGlobals "min" = some none)
 (z9 : PySem.W.nsIn K mainGlobals "range" = some none)
 (z10 : PySem.W.nsIn K mainGlobals "repr" = some none)
 (z11 : PySem.W.nsIn K mainGlobals "set" = some none)
 (z12 : PySem.W.nsIn K mainGlobals "str" = some none)
 (z13 : PySem.W.nsIn K mainGlobals "tuple" = some none)
 (z14 : PySem.W.nsIn K mainGlobals "zip" = some none) :
 ∃ fd : FuncData, (∀ (s : Shared) (v : Value), BindsTo s fd ⟨[v], []⟩ [("_law_script", v)]) ∧ ∀ base : Heap, K.In base → base.Ns mainGlobals mg → FnG l.prog w K mg base (L2.CX l.prog w) 62 fa fd ["_law_script"] (spL K) := by
  obtain rfl : f33 = fa := by
    have e := hfa.symm.trans (PySem.W.mg_of X G a33_0)
    cases e; rfl
  have F0 := fun_mk (st := t0) l0 c0 k0
  have F1 := fun_mk (st := t1) l1 c1 k1
  have F2 := fun_mk (st := t2) l2 c2 k2
  have F3 := fun_mk (st := t3) l3 c3 k3
  have F4 := fun_mk (st := t4) l4 c4 k4
  have F5 := fun_mk (st := t5) l5 c5 k5
  have F6 := fun_mk (st := t6) l6 c6 k6
  have F7 := fun_mk (st := t7) l7 c7 k7
  have F8 := fun_mk (st := t8) l8 c8 k8
  have F9 := fun_mk (st := t9) l9 c9 k9
  have F10 := fun_mk (st := t10) l10 c10 k10
  have F11 := fun_mk (st := t11) l11 c11 k11
  have F12 := fun_mk (st := t12) l12 c12 k12
  have F13 := fun_mk (st := t13) l13 c13 k13
  have F14 := fun_mk (st := t14) l14 c14 k14
  have F15 := fun_mk (st := t15) l15 c15 k15
  have F16 := fun_mk (st := t16) l16 c16 k16
  have F17 := fun_mk (st := t17) l17 c17 k17
  have F18 := fun_mk (st := t18) l18 c18 k18
  have F19 := fun_mk (st := t19) l19 c19 k19
  have F20 := fun_mk (st := t20) l20 c20 k20
  have F21 := fun_mk (st := t21) l21 c21 k21
  have F22 := fun_mk (st := t22) l22 c22 k22
  have F23 := fun_mk (st := t23) l23 c23 k23
  have F24 := fun_mk (st := t24) l24 c24 k24
  have F25 := fun_mk (st := t25) l25 c25 k25
  have F26 := fun_mk (st := t26) l26 c26 k26
  have F27 := fun_mk (st := t27) l27 c27 k27
  have F28 := fun_mk (st := t28) l28 c28 k28
  have F29 := fun_mk (st := t29) l29 c29 k29
  have F30 := fun_mk (st := t30) l30 c30 k30
  have F31 := fun_mk (st := t31) l31 c31 k31
  have F32 := fun_mk (st := t32) l32 c32 k32
  have F33 := fun_mk (st := t33) l33 c33 k33
  have T0 : Cls K C0 := ⟨pg0, hd0, po0, sa0⟩
  have T1 : Cls K C1 := ⟨pg1, hd1, po1, sa1⟩
  have T2 : Cls K C2 := ⟨pg2, hd2, po2, sa2⟩
  have gl : GEs (AA l.prog w K (fun i => ([some f0, some f1, some f2, some f3, some f4, some f5, some f6, some f7, some f8, some f9, some f10, some f11, some f12, some f13, some f14, some f15, some f16, some f17, some f18, some f19, some f20, some f21, some f22, some f23, some f24, some f25, some f26, some f27, some f28, some f29, some f30, some f31, some f32, some f33] : List (Option Addr)).getD i none) (fun i => ([some C0, some C1, some C2, some C3, some C4, some C5] : List (Option Addr)).getD i none)) mg gtab := ⟨
    ge_str (PySem.W.mg_of X G q0),
    ⟨_, rfl, PySem.W.mg_of X G aC5⟩,
    ⟨_, rfl, PySem.W.mg_of X G aC1⟩,
    ge_tup (PySem.W.mg_of X G q1) qt1 (show 1 ≤ sizeLine by decide) (vals_str .nil) (fun _ => (repl_str repl_nil)),
    ⟨_, rfl, PySem.W.mg_of X G aC0⟩,
    ⟨_, rfl, PySem.W.mg_of X G aC2⟩,
    ge_str (PySem.W.mg_of X G q2),
    ge_str (PySem.W.mg_of X G q3),
    ge_int (PySem.W.mg_of X G q4),
    ge_int (PySem.W.mg_of X G q5),
    ge_int (PySem.W.mg_of X G q6),
    ge_int (PySem.W.mg_of X G q7),
    ge_int (PySem.W.mg_of X G q8),
    ge_int (PySem.W.mg_of X G q9),
    ⟨_, rfl, PySem.W.mg_of X G aC4⟩,
    ge_tup (PySem.W.mg_of X G q10) qt10 (show 5 ≤ sizeLine by decide) (vals_str (vals_str (vals_str (vals_str (vals_str .nil))))) (fun _ => (repl_str (repl_str (repl_str (repl_str (repl_str repl_nil)))))),
    ge_str (PySem.W.mg_of X G q11),
    ⟨_, rfl, PySem.W.mg_of X G a32_0⟩,
    ⟨_, rfl, PySem.W.mg_of X G a27_0⟩,
    ⟨_, rfl, PySem.W.mg_of X G a31_0⟩,
    ⟨_, rfl, PySem.W.mg_of X G a29_0⟩,
    ⟨_, rfl, PySem.W.mg_of X G a30_0⟩,
    ⟨_, rfl, PySem.W.mg_of X G a28_0⟩,
    PySem.W.mg_none_of X G z0,
    PySem.W.mg_none_of X G z1,
    ⟨_, rfl, PySem.W.mg_of X G a14_0⟩,
    ⟨_, rfl, PySem.W.mg_of X G a11_0⟩,
    ⟨_, rfl, PySem.W.mg_of X G a3_0⟩,
    ⟨_, rfl, PySem.W.mg_of X G a2_0⟩,
    PySem.W.mg_none_of X G z2,
    PySem.W.mg_none_of X G z3,
    ⟨_, rfl, PySem.W.mg_of X G a8_0⟩,
    PySem.W.mg_none_of X G z4,
    ⟨_, rfl, PySem.W.mg_of X G a13_0⟩,
    ⟨_, rfl, PySem.W.mg_of X G a10_0⟩,
    ⟨_, rfl, PySem.W.mg_of X G a12_0⟩,
    ⟨_, rfl, PySem.W.mg_of X G a1_0⟩,
    ⟨_, rfl, PySem.W.mg_of X G a7_0⟩,
    ⟨_, rfl, PySem.W.mg_of X G a9_0⟩,
    ⟨_, rfl, PySem.W.mg_of X G a6_0⟩,
    ⟨_, rfl, PySem.W.mg_of X G a5_0⟩,
    ⟨_, rfl, PySem.W.mg_of X G a0_0⟩,
    PySem.W.mg_none_of X G z5,
    PySem.W.mg_none_of X G z6,
    PySem.W.mg_none_of X G z7,
    PySem.W.mg_none_of X G z8,
    PySem.W.mg_none_of X G z9,
    ⟨_, rfl, PySem.W.mg_of X G a15_0⟩,
    PySem.W.mg_none_of X G z10,
    PySem.W.mg_none_of X G z11,
    PySem.W.mg_none_of X G z12,
    PySem.W.mg_none_of X G z13,
    PySem.W.mg_none_of X G z14, trivial⟩
  have FO : FldOk (AA l.prog w K (fun i => ([some f0, some f1, some f2, some f3, some f4, some f5, some f6, some f7, some f8, some f9, some f10, some f11, some f12, some f13, some f14, some f15, some f16, some f17, some f18, some f19, some f20, some f21, some f22, some f23, some f24, some f25, some f26, some f27, some f28, some f29, some f30, some f31, some f32, some f33] : List (Option Addr)).getD i none) (fun i => ([some C0, some C1, some C2, some C3, some C4, some C5] : List (Option Addr)).getD i none)) := by
    refine ⟨fun c f g h1 h2 e => ?_, fun c C f e h => ?_, fun c C f e h => ?_⟩
    · have b : ∀ c f, layT c f = true → f < 12 := fun c f h => by
        unfold layT at h
        split at h <;> first | decide | cases h
      exact (by decide +kernel : ∀ f, f < 12 → ∀ g, g < 12 → fnmT f = fnmT g → f = g) f (b c f h1) g (b c g h2) e
    · have h : layT c f = true := h
      unfold layT at h
      split at h
      · cases e; exact n0_0
      · cases e; exact n0_1
      · cases e; exact n0_2
      · cases e; exact n1_3
      · cases e; exact n1_4
      · cases e; exact n1_5
      · cases e; exact n1_6
      · cases e; exact n2_7
      · cases e; exact n2_8
      · cases e; exact n2_9
      · cases e; exact n2_10
      · cases h
    · have h : layT c f = true := h
      unfold layT at h
      split at h
      · cases e; exact T0
      · cases e; exact T0
      · cases e; exact T0
      · cases e; exact T1
      · cases e; exact T1
      · cases e; exact T1
      · cases e; exact T1
      · cases e; exact T2
      · cases e; exact T2
      · cases e; exact T2
      · cases e; exact T2
      · cases h
  have IA : IsaOk (AA l.prog w K (fun i => ([some f0, some f1, some f2, some f3, some f4, some f5, some f6, some f7, some f8, some f9, some f10, some f11, some f12, some f13, some f14, some f15, some f16, some f17, some f18, some f19, some f20, some f21, some f22, some f23, some f24, some f25, some f26, some f27, some f28, some f29, some f30, some f31, some f32, some f33] : List (Option Addr)).getD i none) (fun i => ([some C0, some C1, some C2, some C3, some C4, some C5] : List (Option Addr)).getD i none)) isaT := by
    intro t d b h
    unfold isaT at h
    split at h
    · cases h; exact ⟨_, rfl, ki_NoneType_0⟩
    · cases h; exact ⟨_, rfl, ki_bool_0⟩
    · cases h; exact ⟨_, rfl, ki_int_0⟩
    · cases h; exact ⟨_, rfl, ki_str_0⟩
    · cases h; exact ⟨_, rfl, ki_tuple_0⟩
    · cases h; exact ⟨_, rfl, ki_list_0⟩
    · cases h; exact ⟨_, rfl, ki_dict_0⟩
    · cases h; exact ⟨_, rfl, _, rfl, ⟨T0, iha0, ihn, iht, ihm0⟩, ki_0_0⟩
    · cases h; exact ⟨_, rfl, _, rfl, ⟨T1, iha1, ihn, iht, ihm1⟩, ki_1_0⟩
    · cases h; exact ⟨_, rfl, _, rfl, ⟨T2, iha2, ihn, iht, ihm2⟩, ki_2_0⟩
    · cases h
  have KC : KiC K C3 := ⟨kga, krd, kfi⟩
  have X4 : OexC K C4 := ⟨⟨_, _, _, _, _, _, _, _, _, _, _, _, _, _, _, ex4, rfl⟩, esa4, ebx4, ety4, ekp4⟩
  have XF4 := fun_mk (st := xt_NoFace) el4 eco4 ekf4
  have X5 : OexC K C5 := ⟨⟨_, _, _, _, _, _, _, _, _, _, _, _, _, _, _, ex5, rfl⟩, esa5, ebx5, ety5, ekp5⟩
  have XF5 := fun_mk (st := xt_BadHouse) el5 eco5 ekf5
  have PO : PgOk (AA l.prog w K (fun i => ([some f0, some f1, some f2, some f3, some f4, some f5, some f6, some f7, some f8, some f9, some f10, some f11, some f12, some f13, some f14, some f15, some f16, some f17, some f18, some f19, some f20, some f21, some f22, some f23, some f24, some f25, some f26, some f27, some f28, some f29, some f30, some f31, some f32, some f33] : List (Option Addr)).getD i none) (fun i => ([some C0, some C1, some C2, some C3, some C4, some C5] : List (Option Addr)).getD i none)) l.prog w mg DD slT npT (fun i => ([PySem.W.fnOf "is_whole" "is_whole" (defArgs t0) (defBody t0) (defScope t0) .none kV0 dc0 pm0 an0 cd0 ct0, PySem.W.fnOf "is_name" "is_name" (defArgs t1) (defBody t1) (defScope t1) .none kV1 dc1 pm1 an1 cd1 ct1, PySem.W.fnOf "are_unlike" "are_unlike" (defArgs t2) (defBody t2) (defScope t2) .none kV2 dc2 pm2 an2 cd2 ct2, PySem.W.fnOf "are_names" "are_names" (defArgs t3) (defBody t3) (defScope t3) .none kV3 dc3 pm3 an3 cd3 ct3, PySem.W.fnOf "__init__" "Face.__init__" (defArgs t4) (defBody t4) (defScope t4) .none kV4 dc4 pm4 an4 cd4 ct4, PySem.W.fnOf "is_thing" "is_thing" (defArgs t5) (defBody t5) (defScope t5) .none kV5 dc5 pm5 an5 cd5 ct5, PySem.W.fnOf "is_sum" "is_sum" (defArgs t6) (defBody t6) (defScope t6) .none kV6 dc6 pm6 an6 cd6 ct6, PySem.W.fnOf "is_named" "is_named" (defArgs t7) (defBody t7) (defScope t7) .none kV7 dc7 pm7 an7 cd7 ct7, PySem.W.fnOf "fits_row" "fits_row" (defArgs t8) (defBody t8) (defScope t8) .none kV8 dc8 pm8 an8 cd8 ct8, PySem.W.fnOf "is_row" "is_row" (defArgs t9) (defBody t9) (defScope t9) .none kV9 dc9 pm9 an9 cd9 ct9, PySem.W.fnOf "is_cell" "is_cell" (defArgs t10) (defBody t10) (defScope t10) .none kV10 dc10 pm10 an10 cd10 ct10, PySem.W.fnOf "are_cells" "are_cells" (defArgs t11) (defBody t11) (defScope t11) .none kV11 dc11 pm11 an11 cd11 ct11, PySem.W.fnOf "is_local" "is_local" (defArgs t12) (defBody t12) (defScope t12) .none kV12 dc12 pm12 an12 cd12 ct12, PySem.W.fnOf "is_body" "is_body" (defArgs t13) (defBody t13) (defScope t13) .none kV13 dc13 pm13 an13 cd13 ct13, PySem.W.fnOf "are_bodies" "are_bodies" (defArgs t14) (defBody t14) (defScope t14) .none kV14 dc14 pm14 an14 cd14 ct14, PySem.W.fnOf "reckoned" "reckoned" (defArgs t15) (defBody t15) (defScope t15) .none kV15 dc15 pm15 an15 cd15 ct15, PySem.W.fnOf "__init__" "Body.__init__" (defArgs t16) (defBody t16) (defScope t16) .none kV16 dc16 pm16 an16 cd16 ct16, PySem.W.fnOf "worth_of" "Body.worth_of" (defArgs t17) (defBody t17) (defScope t17) .none kV17 dc17 pm17 an17 cd17 ct17, PySem.W.fnOf "put_in" "Body.put_in" (defArgs t18) (defBody t18) (defScope t18) .none kV18 dc18 pm18 an18 cd18 ct18, PySem.W.fnOf "put" "Body.put" (defArgs t19) (defBody t19) (defScope t19) .none kV19 dc19 pm19 an19 cd19 ct19, PySem.W.fnOf "onward" "Body.onward" (defArgs t20) (defBody t20) (defScope t20) .none kV20 dc20 pm20 an20 cd20 ct20, PySem.W.fnOf "gone_along" "Body.gone_along" (defArgs t21) (defBody t21) (defScope t21) .none kV21 dc21 pm21 an21 cd21 ct21, PySem.W.fnOf "__init__" "House.__init__" (defArgs t22) (defBody t22) (defScope t22) .none kV22 dc22 pm22 an22 cd22 ct22, PySem.W.fnOf "first" "House.first" (defArgs t23) (defBody t23) (defScope t23) .none kV23 dc23 pm23 an23 cd23 ct23, PySem.W.fnOf "said" "House.said" (defArgs t24) (defBody t24) (defScope t24) .none kV24 dc24 pm24 an24 cd24 ct24, PySem.W.fnOf "knock" "House.knock" (defArgs t25) (defBody t25) (defScope t25) .none kV25 dc25 pm25 an25 cd25 ct25, PySem.W.fnOf "answer" "House.answer" (defArgs t26) (defBody t26) (defScope t26) .none kV26 dc26 pm26 an26 cd26 ct26, PySem.W.fnOf "_law_hand" "_law_hand" (defArgs t27) (defBody t27) (defScope t27) .none kV27 dc27 pm27 an27 cd27 ct27, PySem.W.fnOf "_law_take" "_law_take" (defArgs t28) (defBody t28) (defScope t28) .none kV28 dc28 pm28 an28 cd28 ct28, PySem.W.fnOf "_law_of" "_law_of" (defArgs t29) (defBody t29) (defScope t29) .none kV29 dc29 pm29 an29 cd29 ct29, PySem.W.fnOf "_law_rounds" "_law_rounds" (defArgs t30) (defBody t30) (defScope t30) .none kV30 dc30 pm30 an30 cd30 ct30, PySem.W.fnOf "_law_house" "_law_house" (defArgs t31) (defBody t31) (defScope t31) .none kV31 dc31 pm31 an31 cd31 ct31, PySem.W.fnOf "_law_due" "_law_due" (defArgs t32) (defBody t32) (defScope t32) .none kV32 dc32 pm32 an32 cd32 ct32, PySem.W.fnOf "law" "law" (defArgs t33) (defBody t33) (defScope t33) .none kV33 dc33 pm33 an33 cd33 ct33] : List FuncData).getD i (PySem.W.fnOf "law" "law" (defArgs t33) (defBody t33) (defScope t33) .none kV33 dc33 pm33 an33 cd33 ct33)) (fun i => ([[("thing" : Str), ("low" : Str), ("high" : Str)], [("thing" : Str)], [("names" : Str)], [("thing" : Str), ("low" : Str), ("high" : Str)], [("self" : Str), ("size" : Str), ("doors" : Str), ("strangers" : Str)], [("thing" : Str), ("names" : Str)], [("thing" : Str), ("names" : Str)], [("thing" : Str), ("names" : Str)], [("row" : Str), ("face" : Str), ("names" : Str), ("many" : Str)], [("thing" : Str), ("face" : Str), ("names" : Str), ("many" : Str)], [("thing" : Str)], [("thing" : Str)], [("thing" : Str)], [("thing" : Str), ("face" : Str), ("cells" : Str)], [("thing" : Str), ("face" : Str), ("cells" : Str)], [("op" : Str), ("one" : Str), ("other" : Str)], [("self" : Str), ("face" : Str), ("cells" : Str), ("body" : Str)], [("self" : Str), ("worths" : Str), ("thing" : Str)], [("self" : Str), ("worths" : Str), ("name" : Str), ("number" : Str)], [("self" : Str), ("worths" : Str), ("name" : Str), ("told" : Str)], [("self" : Str), ("worths" : Str), ("at" : Str)], [("self" : Str), ("worths" : Str), ("at" : Str)], [("self" : Str), ("face" : Str), ("cells" : Str), ("bodies" : Str)], [("self" : Str)], [("self" : Str), ("door" : Str), ("worths" : Str), ("at" : Str)], [("self" : Str), ("stand" : Str), ("door" : Str), ("worth" : Str)], [("self" : Str), ("stand" : Str), ("frame" : Str), ("worth" : Str)], [("_law_script" : Str), ("_law_k" : Str)], [("_law_hand_here" : Str), ("_law_many" : Str)], [("_law_hand_here" : Str), ("_law_some" : Str)], [("_law_first" : Str), ("_law_step" : Str), ("_law_wide" : Str), ("_law_goal" : Str)], [("_law_hand_here" : Str), ("_law_wide" : Str), ("_law_other" : Str), ("_law_step" : Str), ("_law_asks" : Str), ("_law_last" : Str)], [("_law_first" : Str), ("_law_goal" : Str), ("_law_wide" : Str), ("_law_other" : Str), ("_law_step" : Str), ("_law_last" : Str)], [("_law_script" : Str)]] : List (List Str)).getD i []) := by
    refine ⟨glob_of gl, fun f a e => ?_, fun c m f h => ?_, fun c f h => ?_, rfl, rfl, fun c f h base => ?_, fun c d b h => ?_⟩
    · match f, e with
      | 0, e => cases e; exact ⟨⟨_, _, t0, N0, F0, ⟨rfl, rfl, rfl, by decide +kernel, rfl, by decide +kernel, by decide +kernel⟩, rfl, rfl, fun Φ n X x C => w0 x C FO IA⟩, F0.binds fun _ _ _ _ _ _ us hl => match us, hl with | [_, _, _], _ => rfl⟩
      | 1, e => cases e; exact ⟨⟨_, _, t1, N1, F1, ⟨rfl, rfl, rfl, by decide +kernel, rfl, by decide +kernel, by decide +kernel⟩, rfl, rfl, fun Φ n X x C => w1 x C FO IA⟩, F1.binds fun _ _ _ _ _ _ us hl => match us, hl with | [_], _ => rfl⟩
      | 2, e => cases e; exact ⟨⟨_, _, t2, N2, F2, ⟨rfl, rfl, rfl, by decide +kernel, rfl, by decide +kernel, by decide +kernel⟩, rfl, rfl, fun Φ n X x C => w2 x C FO IA⟩, F2.binds fun _ _ _ _ _ _ us hl => match us, hl with | [_], _ => rfl⟩
      | 3, e => cases e; exact ⟨⟨_, _, t3, N3, F3, ⟨rfl, rfl, rfl, by decide +kernel, rfl, by decide +kernel, by decide +kernel⟩, rfl, rfl, fun Φ n X x C => w3 x C FO IA⟩, F3.binds fun _ _ _ _ _ _ us hl => match us, hl with | [_, _, _], _ => rfl⟩
      | 4, e => cases e; exact ⟨⟨_, _, t4, N4, F4, ⟨rfl, rfl, rfl, by decide +kernel, rfl, by decide +kernel, by decide +kernel⟩, rfl, rfl, fun Φ n X x C => w4 x C FO IA⟩, F4.binds fun _ _ _ _ _ _ us hl => match us, hl with | [_, _, _, _], _ => rfl⟩
      | 5, e => cases e; exact ⟨⟨_, _, t5, N5, F5, ⟨rfl, rfl, rfl, by decide +kernel, rfl, by decide +kernel, by decide +kernel⟩, rfl, rfl, fun Φ n X x C => w5 x C FO IA⟩, F5.binds fun _ _ _ _ _ _ us hl => match us, hl with | [_, _], _ => rfl⟩
      | 6, e => cases e; exact ⟨⟨_, _, t6, N6, F6, ⟨rfl, rfl, rfl, by decide +kernel, rfl, by decide +kernel, by decide +kernel⟩, rfl, rfl, fun Φ n X x C => w6 x C FO IA⟩, F6.binds fun _ _ _ _ _ _ us hl => match us, hl with | [_, _], _ => rfl⟩
      | 7, e => cases e; exact ⟨⟨_, _, t7, N7, F7, ⟨rfl, rfl, rfl, by decide +kernel, rfl, by decide +kernel, by decide +kernel⟩, rfl, rfl, fun Φ n X x C => w7 x C FO IA⟩, F7.binds fun _ _ _ _ _ _ us hl => match us, hl with | [_, _], _ => rfl⟩
      | 8, e => cases e; exact ⟨⟨_, _, t8, N8, F8, ⟨rfl, rfl, rfl, by decide +kernel, rfl, by decide +kernel, by decide +kernel⟩, rfl, rfl, fun Φ n X x C => w8 x C FO IA⟩, F8.binds fun _ _ _ _ _ _ us hl => match us, hl with | [_, _, _, _], _ => rfl⟩
      | 9, e => cases e; exact ⟨⟨_, _, t9, N9, F9, ⟨rfl, rfl, rfl, by decide +kernel, rfl, by decide +kernel, by decide +kernel⟩, rfl, rfl, fun Φ n X x C => w9 x C FO IA⟩, F9.binds fun _ _ _ _ _ _ us hl => match us, hl with | [_, _, _, _], _ => rfl⟩
      | 10, e => cases e; exact ⟨⟨_, _, t10, N10, F10, ⟨rfl, rfl, rfl, by decide +kernel, rfl, by decide +kernel, by decide +kernel⟩, rfl, rfl, fun Φ n X x C => w10 x C FO IA⟩, F10.binds fun _ _ _ _ _ _ us hl => match us, hl with | [_], _ => rfl⟩
      | 11, e => cases e; exact ⟨⟨_, _, t11, N11, F11, ⟨rfl, rfl, rfl, by decide +kernel, rfl, by decide +kernel, by decide +kernel⟩, rfl, rfl, fun Φ n X x C => w11 x C FO IA⟩, F11.binds fun _ _ _ _ _ _ us hl => match us, hl with | [_], _ => rfl⟩
      | 12, e => cases e; exact ⟨⟨_, _, t12, N12, F12, ⟨rfl, rfl, rfl, by decide +kernel, rfl, by decide +kernel, by decide +kernel⟩, rfl, rfl, fun Φ n X x C => w12 x C FO IA⟩, F12.binds fun _ _ _ _ _ _ us hl => match us, hl with | [_], _ => rfl⟩
      | 13, e => cases e; exact ⟨⟨_, _, t13, N13, F13, ⟨rfl, rfl, rfl, by decide +kernel, rfl, by decide +kernel, by decide +kernel⟩, rfl, rfl, fun Φ n X x C => w13 x C FO IA⟩, F13.binds fun _ _ _ _ _ _ us hl => match us, hl with | [_, _, _], _ => rfl⟩
      | 14, e => cases e; exact ⟨⟨_, _, t14, N14, F14, ⟨rfl, rfl, rfl, by decide +kernel, rfl, by decide +kernel, by decide +kernel⟩, rfl, rfl, fun Φ n X x C => w14 x C FO IA⟩, F14.binds fun _ _ _ _ _ _ us hl => match us, hl with | [_, _, _], _ => rfl⟩
      | 15, e => cases e; exact ⟨⟨_, _, t15, N15, F15, ⟨rfl, rfl, rfl, by decide +kernel, rfl, by decide +kernel, by decide +kernel⟩, rfl, rfl, fun Φ n X x C => w15 x C FO IA⟩, F15.binds fun _ _ _ _ _ _ us hl => match us, hl with | [_, _, _], _ => rfl⟩
      | 16, e => cases e; exact ⟨⟨_, _, t16, N16, F16, ⟨rfl, rfl, rfl, by decide +kernel, rfl, by decide +kernel, by decide +kernel⟩, rfl, rfl, fun Φ n X x C => w16 x C FO IA⟩, F16.binds fun _ _ _ _ _ _ us hl => match us, hl with | [_, _, _, _], _ => rfl⟩
      | 17, e => cases e; exact ⟨⟨_, _, t17, N17, F17, ⟨rfl, rfl, rfl, by decide +kernel, rfl, by decide +kernel, by decide +kernel⟩, rfl, rfl, fun Φ n X x C => w17 x C FO IA⟩, F17.binds fun _ _ _ _ _ _ us hl => match us, hl with | [_, _, _], _ => rfl⟩
      | 18, e => cases e; exact ⟨⟨_, _, t18, N18, F18, ⟨rfl, rfl, rfl, by decide +kernel, rfl, by decide +kernel, by decide +kernel⟩, rfl, rfl, fun Φ n X x C => w18 x C FO IA⟩, F18.binds fun _ _ _ _ _ _ us hl => match us, hl with | [_, _, _, _], _ => rfl⟩
      | 19, e => cases e; exact ⟨⟨_, _, t19, N19, F19, ⟨rfl, rfl, rfl, by decide +kernel, rfl, by decide +kernel, by decide +kernel⟩, rfl, rfl, fun Φ n X x C => w19 x C FO IA⟩, F19.binds fun _ _ _ _ _ _ us hl => match us, hl with | [_, _, _, _], _ => rfl⟩
      | 20, e => cases e; exact ⟨⟨_, _, t20, N20, F20, ⟨rfl, rfl, rfl, by decide +kernel, rfl, by decide +kernel, by decide +kernel⟩, rfl, rfl, fun Φ n X x C => w20 x C FO IA⟩, F20.binds fun _ _ _ _ _ _ us hl => match us, hl with | [_, _, _], _ => rfl⟩
      | 21, e => cases e; exact ⟨⟨_, _, t21, N21, F21, ⟨rfl, rfl, rfl, by decide +kernel, rfl, by decide +kernel, by decide +kernel⟩, rfl, rfl, fun Φ n X x C => w21 x C FO IA⟩, F21.binds fun _ _ _ _ _ _ us hl => match us, hl with | [_, _, _], _ => rfl⟩
      | 22, e => cases e; exact ⟨⟨_, _, t22, N22, F22, ⟨rfl, rfl, rfl, by decide +kernel, rfl, by decide +kernel, by decide +kernel⟩, rfl, rfl, fun Φ n X x C => w22 x C FO IA⟩, F22.binds fun _ _ _ _ _ _ us hl => match us, hl with | [_, _, _, _], _ => rfl⟩
      | 23, e => cases e; exact ⟨⟨_, _, t23, N23, F23, ⟨rfl, rfl, rfl, by decide +kernel, rfl, by decide +kernel, by decide +kernel⟩, rfl, rfl, fun Φ n X x C => w23 x C FO IA⟩, F23.binds fun _ _ _ _ _ _ us hl => match us, hl with | [_], _ => rfl⟩
      | 24, e => cases e; exact ⟨⟨_, _, t24, N24, F24, ⟨rfl, rfl, rfl, by decide +kernel, rfl, by decide +kernel, by decide +kernel⟩, rfl, rfl, fun Φ n X x C => w24 x C FO IA⟩, F24.binds fun _ _ _ _ _ _ us hl => match us, hl with | [_, _, _, _], _ => rfl⟩
      | 25, e => cases e; exact ⟨⟨_, _, t25, N25, F25, ⟨rfl, rfl, rfl, by decide +kernel, rfl, by decide +kernel, by decide +kernel⟩, rfl, rfl, fun Φ n X x C => w25 x C FO IA⟩, F25.binds fun _ _ _ _ _ _ us hl => match us, hl with | [_, _, _, _], _ => rfl⟩
      | 26, e => cases e; exact ⟨⟨_, _, t26, N26, F26, ⟨rfl, rfl, rfl, by decide +kernel, rfl, by decide +kernel, by decide +kernel⟩, rfl, rfl, fun Φ n X x C => w26 x C FO IA⟩, F26.binds fun _ _ _ _ _ _ us hl => match us, hl with | [_, _, _, _], _ => rfl⟩
      | 27, e => cases e; exact ⟨⟨_, _, t27, N27, F27, ⟨rfl, rfl, rfl, by decide +kernel, rfl, by decide +kernel, by decide +kernel⟩, rfl, rfl, fun Φ n X x C => w27 x C FO IA⟩, F27.binds fun _ _ _ _ _ _ us hl => match us, hl with | [_, _], _ => rfl⟩
      | 28, e => cases e; exact ⟨⟨_, _, t28, N28, F28, ⟨rfl, rfl, rfl, by decide +kernel, rfl, by decide +kernel, by decide +kernel⟩, rfl, rfl, fun Φ n X x C => w28 x C FO IA⟩, F28.binds fun _ _ _ _ _ _ us hl => match us, hl with | [_, _], _ => rfl⟩
      | 29, e => cases e; exact ⟨⟨_, _, t29, N29, F29, ⟨rfl, rfl, rfl, by decide +kernel, rfl, by decide +kernel, by decide +kernel⟩, rfl, rfl, fun Φ n X x C => w29 x C FO IA⟩, F29.binds fun _ _ _ _ _ _ us hl => match us, hl with | [_, _], _ => rfl⟩
      | 30, e => cases e; exact ⟨⟨_, _, t30, N30, F30, ⟨rfl, rfl, rfl, by decide +kernel, rfl, by decide +kernel, by decide +kernel⟩, rfl, rfl, fun Φ n X x C => w30 x C FO IA⟩, F30.binds fun _ _ _ _ _ _ us hl => match us, hl with | [_, _, _, _], _ => rfl⟩
      | 31, e => cases e; exact ⟨⟨_, _, t31, N31, F31, ⟨rfl, rfl, rfl, by decide +kernel, rfl, by decide +kernel, by decide +kernel⟩, rfl, rfl, fun Φ n X x C => w31 x C FO IA⟩, F31.binds fun _ _ _ _ _ _ us hl => match us, hl with | [_, _, _, _, _, _], _ => rfl⟩
      | 32, e => cases e; exact ⟨⟨_, _, t32, N32, F32, ⟨rfl, rfl, rfl, by decide +kernel, rfl, by decide +kernel, by decide +kernel⟩, rfl, rfl, fun Φ n X x C => w32 x C FO IA⟩, F32.binds fun _ _ _ _ _ _ us hl => match us, hl with | [_, _, _, _, _, _], _ => rfl⟩
      | 33, e => cases e; exact ⟨⟨_, _, t33, N33, F33, ⟨rfl, rfl, rfl, by decide +kernel, rfl, by decide +kernel, by decide +kernel⟩, rfl, rfl, fun Φ n X x C => w33 x C FO IA⟩, F33.binds fun _ _ _ _ _ _ us hl => match us, hl with | [_], _ => rfl⟩
      | n + 34, e => simp at e
    · have h : mtT c m = some f := h
      unfold mtT at h
      split at h
      · cases h; exact ⟨_, _, rfl, rfl, ⟨a17_0, i17, k17⟩, T1, fun g hg => fm_ne g (lay_lt hg) 0 (by decide)⟩
      · cases h; exact ⟨_, _, rfl, rfl, ⟨a18_0, i18, k18⟩, T1, fun g hg => fm_ne g (lay_lt hg) 1 (by decide)⟩
      · cases h; exact ⟨_, _, rfl, rfl, ⟨a19_0, i19, k19⟩, T1, fun g hg => fm_ne g (lay_lt hg) 2 (by decide)⟩
      · cases h; exact ⟨_, _, rfl, rfl, ⟨a20_0, i20, k20⟩, T1, fun g hg => fm_ne g (lay_lt hg) 3 (by decide)⟩
      · cases h; exact ⟨_, _, rfl, rfl, ⟨a21_0, i21, k21⟩, T1, fun g hg => fm_ne g (lay_lt hg) 4 (by decide)⟩
      · cases h; exact ⟨_, _, rfl, rfl, ⟨a23_0, i23, k23⟩, T2, fun g hg => fm_ne g (lay_lt hg) 5 (by decide)⟩
      · cases h; exact ⟨_, _, rfl, rfl, ⟨a24_0, i24, k24⟩, T2, fun g hg => fm_ne g (lay_lt hg) 6 (by decide)⟩
      · cases h; exact ⟨_, _, rfl, rfl, ⟨a25_0, i25, k25⟩, T2, fun g hg => fm_ne g (lay_lt hg) 7 (by decide)⟩
      · cases h; exact ⟨_, _, rfl, rfl, ⟨a26_0, i26, k26⟩, T2, fun g hg => fm_ne g (lay_lt hg) 8 (by decide)⟩
      · cases h
    · have h : iniT c = some f := h
      unfold iniT at h
      split at h
      · cases h; exact ⟨_, _, rfl, rfl, ⟨mk0, a4_0, i4, kc0⟩⟩
      · cases h; exact ⟨_, _, rfl, rfl, ⟨mk1, a16_0, i16, kc1⟩⟩
      · cases h; exact ⟨_, _, rfl, rfl, ⟨mk2, a22_0, i22, kc2⟩⟩
      · cases h
    · have h : exfT c = some f := h
      unfold exfT at h
      split at h
      · cases h; exact ⟨_, _, _, "field", rfl, X4, ein4, eit4, enf4, ex_ok XF4 ⟨rfl, rfl, rfl, by decide +kernel, rfl, by decide +kernel, by decide +kernel⟩ rfl (by decide +kernel) (.inl (by decide +kernel)) (.inl (by decide +kernel)) (PySem.W.mg_of X G aC3) KC (pl := _) (fun _ => rfl) (by decide) (by decide) base, XF4.binds fun _ _ _ _ _ _ us hl => match us, hl with | [_, _], _ => rfl⟩
      · cases h; exact ⟨_, _, _, "field", rfl, X5, ein5, eit5, enf5, ex_ok XF5 ⟨rfl, rfl, rfl, by decide +kernel, rfl, by decide +kernel, by decide +kernel⟩ rfl (by decide +kernel) (.inl (by decide +kernel)) (.inl (by decide +kernel)) (PySem.W.mg_of X G aC3) KC (pl := _) (fun _ => rfl) (by decide) (by decide) base, XF5.binds fun _ _ _ _ _ _ us hl => match us, hl with | [_, _], _ => rfl⟩
      · cases h
    · have h : subT c d = some b := h
      unfold subT at h
      · cases h
  refine ⟨PySem.W.fnOf "law" "law" (defArgs t33) (defBody t33) (defScope t33) .none kV33 dc33 pm33 an33 cd33 ct33, fun s v => .of_eq rfl, fun base _ _ => FnG.imp (sem_ok (base := base) PO 30 33 f33 rfl) (spL_of (G := (AA l.prog w K (fun i => ([some f0, some f1, some f2, some f3, some f4, some f5, some f6, some f7, some f8, some f9, some f10, some f11, some f12, some f13, some f14, some f15, some f16, some f17, some f18, some f19, some f20, some f21, some f22, some f23, some f24, some f25, some f26, some f27, some f28, some f29, some f30, some f31, some f32, some f33] : List (Option Addr)).getD i none) (fun i => ([some C0, some C1, some C2, some C3, some C4, some C5] : List (Option Addr)).getD i none)).toGx) plain)⟩
end KW.P
open PySem PySem.W PyProof.Rows
set_option maxRecDepth 100000 in
set_option maxHeartbeats 0 in
theorem PySem.Challenge.cw_knockamid_k05_rings_are_told_late_holds : PySem.Challenge.rw_knockamid_k05_rings_are_told_late.Holds := by
  w_on; o_law; k_head; (case hw => w_witness2)
  k_fill
  refine KW.walk (x := "_law_script") (k := 62) (l := PySem.Challenge.rw_knockamid_k05_rings_are_told_late) rfl rfl ⟨rfl, by decide, by decide⟩ (fun w h Y => PySem.W.kIn_of Y) ?F
  case F =>
    intro w mg fa h KX G hmg
    refine' KW.P.all_mk KX G hmg ?aC0 ?aC1 ?aC2 ?aC3 ?aC4 ?aC5 ?a0_0 ?l0 ?c0 ?k0 ?a1_0 ?l1 ?c1 ?k1 ?a2_0 ?l2 ?c2 ?k2 ?a3_0 ?l3 ?c3 ?k3 ?a4_0 ?i4 ?l4 ?c4 ?k4 ?a5_0 ?l5 ?c5 ?k5 ?a6_0 ?l6 ?c6 ?k6 ?a7_0 ?l7 ?c7 ?k7 ?a8_0 ?l8 ?c8 ?k8 ?a9_0 ?l9 ?c9 ?k9 ?a10_0 ?l10 ?c10 ?k10 ?a11_0 ?l11 ?c11 ?k11 ?a12_0 ?l12 ?c12 ?k12 ?a13_0 ?l13 ?c13 ?k13 ?a14_0 ?l14 ?c14 ?k14 ?a15_0 ?l15 ?c15 ?k15 ?a16_0 ?i16 ?l16 ?c16 ?k16 ?a17_0 ?i17 ?l17 ?c17 ?k17 ?a18_0 ?i18 ?l18 ?c18 ?k18 ?a19_0 ?i19 ?l19 ?c19 ?k19 ?a20_0 ?i20 ?l20 ?c20 ?k20 ?a21_0 ?i21 ?l21 ?c21 ?k21 ?a22_0 ?i22 ?l22 ?c22 ?k22 ?a23_0 ?i23 ?l23 ?c23 ?k23 ?a24_0 ?i24 ?l24 ?c24 ?k24 ?a25_0 ?i25 ?l25 ?c25 ?k25 ?a26_0 ?i26 ?l26 ?c26 ?k26 ?a27_0 ?l27 ?c27 ?k27 ?a28_0 ?l28 ?c28 ?k28 ?a29_0 ?l29 ?c29 ?k29 ?a30_0 ?l30 ?c30 ?k30 ?a31_0 ?l31 ?c31 ?k31 ?a32_0 ?l32 ?c32 ?k32 ?a33_0 ?l33 ?c33 ?k33 ?pg0 ?hd0 ?po0 ?sa0 ?mk0 ?kc0 ?n0_0 ?n0_1 ?n0_2 ?pg1 ?hd1 ?po1 ?sa1 ?mk1 ?kc1 ?n1_3 ?n1_4 ?n1_5 ?n1_6 ?pg2 ?hd2 ?po2 ?sa2 ?mk2 ?kc2 ?n2_7 ?n2_8 ?n2_9 ?n2_10 ?ex4 ?esa4 ?ebx4 ?ety4 ?ekp4 ?ein4 ?eit4 ?enf4 ?el4 ?eco4 ?ekf4 ?ex5 ?esa5 ?ebx5 ?ety5 ?ekp5 ?ein5 ?eit5 ?enf5 ?el5 ?eco5 ?ekf5 ?kga ?krd ?kfi ?iha0 ?ihm0 ?iha1 ?ihm1 ?iha2 ?ihm2 ?ihn ?iht ?ki_NoneType_0 ?ki_bool_0 ?ki_int_0 ?ki_str_0 ?ki_tuple_0 ?ki_list_0 ?ki_dict_0 ?ki_0_0 ?ki_1_0 ?ki_2_0 ?q0 ?q1 ?qt1 ?q2 ?q3 ?q4 ?q5 ?q6 ?q7 ?q8 ?q9 ?q10 ?qt10 ?q11 ?z0 ?z1 ?z2 ?z3 ?z4 ?z5 ?z6 ?z7 ?z8 ?z9 ?z10 ?z11 ?z12 ?z13 ?z14
    (case aC0 => k_is)
    (case aC1 => k_is)
    (case aC2 => k_is)
    (case aC3 => k_is)
    (case aC4 => k_is)
    (case aC5 => k_is)
    (case a0_0 => k_is)
    (case l0 => k_is)
    (case c0 => k_is)
    (case k0 => k_is)
    (case a1_0 => k_is)
    (case l1 => k_is)
    (case c1 => k_is)
    (case k1 => k_is)
    (case a2_0 => k_is)
    (case l2 => k_is)
    (case c2 => k_is)
    (case k2 => k_is)
    (case a3_0 => k_is)
    (case l3 => k_is)
    (case c3 => k_is)
    (case k3 => k_is)
    (case a4_0 => k_is)
    (case i4 => k_is)
    (case l4 => k_is)
    (case c4 => k_is)
    (case k4 => k_is)
    (case a5_0 => k_is)
    (case l5 => k_is)
    (case c5 => k_is)
    (case k5 => k_is)
    (case a6_0 => k_is)
    (case l6 => k_is)
    (case c6 => k_is)
    (case k6 => k_is)
    (case a7_0 => k_is)
    (case l7 => k_is)
    (case c7 => k_is)
    (case k7 => k_is)
    (case a8_0 => k_is)
    (case l8 => k_is)
    (case c8 => k_is)
    (case k8 => k_is)
    (case a9_0 => k_is)
    (case l9 => k_is)
    (case c9 => k_is)
    (case k9 => k_is)
    (case a10_0 => k_is)
    (case l10 => k_is)
    (case c10 => k_is)
    (case k10 => k_is)
    (case a11_0 => k_is)
    (case l11 => k_is)
    (case c11 => k_is)
    (case k11 => k_is)
    (case a12_0 => k_is)
    (case l12 => k_is)
    (case c12 => k_is)
    (case k12 => k_is)
    (case a13_0 => k_is)
    (case l13 => k_is)
    (case c13 => k_is)
    (case k13 => k_is)
    (case a14_0 => k_is)
    (case l14 => k_is)
    (case c14 => k_is)
    (case k14 => k_is)
    (case a15_0 => k_is)
    (case l15 => k_is)
    (case c15 => k_is)
    (case k15 => k_is)
    (case a16_0 => k_is)
    (case i16 => k_is)
    (case l16 => k_is)
    (case c16 => k_is)
    (case k16 => k_is)
    (case a17_0 => k_is)
    (case i17 => k_is)
    (case l17 => k_is)
    (case c17 => k_is)
    (case k17 => k_is)
    (case a18_0 => k_is)
    (case i18 => k_is)
    (case l18 => k_is)
    (case c18 => k_is)
    (case k18 => k_is)
    (case a19_0 => k_is)
    (case i19 => k_is)
    (case l19 => k_is)
    (case c19 => k_is)
    (case k19 => k_is)
    (case a20_0 => k_is)
    (case i20 => k_is)
    (case l20 => k_is)
    (case c20 => k_is)
    (case k20 => k_is)
    (case a21_0 => k_is)
    (case i21 => k_is)
    (case l21 => k_is)
    (case c21 => k_is)
    (case k21 => k_is)
    (case a22_0 => k_is)
    (case i22 => k_is)
    (case l22 => k_is)
    (case c22 => k_is)
    (case k22 => k_is)
    (case a23_0 => k_is)
    (case i23 => k_is)
    (case l23 => k_is)
    (case c23 => k_is)
    (case k23 => k_is)
    (case a24_0 => k_is)
    (case i24 => k_is)
    (case l24 => k_is)
    (case c24 => k_is)
    (case k24 => k_is)
    (case a25_0 => k_is)
    (case i25 => k_is)
    (case l25 => k_is)
    (case c25 => k_is)
    (case k25 => k_is)
    (case a26_0 => k_is)
    (case i26 => k_is)
    (case l26 => k_is)
    (case c26 => k_is)
    (case k26 => k_is)
    (case a27_0 => k_is)
    (case l27 => k_is)
    (case c27 => k_is)
    (case k27 => k_is)
    (case a28_0 => k_is)
    (case l28 => k_is)
    (case c28 => k_is)
    (case k28 => k_is)
    (case a29_0 => k_is)
    (case l29 => k_is)
    (case c29 => k_is)
    (case k29 => k_is)
    (case a30_0 => k_is)
    (case l30 => k_is)
    (case c30 => k_is)
    (case k30 => k_is)
    (case a31_0 => k_is)
    (case l31 => k_is)
    (case c31 => k_is)
    (case k31 => k_is)
    (case a32_0 => k_is)
    (case l32 => k_is)
    (case c32 => k_is)
    (case k32 => k_is)
    (case a33_0 => k_is)
    (case l33 => k_is)
    (case c33 => k_is)
    (case k33 => k_is)
    (case pg0 => k_is)
    (case hd0 => k_is)
    (case po0 => k_is)
    (case sa0 => k_is)
    (case mk0 => k_is)
    (case kc0 => k_is)
    (case n0_0 => k_is)
    (case n0_1 => k_is)
    (case n0_2 => k_is)
    (case pg1 => k_is)
    (case hd1 => k_is)
    (case po1 => k_is)
    (case sa1 => k_is)
    (case mk1 => k_is)
    (case kc1 => k_is)
    (case n1_3 => k_is)
    (case n1_4 => k_is)
    (case n1_5 => k_is)
    (case n1_6 => k_is)
    (case pg2 => k_is)
    (case hd2 => k_is)
    (case po2 => k_is)
    (case sa2 => k_is)
    (case mk2 => k_is)
    (case kc2 => k_is)
    (case n2_7 => k_is)
    (case n2_8 => k_is)
    (case n2_9 => k_is)
    (case n2_10 => k_is)
    (case ex4 => k_is)
    (case esa4 => k_is)
    (case ebx4 => k_is)
    (case ety4 => k_is)
    (case ekp4 => k_is)
    (case ein4 => k_is)
    (case eit4 => k_is)
    (case enf4 => k_is)
    (case el4 => k_is)
    (case eco4 => k_is)
    (case ekf4 => k_is)
    (case ex5 => k_is)
    (case esa5 => k_is)
    (case ebx5 => k_is)
    (case ety5 => k_is)
    (case ekp5 => k_is)
    (case ein5 => k_is)
    (case eit5 => k_is)
    (case enf5 => k_is)
    (case el5 => k_is)
    (case eco5 => k_is)
    (case ekf5 => k_is)
    (case kga => k_is)
    (case krd => k_is)
    (case kfi => k_is)
    (case iha0 => k_is)
    (case ihm0 => k_is)
    (case iha1 => k_is)
    (case ihm1 => k_is)
    (case iha2 => k_is)
    (case ihm2 => k_is)
    (case ihn => k_is)
    (case iht => k_is)
    (case ki_NoneType_0 => kit_is)
    (case ki_bool_0 => kit_is)
    (case ki_int_0 => kit_is)
    (case ki_str_0 => kit_is)
    (case ki_tuple_0 => kit_is)
    (case ki_list_0 => kit_is)
    (case ki_dict_0 => kit_is)
    (case ki_0_0 => kit_is)
    (case ki_1_0 => kit_is)
    (case ki_2_0 => kit_is)
    (case q0 => k_is)
    (case q1 => k_is)
    (case qt1 => k_is)
    (case q2 => k_is)
    (case q3 => k_is)
    (case q4 => k_is)
    (case q5 => k_is)
    (case q6 => k_is)
    (case q7 => k_is)
    (case q8 => k_is)
    (case q9 => k_is)
    (case q10 => k_is)
    (case qt10 => k_is)
    (case q11 => k_is)
    (case z0 => k_is)
    (case z1 => k_is)
    (case z2 => k_is)
    (case z3 => k_is)
    (case z4 => k_is)
    (case z5 => k_is)
    (case z6 => k_is)
    (case z7 => k_is)
    (case z8 => k_is)
    (case z9 => k_is)
    (case z10 => k_is)
    (case z11 => k_is)
    (case z12 => k_is)
    (case z13 => k_is)
    (case z14 => k_is)
    all_goals exact none
