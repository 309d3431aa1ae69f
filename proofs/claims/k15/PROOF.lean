import PyProof.Rows.All
import HandS.ForMost
import HandS.ForExc
import HandS.CallSlots
import HandS.Deep
import HandS.TupAny
import HandS.Wide
import HandS.IsInst
import HandS.Codes
import HandS.Flow
import HandS.Style
import PyProof.StrOps2
import HandS.Zip
import HandS.Rev
import HandS.WordsExc
import HandS.Ends
import KE.GoesEnum
import KE.GoesMore
import HandS.Strs
import HandS.SetFor
import PySem.Challenge.RW_knockamid_k15_whole_talks_cut_and_joined
set_option Elab.async false
set_option linter.all false
set_option maxRecDepth 100000
set_option maxHeartbeats 4000000
/-! values, logical heap, results; how they are represented -/
namespace KW
open PySem L2

inductive W where
  | non
  | bl (b : Bool)
  | int (i : Int)
  | str (s : Str)
  | tup (ws : List W)
  | lst (ws : List W)
  | dct (ks vs : List W)
  | ins (c : Nat) (fs : List Nat) (vs : List W)
  | ref (a : Nat)
  | scr (ns : List Int)
  deriving Inhabited

mutual
def W.eqb : W → W → Bool
  | .non, .non => true
  | .bl b, .bl c => b == c
  | .int i, .int j => i == j
  | .str s, .str t => s == t
  | .tup ws, .tup us => W.eqbs ws us
  | .lst ws, .lst us => W.eqbs ws us
  | .dct ks vs, .dct ks' vs' => W.eqbs ks ks' && W.eqbs vs vs'
  | .ins c fs vs, .ins c' fs' vs' => c == c' && fs == fs' && W.eqbs vs vs'
  | .ref a, .ref b => a == b
  | .scr a, .scr b => a == b
  | _, _ => false
def W.eqbs : List W → List W → Bool
  | [], [] => true
  | w :: ws, u :: us => W.eqb w u && W.eqbs ws us
  | _, _ => false
end
mutual
theorem W.eqb_eq : ∀ {a b : W}, W.eqb a b = true → a = b
  | .non, b, h => by cases b <;> simp_all [W.eqb]
  | .bl x, b, h => by cases b <;> simp_all [W.eqb]
  | .int x, b, h => by cases b <;> simp_all [W.eqb]
  | .str x, b, h => by cases b <;> simp_all [W.eqb]
  | .tup ws, b, h => by
    cases b <;> simp only [W.eqb, Bool.false_eq_true] at h
    rw [W.eqbs_eq h]
  | .lst ws, b, h => by
    cases b <;> simp only [W.eqb, Bool.false_eq_true] at h
    rw [W.eqbs_eq h]
  | .dct ks vs, b, h => by
    cases b <;> simp only [W.eqb, Bool.false_eq_true, Bool.and_eq_true] at h
    rw [W.eqbs_eq h.1, W.eqbs_eq h.2]
  | .ins c fs vs, b, h => by
    cases b <;> simp only [W.eqb, Bool.false_eq_true, Bool.and_eq_true, beq_iff_eq] at h
    rw [h.1.1, h.1.2, W.eqbs_eq h.2]
  | .ref x, b, h => by cases b <;> simp_all [W.eqb]
  | .scr x, b, h => by cases b <;> simp_all [W.eqb]
theorem W.eqbs_eq : ∀ {a b : List W}, W.eqbs a b = true → a = b
  | [], b, h => by cases b <;> simp_all [W.eqbs]
  | w :: ws, b, h => by
    cases b <;> simp only [W.eqbs, Bool.false_eq_true, Bool.and_eq_true] at h
    rw [W.eqb_eq h.1, W.eqbs_eq h.2]
end
mutual
theorem W.eqb_refl : ∀ a : W, W.eqb a a = true
  | .non => by simp [W.eqb]
  | .bl x => by simp [W.eqb]
  | .int x => by simp [W.eqb]
  | .str x => by simp [W.eqb]
  | .tup ws => by simp [W.eqb, W.eqbs_refl ws]
  | .lst ws => by simp [W.eqb, W.eqbs_refl ws]
  | .dct ks vs => by simp [W.eqb, W.eqbs_refl ks, W.eqbs_refl vs]
  | .ins c fs vs => by simp [W.eqb, W.eqbs_refl vs]
  | .ref x => by simp [W.eqb]
  | .scr x => by simp [W.eqb]
theorem W.eqbs_refl : ∀ a : List W, W.eqbs a a = true
  | [] => by simp [W.eqbs]
  | w :: ws => by simp [W.eqbs, W.eqb_refl w, W.eqbs_refl ws]
end
instance : DecidableEq W := fun a b => if h : W.eqb a b = true then .isTrue (W.eqb_eq h) else .isFalse fun e => h (by rw [e]; exact W.eqb_refl b)

inductive Ob where
  | lst (ws : List W)
  | dct (ks vs : List W)
  | ins (c : Nat) (fs : List Nat) (vs : List W)
  | dead
  deriving DecidableEq, Inhabited

abbrev WH := List Ob
abbrev WS := List (Option W)

inductive R (α : Type) where
  | ok (a : α) (h : WH)
  | exc (c : Nat) (fs : List Nat) (vs : List W) (h : WH)
  | no

def R.bind {α β : Type} (r : R α) (f : α → WH → R β) : R β := match r with
  | .ok a h => f a h
  | .exc c fs vs h => .exc c fs vs h
  | .no => .no

mutual
def W.lt (n : Nat) : W → Bool
  | .tup ws => W.lts n ws
  | .lst ws => W.lts n ws
  | .dct ks vs => W.lts n ks && W.lts n vs
  | .ins _ _ vs => W.lts n vs
  | .ref a => decide (a < n)
  | _ => true
def W.lts (n : Nat) : List W → Bool
  | [] => true
  | w :: ws => W.lt n w && W.lts n ws
end
def Ob.lt (n : Nat) : Ob → Bool
  | .lst ws => W.lts n ws
  | .dct ks vs => W.lts n ks && W.lts n vs
  | .ins _ _ vs => W.lts n vs
  | .dead => true


/-! ### how values are represented -/
/-- the program's own: the written part, the classes' addresses, the attributes' names -/
structure Gx where
  K : PySem.W.Frag
  cl : Nat → Option Addr
  fn : Nat → Str
  /-- the attributes that a class's instances may have -/
  lay : Nat → Nat → Bool

/-- frozen objects; where the logical objects stand -/
structure Ka where
  F : Hp
  mu : List Addr

def keyW : Key → W
  | .inl i => .int i
  | .inr s => .str s

mutual
def Rep (G : Gx) (k : Ka) : W → V → Prop
  | .non, v => v = .non
  | .bl b, v => v = .bl b
  | .int i, v => v = .int i
  | .str s, v => v = .str s
  | .tup ws, v => ∃ p vs, v = .ref p ∧ SqT G.K k.F p vs ∧ RepL G k ws vs
  | .lst ws, v => ∃ p vs, v = .ref p ∧ k.F p = some (.lst vs) ∧ RepL G k ws vs
  | .dct ks ws, v => ∃ p kvs, v = .ref p ∧ k.F p = some (.dK kvs) ∧ ks = kvs.map (fun x => keyW x.1) ∧ RepL G k ws (kvs.map (·.2))
  | .ins c fs ws, v => ∃ p C dx fvs, v = .ref p ∧ (G.cl c = some C ∧ fs.all (G.lay c) = true) ∧ k.F p = some (.ins C dx fvs) ∧ fvs.map (·.1) = fs.map G.fn ∧ RepL G k ws (fvs.map (·.2))
  | .ref a, v => ∃ p, v = .ref p ∧ k.mu[a]? = some p
  | .scr ns, v => ∃ p, v = .ref p ∧ SqL G.K k.F p (ns.map V.int)
def RepL (G : Gx) (k : Ka) : List W → List V → Prop
  | [], vs => vs = []
  | w :: ws, vs => ∃ v r, vs = v :: r ∧ Rep G k w v ∧ RepL G k ws r
end

theorem RepL.length {G : Gx} {k : Ka} : ∀ {ws : List W} {vs : List V}, RepL G k ws vs → vs.length = ws.length
  | [], vs, h => by simp only [RepL] at h; subst h; rfl
  | w :: ws, vs, h => by
    simp only [RepL] at h
    obtain ⟨v, r, rfl, _, h2⟩ := h
    simp [RepL.length h2]
theorem RepL.get {G : Gx} {k : Ka} : ∀ {ws : List W} {vs : List V} {i : Nat} {w : W}, RepL G k ws vs → ws[i]? = some w → ∃ v, vs[i]? = some v ∧ Rep G k w v
  | [], vs, i, w, h, e => by simp at e
  | w :: ws, vs, 0, w', h, e => by
    simp only [RepL] at h
    obtain ⟨v, r, rfl, h1, h2⟩ := h
    simp at e; subst e
    exact ⟨v, rfl, h1⟩
  | w :: ws, vs, i + 1, w', h, e => by
    simp only [RepL] at h
    obtain ⟨v, r, rfl, h1, h2⟩ := h
    simpa using RepL.get h2 (by simpa using e)
theorem RepL.append {G : Gx} {k : Ka} : ∀ {ws us : List W} {vs xs : List V}, RepL G k ws vs → RepL G k us xs → RepL G k (ws ++ us) (vs ++ xs)
  | [], us, vs, xs, h, h' => by simp only [RepL] at h; subst h; exact h'
  | w :: ws, us, vs, xs, h, h' => by
    simp only [RepL] at h
    obtain ⟨v, r, rfl, h1, h2⟩ := h
    simp only [List.cons_append, RepL]
    exact ⟨v, r ++ xs, rfl, h1, RepL.append h2 h'⟩
theorem RepL.one {G : Gx} {k : Ka} {w : W} {v : V} (h : Rep G k w v) : RepL G k [w] [v] := by
  simp only [RepL]; exact ⟨v, [], rfl, h, rfl⟩
theorem RepL.drop {G : Gx} {k : Ka} : ∀ {ws : List W} {vs : List V} (n : Nat), RepL G k ws vs → RepL G k (ws.drop n) (vs.drop n)
  | ws, vs, 0, h => by simpa using h
  | [], vs, n + 1, h => by simp only [RepL] at h; subst h; simp [RepL]
  | w :: ws, vs, n + 1, h => by
    simp only [RepL] at h
    obtain ⟨v, r, rfl, h1, h2⟩ := h
    simpa using RepL.drop n h2
theorem RepL.take {G : Gx} {k : Ka} : ∀ {ws : List W} {vs : List V} (n : Nat), RepL G k ws vs → RepL G k (ws.take n) (vs.take n)
  | ws, vs, 0, h => by simp [RepL]
  | [], vs, n + 1, h => by simp only [RepL] at h; subst h; simp [RepL]
  | w :: ws, vs, n + 1, h => by
    simp only [RepL] at h
    obtain ⟨v, r, rfl, h1, h2⟩ := h
    simp only [List.take_succ_cons, RepL]
    exact ⟨v, r.take n, rfl, h1, RepL.take n h2⟩
theorem RepL.set {G : Gx} {k : Ka} : ∀ {ws : List W} {vs : List V} {w : W} {v : V} (n : Nat), RepL G k ws vs → Rep G k w v → RepL G k (ws.set n w) (vs.set n v)
  | [], vs, w, v, n, h, _ => by simp only [RepL] at h; subst h; simp [RepL]
  | w' :: ws, vs, w, v, 0, h, hv => by
    simp only [RepL] at h
    obtain ⟨v', r, rfl, h1, h2⟩ := h
    simp only [List.set_cons_zero, RepL]
    exact ⟨v, r, rfl, hv, h2⟩
  | w' :: ws, vs, w, v, n + 1, h, hv => by
    simp only [RepL] at h
    obtain ⟨v', r, rfl, h1, h2⟩ := h
    simp only [List.set_cons_succ, RepL]
    exact ⟨v', r.set n v, rfl, h1, RepL.set n h2 hv⟩
theorem RepL.eraseIdx {G : Gx} {k : Ka} : ∀ {ws : List W} {vs : List V} (n : Nat), RepL G k ws vs → RepL G k (ws.eraseIdx n) (vs.eraseIdx n)
  | [], vs, n, h => by simp only [RepL] at h; subst h; simp [RepL]
  | w' :: ws, vs, 0, h => by
    simp only [RepL] at h
    obtain ⟨v', r, rfl, h1, h2⟩ := h
    simpa using h2
  | w' :: ws, vs, n + 1, h => by
    simp only [RepL] at h
    obtain ⟨v', r, rfl, h1, h2⟩ := h
    simp only [List.eraseIdx_cons_succ, RepL]
    exact ⟨v', r.eraseIdx n, rfl, h1, RepL.eraseIdx n h2⟩
theorem RepL.reverse {G : Gx} {k : Ka} : ∀ {ws : List W} {vs : List V}, RepL G k ws vs → RepL G k ws.reverse vs.reverse
  | [], vs, h => by simp only [RepL] at h; subst h; simp [RepL]
  | w' :: ws, vs, h => by
    simp only [RepL] at h
    obtain ⟨v', r, rfl, h1, h2⟩ := h
    simp only [List.reverse_cons]
    exact RepL.append (RepL.reverse h2) (RepL.one h1)

/-- more frozen objects, more logical ones -/
structure Ka.Le (k k' : Ka) : Prop where
  F : ∀ a o, k.F a = some o → k'.F a = some o
  mu : k.mu <+: k'.mu
theorem Ka.Le.refl (k : Ka) : k.Le k := ⟨fun _ _ h => h, List.prefix_refl _⟩
theorem Ka.Le.trans {k k1 k2 : Ka} (a : k.Le k1) (b : k1.Le k2) : k.Le k2 := ⟨fun x o h => b.F x o (a.F x o h), a.mu.trans b.mu⟩
theorem Ka.Le.seqT {K : PySem.W.Frag} {F F' : Hp} (h : ∀ a o, F a = some o → F' a = some o) {p : Addr} {vs : List V} (q : SqT K F p vs) : SqT K F' p vs := by
  rcases q with (q | ⟨o, q⟩) | q
  · exact .inl (.inl (h _ _ q))
  · exact .inl (.inr ⟨o, h _ _ q⟩)
  · exact .inr q
theorem Ka.Le.seqL {K : PySem.W.Frag} {F F' : Hp} (h : ∀ a o, F a = some o → F' a = some o) {p : Addr} {vs : List V} (q : SqL K F p vs) : SqL K F' p vs := by
  rcases q with (q | ⟨o, q⟩) | q
  · exact .inl (.inl (h _ _ q))
  · exact .inl (.inr ⟨o, h _ _ q⟩)
  · exact .inr q
theorem prefix_get {α : Type} {l l' : List α} (h : l <+: l') {i : Nat} {x : α} (e : l[i]? = some x) : l'[i]? = some x := by
  obtain ⟨r, rfl⟩ := h
  rw [List.getElem?_append_left (List.getElem?_eq_some_iff.mp e).1]
  exact e

mutual
theorem Rep.mono {G : Gx} {k k' : Ka} (l : k.Le k') : ∀ {w : W} {v : V}, Rep G k w v → Rep G k' w v
  | .non, v, h => by simpa only [Rep] using h
  | .bl _, v, h => by simpa only [Rep] using h
  | .int _, v, h => by simpa only [Rep] using h
  | .str _, v, h => by simpa only [Rep] using h
  | .tup ws, v, h => by
    simp only [Rep] at h ⊢
    obtain ⟨p, vs, e, q, r⟩ := h
    exact ⟨p, vs, e, Ka.Le.seqT l.F q, RepL.mono l r⟩
  | .lst ws, v, h => by
    simp only [Rep] at h ⊢
    obtain ⟨p, vs, e, q, r⟩ := h
    exact ⟨p, vs, e, l.F _ _ q, RepL.mono l r⟩
  | .dct ks ws, v, h => by
    simp only [Rep] at h ⊢
    obtain ⟨p, kvs, e, q, e2, r⟩ := h
    exact ⟨p, kvs, e, l.F _ _ q, e2, RepL.mono l r⟩
  | .ins c fs ws, v, h => by
    simp only [Rep] at h ⊢
    obtain ⟨p, C, dx, fvs, e, e1, q, e2, r⟩ := h
    exact ⟨p, C, dx, fvs, e, e1, l.F _ _ q, e2, RepL.mono l r⟩
  | .ref a, v, h => by
    simp only [Rep] at h ⊢
    obtain ⟨p, e, q⟩ := h
    exact ⟨p, e, prefix_get l.mu q⟩
  | .scr ns, v, h => by
    simp only [Rep] at h ⊢
    obtain ⟨p, e, q⟩ := h
    exact ⟨p, e, Ka.Le.seqL l.F q⟩
theorem RepL.mono {G : Gx} {k k' : Ka} (l : k.Le k') : ∀ {ws : List W} {vs : List V}, RepL G k ws vs → RepL G k' ws vs
  | [], vs, h => by simpa only [RepL] using h
  | w :: ws, vs, h => by
    simp only [RepL] at h ⊢
    obtain ⟨v, r, e, h1, h2⟩ := h
    exact ⟨v, r, e, Rep.mono l h1, RepL.mono l h2⟩
end

/-- fewer logical objects: what names the elder ones alone stays -/
def Ka.cut (k : Ka) (n : Nat) : Ka := ⟨k.F, k.mu.take n⟩
mutual
theorem Rep.cut {G : Gx} {k : Ka} {n : Nat} : ∀ {w : W} {v : V}, Rep G k w v → w.lt n = true → Rep G (k.cut n) w v
  | .non, v, h, _ => by simpa only [Rep] using h
  | .bl _, v, h, _ => by simpa only [Rep] using h
  | .int _, v, h, _ => by simpa only [Rep] using h
  | .str _, v, h, _ => by simpa only [Rep] using h
  | .tup ws, v, h, c => by
    simp only [Rep] at h ⊢
    obtain ⟨p, vs, e, q, r⟩ := h
    exact ⟨p, vs, e, q, RepL.cut r (by simpa only [W.lt] using c)⟩
  | .lst ws, v, h, c => by
    simp only [Rep] at h ⊢
    obtain ⟨p, vs, e, q, r⟩ := h
    exact ⟨p, vs, e, q, RepL.cut r (by simpa only [W.lt] using c)⟩
  | .dct ks ws, v, h, c => by
    simp only [Rep] at h ⊢
    obtain ⟨p, kvs, e, q, e2, r⟩ := h
    simp only [W.lt, Bool.and_eq_true] at c
    exact ⟨p, kvs, e, q, e2, RepL.cut r c.2⟩
  | .ins c fs ws, v, h, l => by
    simp only [Rep] at h ⊢
    obtain ⟨p, C, dx, fvs, e, e1, q, e2, r⟩ := h
    exact ⟨p, C, dx, fvs, e, e1, q, e2, RepL.cut r (by simpa only [W.lt] using l)⟩
  | .ref a, v, h, c => by
    simp only [Rep] at h ⊢
    obtain ⟨p, e, q⟩ := h
    simp only [W.lt, decide_eq_true_eq] at c
    refine ⟨p, e, ?_⟩
    show (k.mu.take n)[a]? = some p
    rw [List.getElem?_take, if_pos c]; exact q
  | .scr ns, v, h, _ => by
    simp only [Rep] at h ⊢
    obtain ⟨p, e, q⟩ := h
    exact ⟨p, e, q⟩
theorem RepL.cut {G : Gx} {k : Ka} {n : Nat} : ∀ {ws : List W} {vs : List V}, RepL G k ws vs → W.lts n ws = true → RepL G (k.cut n) ws vs
  | [], vs, h, _ => by simpa only [RepL] using h
  | w :: ws, vs, h, c => by
    simp only [RepL] at h ⊢
    simp only [W.lts, Bool.and_eq_true] at c
    obtain ⟨v, r, e, h1, h2⟩ := h
    exact ⟨v, r, e, Rep.cut h1 c.1, RepL.cut h2 c.2⟩
end
theorem keys_lt {n : Nat} : ∀ kvs : List (Key × V), W.lts n (kvs.map fun x => keyW x.1) = true
  | [] => by simp [W.lts]
  | (.inl i, v) :: r => by
    simp only [List.map_cons, W.lts, keys_lt r, Bool.and_true]; rfl
  | (.inr i, v) :: r => by
    simp only [List.map_cons, W.lts, keys_lt r, Bool.and_true]; rfl
mutual
theorem Rep.lt {G : Gx} {k : Ka} : ∀ {w : W} {v : V}, Rep G k w v → w.lt k.mu.length = true
  | .non, v, h => by simp [W.lt]
  | .bl _, v, h => by simp [W.lt]
  | .int _, v, h => by simp [W.lt]
  | .str _, v, h => by simp [W.lt]
  | .tup ws, v, h => by
    simp only [Rep] at h
    obtain ⟨p, vs, e, q, r⟩ := h
    simp only [W.lt]; exact RepL.lts r
  | .lst ws, v, h => by
    simp only [Rep] at h
    obtain ⟨p, vs, e, q, r⟩ := h
    simp only [W.lt]; exact RepL.lts r
  | .dct ks ws, v, h => by
    simp only [Rep] at h
    obtain ⟨p, kvs, e, q, e2, r⟩ := h
    simp only [W.lt, Bool.and_eq_true]
    exact ⟨by rw [e2]; exact keys_lt _, RepL.lts r⟩
  | .ins c fs ws, v, h => by
    simp only [Rep] at h
    obtain ⟨p, C, dx, fvs, e, e1, q, e2, r⟩ := h
    simp only [W.lt]; exact RepL.lts r
  | .ref a, v, h => by
    simp only [Rep] at h
    obtain ⟨p, e, q⟩ := h
    simp only [W.lt, decide_eq_true_eq]
    exact (List.getElem?_eq_some_iff.mp q).1
  | .scr ns, v, h => by simp [W.lt]
theorem RepL.lts {G : Gx} {k : Ka} : ∀ {ws : List W} {vs : List V}, RepL G k ws vs → W.lts k.mu.length ws = true
  | [], vs, h => by simp [W.lts]
  | w :: ws, vs, h => by
    simp only [RepL] at h
    obtain ⟨v, r, e, h1, h2⟩ := h
    simp only [W.lts, Bool.and_eq_true]
    exact ⟨Rep.lt h1, RepL.lts h2⟩
end

/-! ### the heap -/
def ORep (G : Gx) (k : Ka) (H : Hp) (p : Addr) : Ob → Prop
  | .lst ws => ∃ vs, H p = some (.lst vs) ∧ RepL G k ws vs
  | .dct ks ws => ∃ kvs, H p = some (.dK kvs) ∧ ks = kvs.map (fun x => keyW x.1) ∧ RepL G k ws (kvs.map (·.2))
  | .ins c fs ws => ∃ C dx fvs, (G.cl c = some C ∧ fs.all (G.lay c) = true) ∧ H p = some (.ins C dx fvs) ∧ fvs.map (·.1) = fs.map G.fn ∧ RepL G k ws (fvs.map (·.2))
  | .dead => True
theorem ORep.mono {G : Gx} {k k' : Ka} {H H' : Hp} {p : Addr} (l : k.Le k') (e : H' p = H p) : ∀ {o : Ob}, ORep G k H p o → ORep G k' H' p o
  | .lst ws, ⟨vs, q, r⟩ => ⟨vs, e.trans q, r.mono l⟩
  | .dct ks ws, ⟨kvs, q, e2, r⟩ => ⟨kvs, e.trans q, e2, r.mono l⟩
  | .ins c fs ws, ⟨C, dx, fvs, e1, q, e2, r⟩ => ⟨C, dx, fvs, e1, e.trans q, e2, r.mono l⟩
  | .dead, _ => trivial
theorem ORep.cut {G : Gx} {k : Ka} {H : Hp} {p : Addr} {n : Nat} : ∀ {o : Ob}, ORep G k H p o → o.lt n = true → ORep G (k.cut n) H p o
  | .lst ws, ⟨vs, q, r⟩, c => ⟨vs, q, r.cut c⟩
  | .dct ks ws, ⟨kvs, q, e2, r⟩, c => ⟨kvs, q, e2, r.cut (by simp only [Ob.lt, Bool.and_eq_true] at c; exact c.2)⟩
  | .ins c fs ws, ⟨C, dx, fvs, e1, q, e2, r⟩, l => ⟨C, dx, fvs, e1, q, e2, r.cut l⟩
  | .dead, _, _ => trivial
theorem ORep.lt {G : Gx} {k : Ka} {H : Hp} {p : Addr} : ∀ {o : Ob}, ORep G k H p o → o.lt k.mu.length = true
  | .lst ws, ⟨vs, q, r⟩ => r.lts
  | .dct ks ws, ⟨kvs, q, e2, r⟩ => by simp only [Ob.lt, Bool.and_eq_true]; exact ⟨by rw [e2]; exact keys_lt _, r.lts⟩
  | .ins c fs ws, ⟨C, dx, fvs, e1, q, e2, r⟩ => r.lts
  | .dead, _ => rfl

structure HRep (G : Gx) (k : Ka) (H : Hp) (h : WH) : Prop where
  sub : ∀ a o, k.F a = some o → H a = some o
  len : k.mu.length = h.length
  nd : k.mu.Nodup
  trk : ∀ a ∈ k.mu, H a ≠ none
  ob : ∀ (i : Nat) o p, h[i]? = some o → k.mu[i]? = some p → ORep G k H p o ∧ (o ≠ .dead → k.F p = none ∧ Mut (H p))

/-- from one state to a later one -/
structure Nxt (k : Ka) (H : Hp) (k' : Ka) (H' : Hp) : Prop where
  le : k.Le k'
  oth : ∀ a, H a ≠ none → a ∉ k.mu → H' a = H a
  fro : ∀ a o, k'.F a = some o → k.F a = some o ∨ H a = none ∨ a ∈ k.mu
  new : ∀ a ∈ k'.mu, a ∈ k.mu ∨ H a = none
  trk : ∀ a, H a ≠ none → H' a ≠ none
theorem Nxt.refl (k : Ka) (H : Hp) : Nxt k H k H := ⟨.refl k, fun _ _ _ => rfl, fun _ _ h => .inl h, fun _ h => .inl h, fun _ h => h⟩
theorem Nxt.trans {k k1 k2 : Ka} {H H1 H2 : Hp} (a : Nxt k H k1 H1) (b : Nxt k1 H1 k2 H2) : Nxt k H k2 H2 where
  le := a.le.trans b.le
  oth := fun x hx nx => by
    have h1 : x ∉ k1.mu := fun hm => (a.new x hm).elim nx hx
    rw [b.oth x (a.trk x hx) h1, a.oth x hx nx]
  fro := fun x o hx => by
    rcases b.fro x o hx with h | h | h
    · exact a.fro x o h
    · exact .inr (.inl (Classical.byContradiction fun c => a.trk x c h))
    · rcases a.new x h with h | h
      · exact .inr (.inr h)
      · exact .inr (.inl h)
  new := fun x hx => by
    rcases b.new x hx with h | h
    · exact a.new x h
    · exact .inr (Classical.byContradiction fun c => a.trk x c h)
  trk := fun x hx => b.trk x (a.trk x hx)

/-- a new object, tracked, frozen -/
def Ka.froz (k : Ka) (p : Addr) (o : HO) : Ka := ⟨upd k.F p o, k.mu⟩
def Ka.more (k : Ka) (p : Addr) : Ka := ⟨k.F, k.mu ++ [p]⟩
section
variable {G : Gx} {k : Ka} {H : Hp} {h : WH} {p : Addr} {o : HO}
theorem HRep.noF (x : HRep G k H h) (hp : H p = none) : k.F p = none := by
  cases e : k.F p with
  | none => rfl
  | some o => rw [x.sub p o e] at hp; cases hp
theorem HRep.noMu (x : HRep G k H h) (hp : H p = none) : p ∉ k.mu := fun hm => x.trk p hm hp
theorem le_froz (hp : k.F p = none) : k.Le (k.froz p o) := ⟨fun a u e => by
  show upd k.F p o a = some u
  rw [upd_ne (fun z => by rw [z, hp] at e; cases e)]; exact e, List.prefix_refl _⟩
theorem le_more : k.Le (k.more p) := ⟨fun _ _ e => e, List.prefix_append _ _⟩
theorem HRep.froz (x : HRep G k H h) (hp : H p = none) : HRep G (k.froz p o) (upd H p o) h where
  sub := fun a u e => by
    by_cases z : a = p
    · subst z
      have e' : upd k.F a o a = some u := e
      rw [upd_same] at e' ⊢; exact e'
    · have e' : upd k.F p o a = some u := e
      rw [upd_ne z] at e' ⊢; exact x.sub a u e'
  len := x.len
  nd := x.nd
  trk := fun a ha => by
    have z : a ≠ p := fun z => x.noMu hp (by rw [← z]; exact ha)
    rw [upd_ne z]; exact x.trk a ha
  ob := fun i u q e1 e2 => by
    obtain ⟨r, n⟩ := x.ob i u q e1 e2
    have z : q ≠ p := fun z => x.noMu hp (z ▸ List.mem_of_getElem? e2)
    refine ⟨r.mono (le_froz (x.noF hp)) (upd_ne z), fun d => ?_⟩
    obtain ⟨n1, n2⟩ := n d
    exact ⟨(upd_ne z).trans n1, by rw [upd_ne z]; exact n2⟩
theorem Nxt.froz (x : HRep G k H h) (hp : H p = none) : Nxt k H (k.froz p o) (upd H p o) where
  le := le_froz (x.noF hp)
  oth := fun a ha _ => upd_ne fun z => ha (z ▸ hp)
  fro := fun a u e => by
    by_cases z : a = p
    · subst z; exact .inr (.inl hp)
    · have e' : upd k.F p o a = some u := e
      rw [upd_ne z] at e'; exact .inl e'
  new := fun a ha => .inl ha
  trk := fun a ha => by
    have z : a ≠ p := fun z => ha (by rw [z]; exact hp)
    rw [upd_ne z]; exact ha
theorem HRep.more {ob : Ob} (x : HRep G k H h) (hp : H p = none) (r : ORep G (k.more p) (upd H p o) p ob) (m : Mut (some o)) : HRep G (k.more p) (upd H p o) (h ++ [ob]) where
  sub := fun a u e => by
    have z : a ≠ p := fun z => by
      have := x.sub a u e
      rw [z, hp] at this; cases this
    rw [upd_ne z]; exact x.sub a u e
  len := by show (k.mu ++ [p]).length = _; simp [x.len]
  nd := by
    show (k.mu ++ [p]).Nodup
    rw [List.nodup_append]
    refine ⟨x.nd, by simp, fun a ha b hb => ?_⟩
    simp at hb; subst hb
    exact fun z => x.noMu hp (z ▸ ha)
  trk := fun a ha => by
    have ha' : a ∈ k.mu ++ [p] := ha
    rcases List.mem_append.mp ha' with ha | ha
    · have z : a ≠ p := fun z => x.noMu hp (by rw [← z]; exact ha)
      rw [upd_ne z]; exact x.trk a ha
    · simp at ha; subst ha; rw [upd_same]; simp
  ob := fun i u q e1 e2 => by
    have e2' : (k.mu ++ [p])[i]? = some q := e2
    by_cases hi : i < h.length
    · rw [List.getElem?_append_left hi] at e1
      rw [List.getElem?_append_left (by rw [x.len]; exact hi)] at e2'
      obtain ⟨r', n⟩ := x.ob i u q e1 e2'
      have z : q ≠ p := fun z => x.noMu hp (z ▸ List.mem_of_getElem? e2')
      refine ⟨r'.mono le_more (upd_ne z), fun d => ?_⟩
      obtain ⟨n1, n2⟩ := n d
      exact ⟨n1, by rw [upd_ne z]; exact n2⟩
    · rw [List.getElem?_append_right (by omega)] at e1
      rw [List.getElem?_append_right (by rw [x.len]; omega)] at e2'
      have hi0 : i - h.length = 0 := by
        have := (List.getElem?_eq_some_iff.mp e1).1
        simp at this; omega
      rw [hi0] at e1
      rw [x.len, hi0] at e2'
      simp at e1 e2'
      subst e1; subst e2'
      exact ⟨r, fun _ => ⟨x.noF hp, by rw [upd_same]; exact m⟩⟩
theorem Nxt.more (x : HRep G k H h) (hp : H p = none) : Nxt k H (k.more p) (upd H p o) where
  le := le_more
  oth := fun a ha _ => upd_ne fun z => ha (z ▸ hp)
  fro := fun a u e => .inl e
  new := fun a ha => by
    have ha' : a ∈ k.mu ++ [p] := ha
    rcases List.mem_append.mp ha' with ha | ha
    · exact .inl ha
    · simp at ha; subst ha; exact .inr hp
  trk := fun a ha => by
    have z : a ≠ p := fun z => ha (by rw [z]; exact hp)
    rw [upd_ne z]; exact ha
/-- a logical object is written -/
theorem HRep.put {i : Nat} {ob' : Ob} (x : HRep G k H h) (e2 : k.mu[i]? = some p) (hF : k.F p = none) (r : ORep G k (upd H p o) p ob') (m : Mut (some o)) : HRep G k (upd H p o) (h.set i ob') where
  sub := fun a u e => by
    have z : a ≠ p := fun z => by rw [z, hF] at e; cases e
    rw [upd_ne z]; exact x.sub a u e
  len := by rw [List.length_set]; exact x.len
  nd := x.nd
  trk := fun a ha => by
    by_cases z : a = p
    · rw [z, upd_same]; simp
    · rw [upd_ne z]; exact x.trk a ha
  ob := fun j u q e1 e3 => by
    by_cases hj : i = j
    · subst hj
      rw [e2] at e3; cases e3
      rw [List.getElem?_set_self (by rw [← x.len]; exact (List.getElem?_eq_some_iff.mp e2).1)] at e1
      cases e1
      exact ⟨r, fun _ => ⟨hF, by rw [upd_same]; exact m⟩⟩
    · rw [List.getElem?_set_ne hj] at e1
      obtain ⟨r', n⟩ := x.ob j u q e1 e3
      have z : q ≠ p := fun z => hj (nd_ix x.nd (z ▸ e2) e3)
      refine ⟨r'.mono (.refl k) (upd_ne z), fun d => ?_⟩
      obtain ⟨n1, n2⟩ := n d
      exact ⟨n1, by rw [upd_ne z]; exact n2⟩
theorem Nxt.put {i : Nat} (x : HRep G k H h) (e2 : k.mu[i]? = some p) : Nxt k H k (upd H p o) where
  le := .refl k
  oth := fun a ha na => upd_ne fun z => na (z ▸ List.mem_of_getElem? e2)
  fro := fun a u e => .inl e
  new := fun a ha => .inl ha
  trk := fun a ha => by
    by_cases z : a = p
    · rw [z, upd_same]; simp
    · rw [upd_ne z]; exact ha
/-- a logical object is frozen as it stands -/
theorem HRep.kill {i : Nat} {u : HO} (x : HRep G k H h) (e2 : k.mu[i]? = some p) (hF : k.F p = none) (hH : H p = some u) : HRep G (k.froz p u) H (h.set i .dead) where
  sub := fun a o e => by
    by_cases z : a = p
    · subst z
      have e' : upd k.F a u a = some o := e
      rw [upd_same] at e'; cases e'; exact hH
    · have e' : upd k.F p u a = some o := e
      rw [upd_ne z] at e'; exact x.sub a o e'
  len := by rw [List.length_set]; exact x.len
  nd := x.nd
  trk := x.trk
  ob := fun j o q e1 e3 => by
    by_cases hj : i = j
    · subst hj
      rw [List.getElem?_set_self (by rw [← x.len]; exact (List.getElem?_eq_some_iff.mp e2).1)] at e1
      cases e1
      exact ⟨trivial, fun d => absurd rfl d⟩
    · rw [List.getElem?_set_ne hj] at e1
      obtain ⟨r', n⟩ := x.ob j o q e1 e3
      have z : q ≠ p := fun z => hj (nd_ix x.nd (z ▸ e2) e3)
      refine ⟨r'.mono (le_froz hF) rfl, fun d => ?_⟩
      obtain ⟨n1, n2⟩ := n d
      exact ⟨(upd_ne z).trans n1, n2⟩
theorem Nxt.kill {i : Nat} {u : HO} (x : HRep G k H h) (e2 : k.mu[i]? = some p) (hF : k.F p = none) : Nxt k H (k.froz p u) H where
  le := le_froz hF
  oth := fun a ha na => rfl
  fro := fun a o e => by
    by_cases z : a = p
    · subst z; exact .inr (.inr (List.mem_of_getElem? e2))
    · have e' : upd k.F p u a = some o := e
      rw [upd_ne z] at e'; exact .inl e'
  new := fun a ha => .inl ha
  trk := fun a ha => ha
end

/-- what a call leaves of the heap: the new objects go, where nothing names them -/
def gc (n : Nat) (w : W) (h : WH) (h' : WH) : WH :=
  if w.lt n && ((List.range n).all fun i => decide (h'[i]? = h[i]?) || (match h'[i]? with | some o => o.lt n | none => true)) then h'.take n else h'
theorem HRep.gc {G : Gx} {k k' : Ka} {H H' : Hp} {h h' : WH} {w : W} {v : V} (x : HRep G k H h) (y : HRep G k' H' h') (n : Nxt k H k' H') (r : Rep G k' w v) :
    ∃ k2, Nxt k H k2 H' ∧ HRep G k2 H' (gc h.length w h h') ∧ Rep G k2 w v := by
  unfold KW.gc
  split
  · rename_i c
    simp only [Bool.and_eq_true, List.all_eq_true, List.mem_range, Bool.or_eq_true, decide_eq_true_eq] at c
    obtain ⟨c1, c2⟩ := c
    have em : k'.mu.take h.length = k.mu := by
      obtain ⟨t, ht⟩ := n.le.mu
      rw [← ht, ← x.len]; simp
    have lh : h.length ≤ h'.length := by
      rw [← x.len, ← y.len]
      exact n.le.mu.length_le
    refine ⟨k'.cut h.length, ⟨⟨n.le.F, by show k.mu <+: k'.mu.take h.length; rw [em]; exact List.prefix_refl _⟩, n.oth, n.fro, fun a ha => ?_, n.trk⟩, ⟨y.sub, ?_, ?_, fun a ha => ?_, fun i o p e1 e2 => ?_⟩, r.cut c1⟩
    · have ha' : a ∈ k'.mu.take h.length := ha
      rw [em] at ha'; exact .inl ha'
    · show (k'.mu.take h.length).length = _
      rw [em, List.length_take, x.len]; omega
    · show (k'.mu.take h.length).Nodup
      rw [em]; exact x.nd
    · have ha' : a ∈ k'.mu.take h.length := ha
      rw [em] at ha'; exact n.trk a (x.trk a ha')
    · have e2' : (k'.mu.take h.length)[i]? = some p := e2
      have hi : i < h.length := by
        have := (List.getElem?_eq_some_iff.mp e1).1
        rw [List.length_take] at this; omega
      rw [List.getElem?_take, if_pos hi] at e1 e2'
      obtain ⟨r', d⟩ := y.ob i o p e1 e2'
      refine ⟨r'.cut ?_, d⟩
      rcases c2 i hi with q | q
      · rw [e1] at q
        obtain ⟨p0, hp0⟩ : ∃ p0, k.mu[i]? = some p0 := ⟨_, List.getElem?_eq_getElem (by rw [x.len]; exact hi)⟩
        have := (x.ob i o p0 q.symm hp0).1.lt
        rwa [x.len] at this
      · rw [e1] at q; exact q
  · exact ⟨k', n, y, r⟩

end KW

set_option Elab.async false
set_option linter.all false
set_option maxRecDepth 100000
set_option maxHeartbeats 4000000
/-! readings by results: what a piece of code gives, said of values -/
namespace KW
open PySem L2

/-- slots -/
def SRep (G : Gx) (k : Ka) (sw : WS) (σ : St) : Prop := sw.length = σ.length ∧ ∀ (i : Nat) w, sw[i]? = some (some w) → ∃ v, σ[i]? = some (some v) ∧ Rep G k w v
theorem SRep.mono {G : Gx} {k k' : Ka} {sw : WS} {σ : St} (l : k.Le k') (h : SRep G k sw σ) : SRep G k' sw σ :=
  ⟨h.1, fun i w e => let ⟨v, e1, r⟩ := h.2 i w e; ⟨v, e1, r.mono l⟩⟩
theorem SRep.set {G : Gx} {k : Ka} {sw : WS} {σ : St} {w : W} {v : V} (i : Nat) (h : SRep G k sw σ) (r : Rep G k w v) : SRep G k (sw.set i (some w)) (σ.set i (some v)) := by
  refine ⟨by rw [List.length_set, List.length_set]; exact h.1, fun j u e => ?_⟩
  by_cases hj : i = j
  · subst hj
    by_cases hl : i < sw.length
    · rw [List.getElem?_set_self hl] at e
      cases e
      exact ⟨v, List.getElem?_set_self (by rw [← h.1]; exact hl), r⟩
    · rw [List.getElem?_eq_none (by simpa using hl)] at e; cases e
  · rw [List.getElem?_set_ne hj] at e
    obtain ⟨v', e1, r'⟩ := h.2 j u e
    exact ⟨v', by rw [List.getElem?_set_ne hj]; exact e1, r'⟩
theorem SRep.drop {G : Gx} {k : Ka} {sw : WS} {σ : St} (i : Nat) (h : SRep G k sw σ) : SRep G k (sw.set i none) σ := by
  refine ⟨by rw [List.length_set]; exact h.1, fun j u e => ?_⟩
  by_cases hj : i = j
  · subst hj
    by_cases hl : i < sw.length
    · rw [List.getElem?_set_self hl] at e; cases e
    · rw [List.getElem?_eq_none (by simpa using hl)] at e; cases e
  · rw [List.getElem?_set_ne hj] at e
    exact h.2 j u e
theorem SRep.unset {G : Gx} {k : Ka} {sw : WS} {σ : St} (i : Nat) (h : SRep G k sw σ) : SRep G k (sw.set i none) (σ.set i none) := by
  refine ⟨by rw [List.length_set, List.length_set]; exact h.1, fun j u e => ?_⟩
  by_cases hj : i = j
  · subst hj
    by_cases hl : i < sw.length
    · rw [List.getElem?_set_self hl] at e; cases e
    · rw [List.getElem?_eq_none (by simpa using hl)] at e; cases e
  · rw [List.getElem?_set_ne hj] at e
    obtain ⟨v', e1, r'⟩ := h.2 j u e
    exact ⟨v', by rw [List.getElem?_set_ne hj]; exact e1, r'⟩

/-- an exception as it flies -/
def XRep (G : Gx) (k : Ka) (H : Hp) (c : Nat) (fs : List Nat) (ws : List W) (C : Addr) (d : Option Addr) : Prop :=
  G.cl c = some C ∧ match d with
    | none => fs = [] ∧ ws = []
    | some dx => ∃ fvs, H dx = some (.xd fvs) ∧ fvs.map (·.1) = fs.map G.fn ∧ RepL G k ws (fvs.map (·.2))

section
variable {α β : Type}
/-- what a result promises -/
def Den (G : Gx) (rp : Ka → α → β → Prop) (wx : WX) (k : Ka) (H : Hp) (σ : St) (r : R α) (Q : β → Hp → Prop) : Prop := match r with
  | .ok w h' => ∀ v k' H', Nxt k H k' H' → HRep G k' H' h' → rp k' w v → Q v H'
  | .exc c fs vs h' => ∀ C d k' H', Nxt k H k' H' → HRep G k' H' h' → XRep G k' H' c fs vs C d → wx (.ref C) d σ H'
  | .no => False
theorem Den.imp {G : Gx} {rp : Ka → α → β → Prop} {wx : WX} {k : Ka} {H : Hp} {σ : St} {r : R α} {Q Q' : β → Hp → Prop} (h : Den G rp wx k H σ r Q) (hQ : ∀ v H', Q v H' → Q' v H') : Den G rp wx k H σ r Q' := by
  cases r with
  | ok w h' => exact fun v k' H' n x r => hQ v H' (h v k' H' n x r)
  | exc c fs vs h' => exact h
  | no => exact h
/-- one thing after another -/
theorem Den.bind {γ δ : Type} {G : Gx} {rp : Ka → α → β → Prop} {rq : Ka → γ → δ → Prop} {wx : WX} {k : Ka} {H : Hp} {σ : St} {r : R α} {f : α → WH → R γ} {Q : δ → Hp → Prop} (h : Den G rq wx k H σ (r.bind f) Q) :
    Den G rp wx k H σ r fun v H' => ∃ k' w h', Nxt k H k' H' ∧ HRep G k' H' h' ∧ rp k' w v ∧ Den G rq wx k' H' σ (f w h') Q := by
  cases r with
  | ok w h' =>
    refine fun v k' H' n x r => ⟨k', w, h', n, x, r, ?_⟩
    have h1 : Den G rq wx k H σ (f w h') Q := h
    cases e : f w h' with
    | ok w2 h2 =>
      rw [e] at h1
      exact fun v2 k2 H2 n2 x2 r2 => h1 v2 k2 H2 (n.trans n2) x2 r2
    | exc c fs vs h2 =>
      rw [e] at h1
      exact fun C d k2 H2 n2 x2 r2 => h1 C d k2 H2 (n.trans n2) x2 r2
    | no => rw [e] at h1; exact h1
  | exc c fs vs h' => exact h
  | no => exact h
end

abbrev EV := WS → WH → R W
abbrev EA := WS → WH → R (List W)
abbrev EB := WS → WH → R Bool
/-- readings of expressions, of arguments, of tests -/
def TEx (G : Gx) (wx : WX) (ev : EV) : TE := fun σ H Q => ∃ k sw h, SRep G k sw σ ∧ HRep G k H h ∧ Den G (Rep G) wx k H σ (ev sw h) Q
def TAx (G : Gx) (wx : WX) (ev : EA) : TA := fun σ H Q => ∃ k sw h, SRep G k sw σ ∧ HRep G k H h ∧ Den G (RepL G) wx k H σ (ev sw h) Q
def TTx (G : Gx) (wx : WX) (ev : EB) : TT := fun σ H Q => ∃ k sw h, SRep G k sw σ ∧ HRep G k H h ∧ Den G (fun _ a b => a = b) wx k H σ (ev sw h) Q

inductive Fl where
  | next (s : WS) | ret (w : W) | brk (s : WS) | cont (s : WS)
inductive RS where
  | ok (f : Fl) (h : WH)
  | exc (s : WS) (c : Nat) (fs : List Nat) (vs : List W) (h : WH)
  | no
abbrev EW := WS → WH → RS
def DenS (G : Gx) (wx : WX) (k : Ka) (H : Hp) (r : RS) (D : Ends) : Prop := match r with
  | .ok (.next s') h' => ∀ σ' k' H', Nxt k H k' H' → HRep G k' H' h' → SRep G k' s' σ' → D.nx σ' H'
  | .ok (.brk s') h' => ∀ σ' k' H', Nxt k H k' H' → HRep G k' H' h' → SRep G k' s' σ' → D.bk σ' H'
  | .ok (.cont s') h' => ∀ σ' k' H', Nxt k H k' H' → HRep G k' H' h' → SRep G k' s' σ' → D.ct σ' H'
  | .ok (.ret w) h' => ∀ v k' H', Nxt k H k' H' → HRep G k' H' h' → Rep G k' w v → D.rt v H'
  | .exc s' c fs vs h' => ∀ σ' C d k' H', Nxt k H k' H' → HRep G k' H' h' → SRep G k' s' σ' → XRep G k' H' c fs vs C d → wx (.ref C) d σ' H'
  | .no => False
def TSx (G : Gx) (wx : WX) (ev : EW) : TS := fun D σ H => ∃ k sw h, SRep G k sw σ ∧ HRep G k H h ∧ DenS G wx k H (ev sw h) D
theorem DenS.nxt {G : Gx} {wx : WX} {k k1 : Ka} {H H1 : Hp} {r : RS} {D : Ends} (n : Nxt k H k1 H1) (h : DenS G wx k H r D) : DenS G wx k1 H1 r D := by
  cases r with
  | ok f h' => cases f <;> exact fun a k' H' n' => h a k' H' (n.trans n')
  | exc s c fs vs h' => exact fun a C d k' H' n' => h a C d k' H' (n.trans n')
  | no => exact h
theorem Den.nxt {α β : Type} {G : Gx} {rp : Ka → α → β → Prop} {wx : WX} {k k1 : Ka} {H H1 : Hp} {σ : St} {r : R α} {Q : β → Hp → Prop} (n : Nxt k H k1 H1) (h : Den G rp wx k H σ r Q) : Den G rp wx k1 H1 σ r Q := by
  cases r with
  | ok f h' => exact fun a k' H' n' => h a k' H' (n.trans n')
  | exc c fs vs h' => exact fun C d k' H' n' => h C d k' H' (n.trans n')
  | no => exact h

/-! ### judgements: code and what it gives -/
theorem PE_imp {X : Cx} {e : Expr} {t t' : TE} (h : PE X e t) (i : ∀ σ H Q, t' σ H Q → t σ H Q) : PE X e t' := ⟨fun pins s σ H Q I q => h.run pins s σ H Q I (i σ H Q q)⟩
theorem PT_imp {X : Cx} {e : Expr} {t t' : TT} (h : PT X e t) (i : ∀ σ H Q, t' σ H Q → t σ H Q) : PT X e t' := ⟨fun pins s σ H Q I q => h.run pins s σ H Q I (i σ H Q q)⟩
theorem PA_imp {X : Cx} {e : List Expr} {t t' : TA} (h : PA X e t) (i : ∀ σ H Q, t' σ H Q → t σ H Q) : PA X e t' := ⟨fun pos pins s σ H Q I q => h.run pos pins s σ H Q I (i σ H Q q)⟩
theorem PS_imp {X : Cx} {e : Stmt} {t t' : TS} (h : PS X e t) (i : ∀ D σ H, t' D σ H → t D σ H) : PS X e t' := ⟨fun pins s σ H D I q => h.run pins s σ H D I (i D σ H q)⟩
theorem PSs_imp {X : Cx} {e : List Stmt} {t t' : TS} (h : PSs X e t) (i : ∀ D σ H, t' D σ H → t D σ H) : PSs X e t' := ⟨fun pins s σ H D I q => h.run pins s σ H D I (i D σ H q)⟩

/-- the code's surroundings, told once -/
inductive Gk where
  | fn (f : Nat) | cls (c : Nat) | cst (w : W) | blt

structure Ax extends Gx where
  /-- the names of the module -/
  gt : List (Str × Gk)
  /-- functions' addresses -/
  fa : Nat → Option Addr
  /-- a class's methods; their names; its __init__; is it told by value? -/
  mt : Nat → Nat → Option Nat
  mn : Nat → Str
  ini : Nat → Option Nat
  val : Nat → Bool

/-- what the module's names hold -/
structure GlobOk (A : Ax) (mg : Str → Option Value) : Prop where
  fn : ∀ x f, A.gt.lookup x = some (.fn f) → ∃ a, A.fa f = some a ∧ mg x = some (.ref a)
  cls : ∀ x c, A.gt.lookup x = some (.cls c) → ∃ C, A.cl c = some C ∧ mg x = some (.ref C)
  cst : ∀ x w, A.gt.lookup x = some (.cst w) → ∃ u v, mg x = some u ∧ RelV v u ∧ ∀ k, Rep A.toGx k w v
  blt : ∀ x, A.gt.lookup x = some .blt → mg x = none

/-- the context of a piece of code with the slots N -/
structure XOk (A : Ax) (N : List Str) (sc : Scope) (X : Cx) : Prop where
  hK : X.K = A.K
  hN : X.N = N
  nd : N.Nodup
  hsc : X.env.scope = sc
  calm : X.calm = true
  glob : GlobOk A X.mg
  un : X.A.units + 70 < cLine

/-- an expression gives what ev gives -/
def WE (A : Ax) (X : Cx) (e : Expr) (ev : EV) : Prop := ∀ wx, Takes X wx → PE X e (TEx A.toGx wx ev)
def WA (A : Ax) (X : Cx) (e : List Expr) (ev : EA) : Prop := ∀ wx, Takes X wx → PA X e (TAx A.toGx wx ev)
def WT (A : Ax) (X : Cx) (e : Expr) (ev : EB) : Prop := ∀ wx, Takes X wx → PT X e (TTx A.toGx wx ev)
def WSt (A : Ax) (X : Cx) (e : Stmt) (ev : EW) : Prop := ∀ wx, Takes X wx → PassesOwn (model X.prog X.w) X.A X.env X.xe → PS X e (TSx A.toGx wx ev)
def WSs (A : Ax) (X : Cx) (e : List Stmt) (ev : EW) : Prop := ∀ wx, Takes X wx → PassesOwn (model X.prog X.w) X.A X.env X.xe → PSs X e (TSx A.toGx wx ev)

section
variable {A : Ax} {X : Cx} {N : List Str} {sc : Scope}
/-- names -/
def dVar (i : Nat) : EV := fun sw h => match sw[i]? with | some (some w) => .ok w h | _ => .no
theorem we_var (x : XOk A N sc X) {i : Nat} {n : Str} {pos : Pos} (hN : N[i]? = some n) (hv : Vis sc n) (hd : (n == ("__debug__" : Str)) = false) (hcd : (n == ("__classdict__" : Str)) = false) : WE A X (.Name n pos) (dVar i) := fun wx tk =>
  PE_imp (pe_var (by rw [x.hN]; exact hN) (by rw [x.hsc]; exact hv) hd hcd) fun σ H Q ⟨k, sw, h, hs, hh, d⟩ => by
    unfold dVar at d
    split at d
    · rename_i w e
      obtain ⟨v, e1, r⟩ := hs.2 i w e
      exact ⟨v, e1, d v k H (.refl k H) hh r⟩
    · exact d.elim
def dC (w : W) : EV := fun _ h => .ok w h
theorem we_c {e : Expr} {v : V} {w : W} (p : PE X e (tC v)) (r : ∀ k, Rep A.toGx k w v) : WE A X e (dC w) := fun wx tk =>
  PE_imp p fun σ H Q ⟨k, sw, h, hs, hh, d⟩ => d v k H (.refl k H) hh (r k)
theorem we_int {i j pos} : WE A X (.Constant (.int i) j pos) (dC (.int i)) := we_c pe_int fun _ => by simp only [Rep]
theorem we_bl {i j pos} : WE A X (.Constant (.bool i) j pos) (dC (.bl i)) := we_c pe_bl fun _ => by simp only [Rep]
theorem we_str {i j pos} : WE A X (.Constant (.str i) j pos) (dC (.str i)) := we_c pe_str fun _ => by simp only [Rep]
theorem we_non {j pos} : WE A X (.Constant .none j pos) (dC .non) := we_c pe_non fun _ => by simp only [Rep]
theorem we_cst (x : XOk A N sc X) {n : Str} {w : W} {pos : Pos} (hg : A.gt.lookup n = some (.cst w)) (hs : sc.names.lookup n = some .globalImplicit) (hd : (n == ("__debug__" : Str)) = false) : WE A X (.Name n pos) (dC w) := by
  obtain ⟨u, v, hm, r, rep⟩ := x.glob.cst n w hg
  exact we_c (pe_glob (by unfold Gl Env.kindOf; rw [x.hsc]; exact hs) hm r hd) rep


/-- what stands behind one part: the slots, the heap, the value, what is still wanted -/
theorem TEx.bind {G : Gx} {wx : WX} {a : EV} {f : WS → W → WH → R W} {σ : St} {H : Hp} {Q : VK} (t : TEx G wx (fun sw h => (a sw h).bind fun w h1 => f sw w h1) σ H Q) :
    TEx G wx a σ H fun v H1 => ∃ k sw w h1, SRep G k sw σ ∧ HRep G k H1 h1 ∧ Rep G k w v ∧ Den G (Rep G) wx k H1 σ (f sw w h1) Q := by
  obtain ⟨k, sw, h, hs, hh, d⟩ := t
  exact ⟨k, sw, h, hs, hh, d.bind.imp fun v H1 ⟨k', w, h', n, x, r, d'⟩ => ⟨k', sw, w, h', hs.mono n.le, x, r, d'⟩⟩
theorem TEx.bind2 {G : Gx} {wx : WX} {a b : EV} {f : W → W → WH → R W} {σ : St} {H : Hp} {Q : VK} (t : TEx G wx (fun sw h => (a sw h).bind fun w h1 => (b sw h1).bind fun u h2 => f w u h2) σ H Q) :
    TEx G wx a σ H fun v H1 => TEx G wx b σ H1 fun z H2 => ∃ k w u h2, HRep G k H2 h2 ∧ Rep G k w v ∧ Rep G k u z ∧ Den G (Rep G) wx k H2 σ (f w u h2) Q := by
  obtain ⟨k, sw, h, hs, hh, d⟩ := t
  refine ⟨k, sw, h, hs, hh, d.bind.imp fun v H1 ⟨k', w, h', n, x, r, d'⟩ => ?_⟩
  exact ⟨k', sw, h', hs.mono n.le, x, d'.bind.imp fun z H2 ⟨k2, u, h2, n2, x2, r2, d2⟩ => ⟨k2, w, u, h2, x2, r.mono n2.le, r2, d2⟩⟩
/-- arguments -/
def aNil : EA := fun _ h => .ok [] h
def aCons (a : EV) (r : EA) : EA := fun sw h => (a sw h).bind fun w h1 => (r sw h1).bind fun ws h2 => .ok (w :: ws) h2
theorem wa_nil : WA A X [] aNil := fun wx tk => PA_imp pa_nil fun σ H Q ⟨k, sw, h, hs, hh, d⟩ => d [] k H (.refl k H) hh (by simp only [RepL])
theorem wa_cons {e : Expr} {es : List Expr} {a : EV} {r : EA} (h1 : WE A X e a) (h2 : WA A X es r) (hs : starEach (e :: es) X.env = (false, eval e X.env) :: starEach es X.env) : WA A X (e :: es) (aCons a r) := fun wx tk =>
  PA_imp (pa_cons (h1 wx tk) (h2 wx tk) hs) fun σ H Q ⟨k, sw, h, hs, hh, d⟩ => by
    refine ⟨k, sw, h, hs, hh, Den.imp (Den.bind (rp := Rep A.toGx) d) fun v H1 ⟨k1, w, h1, n1, x1, r1, d1⟩ => ?_⟩
    refine ⟨k1, sw, h1, hs.mono n1.le, x1, Den.imp (Den.bind (rp := RepL A.toGx) d1) fun vs H2 ⟨k2, ws, h2, n2, x2, r2, d2⟩ => ?_⟩
    exact d2 (v :: vs) k2 H2 (.refl k2 H2) x2 (by simp only [RepL]; exact ⟨v, vs, rfl, r1.mono n2.le, r2⟩)
/-- what stands behind the arguments -/
theorem TAx.bind {G : Gx} {wx : WX} {a : EA} {f : WS → List W → WH → R W} {σ : St} {H : Hp} {Q : VK} (t : TEx G wx (fun sw h => (a sw h).bind fun w h1 => f sw w h1) σ H Q) :
    TAx G wx a σ H fun v H1 => ∃ k sw w h1, SRep G k sw σ ∧ HRep G k H1 h1 ∧ RepL G k w v ∧ Den G (Rep G) wx k H1 σ (f sw w h1) Q := by
  obtain ⟨k, sw, h, hs, hh, d⟩ := t
  exact ⟨k, sw, h, hs, hh, d.bind.imp fun v H1 ⟨k', w, h', n, x, r, d'⟩ => ⟨k', sw, w, h', hs.mono n.le, x, r, d'⟩⟩

/-! ### operators -/
/-- two values in, one out, by a rule of the hand layer -/
def OpW (A : Ax) (X : Cx) (r : R2) (f : W → W → WH → R W) : Prop :=
  ∀ (wx : WX) (k : Ka) (H : Hp) (σ : St) (h : WH) (x y : W) (u v : V) (Q : VK), HRep A.toGx k H h → Rep A.toGx k x u → Rep A.toGx k y v → Den A.toGx (Rep A.toGx) wx k H σ (f x y h) Q → r u v H Q
def dOp (f : W → W → WH → R W) (a b : EV) : EV := fun sw h => (a sw h).bind fun w h1 => (b sw h1).bind fun u h2 => f w u h2
theorem we_op {op : Operator} {a b : Expr} {pos : Pos} {ea eb : EV} {r : R2} {f : W → W → WH → R W} (ho : OpR X (binaryOp op) r) (hf : OpW A X r f) (ha : WE A X a ea) (hb : WE A X b eb) : WE A X (.BinOp a op b pos) (dOp f ea eb) := fun wx tk =>
  PE_imp (pe_op ho (ha wx tk) (hb wx tk)) fun σ H Q t => by
    refine Exists.elim (TEx.bind2 t) fun k hk => ?_
    obtain ⟨sw, h, hs, hh, d⟩ := hk
    exact ⟨k, sw, h, hs, hh, d.imp fun v H1 t2 => by
      obtain ⟨k1, sw1, h1, hs1, hh1, d1⟩ := t2
      exact ⟨k1, sw1, h1, hs1, hh1, d1.imp fun z H2 ⟨k2, w, u, h2, x2, r1, r2, d2⟩ => hf wx k2 H2 σ h2 w u v z Q x2 r1 r2 d2⟩⟩
theorem we_cmp {op : CmpOp} {a b : Expr} {pos : Pos} {ea eb : EV} {r : R2} {f : W → W → WH → R W} (ho : OpR X (compareOp op) r) (hf : OpW A X r f) (hm : behindInMarks op b = false) (ha : WE A X a ea) (hb : WE A X b eb) : WE A X (.Compare a [op] [b] pos) (dOp f ea eb) := fun wx tk =>
  PE_imp (pe_cmpR ho (ha wx tk) (hb wx tk) hm) fun σ H Q t => by
    refine Exists.elim (TEx.bind2 t) fun k hk => ?_
    obtain ⟨sw, h, hs, hh, d⟩ := hk
    exact ⟨k, sw, h, hs, hh, d.imp fun v H1 t2 => by
      obtain ⟨k1, sw1, h1, hs1, hh1, d1⟩ := t2
      exact ⟨k1, sw1, h1, hs1, hh1, d1.imp fun z H2 ⟨k2, w, u, h2, x2, r1, r2, d2⟩ => hf wx k2 H2 σ h2 w u v z Q x2 r1 r2 d2⟩⟩
end
end KW

set_option Elab.async false
set_option linter.all false
set_option maxRecDepth 100000
set_option maxHeartbeats 4000000
/-! operators, comparisons, truth, lengths -/
namespace KW
open PySem L2

def lim : Nat := 1000000
theorem lim_le {n : Nat} (h : n ≤ lim) : n ≤ sizeLine := Nat.le_trans h (by unfold lim; rw [sizeLine_eq]; decide)

def lstOf (h : WH) : W → Option (List W)
  | .lst ws => some ws
  | .ref a => match h[a]? with | some (.lst ws) => some ws | _ => none
  | _ => none
def seqOf (h : WH) : W → Option (List W)
  | .tup ws => some ws
  | .scr ns => some (ns.map .int)
  | w => lstOf h w

section
variable {G : Gx} {k : Ka} {H : Hp} {h : WH} {w : W} {ws : List W} {v : V}
theorem HRep.at (x : HRep G k H h) {a : Nat} {p : Addr} {o : Ob} (e : k.mu[a]? = some p) (ho : h[a]? = some o) : ORep G k H p o := (x.ob a o p ho e).1
theorem ref_at (x : HRep G k H h) {a : Nat} {o : Ob} (r : Rep G k (.ref a) v) (ho : h[a]? = some o) : ∃ p, v = .ref p ∧ k.mu[a]? = some p ∧ ORep G k H p o := by
  simp only [Rep] at r
  obtain ⟨p, e, q⟩ := r
  exact ⟨p, e, q, x.at q ho⟩
theorem listAt (x : HRep G k H h) (r : Rep G k w v) (e : lstOf h w = some ws) : ∃ p vs, v = .ref p ∧ H p = some (.lst vs) ∧ RepL G k ws vs := by
  cases w <;> simp only [lstOf, reduceCtorEq] at e
  · cases e
    simp only [Rep] at r
    obtain ⟨p, vs, e, q, r⟩ := r
    exact ⟨p, vs, e, x.sub _ _ q, r⟩
  · split at e
    · rename_i ho
      cases e
      obtain ⟨p, e1, q, vs, e2, r2⟩ := ref_at x r ho
      exact ⟨p, vs, e1, e2, r2⟩
    · cases e
theorem tupAt (x : HRep G k H h) (r : Rep G k (.tup ws) v) : ∃ p vs, v = .ref p ∧ SqT G.K H p vs ∧ RepL G k ws vs := by
  simp only [Rep] at r
  obtain ⟨p, vs, e, q, r⟩ := r
  exact ⟨p, vs, e, Ka.Le.seqT x.sub q, r⟩
theorem rep_ints : ∀ ns : List Int, RepL G k (ns.map .int) (ns.map V.int)
  | [] => by simp only [List.map_nil, RepL]
  | n :: ns => by
    simp only [List.map_cons, RepL]
    exact ⟨.int n, ns.map V.int, rfl, by simp only [Rep], rep_ints ns⟩
theorem ints_rep : ∀ {ns : List Int} {vs : List V}, RepL G k (ns.map .int) vs → vs = ns.map V.int
  | [], vs, h => by simpa only [List.map_nil, RepL] using h
  | n :: ns, vs, h => by
    simp only [List.map_cons, RepL] at h
    obtain ⟨v, r, rfl, h1, h2⟩ := h
    simp only [Rep] at h1
    rw [h1, ints_rep h2]; rfl
theorem scrAt (x : HRep G k H h) {ns : List Int} (r : Rep G k (.scr ns) v) : ∃ p, v = .ref p ∧ SqL G.K H p (ns.map V.int) := by
  simp only [Rep] at r
  obtain ⟨p, e, q⟩ := r
  exact ⟨p, e, Ka.Le.seqL x.sub q⟩
theorem seqAt (x : HRep G k H h) (r : Rep G k w v) (e : seqOf h w = some ws) : ∃ p vs, v = .ref p ∧ (SqL G.K H p vs ∨ SqT G.K H p vs) ∧ RepL G k ws vs := by
  have l : lstOf h w = some ws → ∃ p vs, v = .ref p ∧ (SqL G.K H p vs ∨ SqT G.K H p vs) ∧ RepL G k ws vs := fun e => by
    obtain ⟨p, vs, e1, q, r2⟩ := listAt x r e
    exact ⟨p, vs, e1, .inl (SqL.of q), r2⟩
  cases w <;> simp only [seqOf] at e <;> first | exact l e | skip
  · cases e
    obtain ⟨p, vs, e1, q, r2⟩ := tupAt x r
    exact ⟨p, vs, e1, .inr q, r2⟩
  · cases e
    obtain ⟨p, e1, q⟩ := scrAt x r
    exact ⟨p, _, e1, .inl q, rep_ints _⟩
end

/-- a new list: frozen, or a logical object -/
def newL (m : Bool) (ws : List W) (h : WH) : R W := if m then .ok (.ref h.length) (h ++ [.lst ws]) else .ok (.lst ws) h
section
variable {G : Gx} {wx : WX} {k : Ka} {H : Hp} {σ : St} {h : WH} {ws : List W} {vs : List V} {m : Bool} {Q : VK}
theorem den_newL (x : HRep G k H h) (r : RepL G k ws vs) (d : Den G (Rep G) wx k H σ (newL m ws h) Q) : ∀ p, H p = none → Q (.ref p) (upd H p (.lst vs)) := by
  intro p hp
  unfold newL at d
  split at d
  · refine d (.ref p) (k.more p) _ (Nxt.more x hp) (x.more hp ⟨vs, upd_same, r.mono le_more⟩ trivial) ?_
    simp only [Rep]
    refine ⟨p, rfl, ?_⟩
    show (k.mu ++ [p])[h.length]? = some p
    rw [← x.len]; simp
  · refine d (.ref p) (k.froz p (.lst vs)) _ (Nxt.froz x hp) (x.froz hp) ?_
    simp only [Rep]
    exact ⟨p, vs, rfl, upd_same, r.mono (le_froz (x.noF hp))⟩
theorem den_newT (x : HRep G k H h) (r : RepL G k ws vs) (d : Den G (Rep G) wx k H σ (.ok (.tup ws) h) Q) : ∀ p, H p = none → Q (.ref p) (upd H p (.tup vs)) := by
  intro p hp
  refine d (.ref p) (k.froz p (.tup vs)) _ (Nxt.froz x hp) (x.froz hp) ?_
  simp only [Rep]
  exact ⟨p, vs, rfl, SqT.of upd_same, r.mono (le_froz (x.noF hp))⟩
theorem den_val {w : W} {v : V} (x : HRep G k H h) (r : Rep G k w v) (d : Den G (Rep G) wx k H σ (.ok w h) Q) : Q v H := d v k H (.refl k H) x r
end

/-! ### the operators -/
def fAdd (m : Bool) (x y : W) (h : WH) : R W :=
  match x, y with
  | .int i, .int j => .ok (.int (i + j)) h
  | .str s, .str t => if s.length + t.length ≤ lim then .ok (.str (s ++ t)) h else .no
  | .tup a, .tup b => if a.length + b.length ≤ lim then .ok (.tup (a ++ b)) h else .no
  | x, y => match lstOf h x, lstOf h y with
    | some a, some b => if a.length + b.length ≤ lim then newL m (a ++ b) h else .no
    | _, _ => .no
def rAddW (K : PySem.W.Frag) : R2 := fun x y H Q => rI0 (fun i j => .int (i + j)) x y H Q ∨ (∃ i j, x = .str i ∧ y = .str j ∧ i.length + j.length ≤ sizeLine ∧ Q (.str (i ++ j)) H) ∨ rCatA K x y H Q ∨ rCat x y H Q
theorem op_addW {X : Cx} : OpR X (binaryOp .Add) (rAddW X.K) := op_add.or (op_add_str.or (op_catA.or op_cat))
theorem opw_add {A : Ax} {X : Cx} {m : Bool} (hK : X.K = A.K) : OpW A X (rAddW X.K) (fAdd m) := by
  intro wx k H σ h x y u v Q hh rx ry d
  have L : ∀ {d : Den A.toGx (Rep A.toGx) wx k H σ (match lstOf h x, lstOf h y with
    | some a, some b => if a.length + b.length ≤ lim then newL m (a ++ b) h else .no
    | _, _ => .no) Q}, rAddW X.K u v H Q := fun {d} => by
    split at d
    · rename_i a b e1 e2
      split at d
      · rename_i hl
        obtain ⟨p, vs, rfl, q1, r1⟩ := listAt hh rx e1
        obtain ⟨p2, vs2, rfl, q2, r2⟩ := listAt hh ry e2
        exact .inr (.inr (.inr ⟨p, p2, vs, vs2, rfl, rfl, q1, q2, by rw [r1.length, r2.length]; exact lim_le hl, den_newL hh (r1.append r2) d⟩))
      · exact d.elim
    · exact d.elim
  unfold fAdd at d
  split at d
  · simp only [Rep] at rx ry
    subst rx; subst ry
    exact .inl ⟨_, _, rfl, rfl, den_val hh (by simp only [Rep]) d⟩
  · split at d
    · rename_i hl
      simp only [Rep] at rx ry
      subst rx; subst ry
      exact .inr (.inl ⟨_, _, rfl, rfl, lim_le hl, den_val hh (by simp only [Rep]) d⟩)
    · exact d.elim
  · split at d
    · rename_i a b hl
      obtain ⟨p, vs, rfl, q1, r1⟩ := tupAt hh rx
      obtain ⟨p2, vs2, rfl, q2, r2⟩ := tupAt hh ry
      refine .inr (.inr (.inl ⟨p, p2, vs, vs2, rfl, rfl, by rw [hK]; exact q1, by rw [hK]; exact q2, by rw [r1.length, r2.length]; exact lim_le hl, fun e => ?_, fun e1 e => ?_, fun _ _ => den_newT hh (r1.append r2) d⟩))
      · have : a = [] := by
          have := r1.length
          rw [e] at this
          exact List.eq_nil_of_length_eq_zero this.symm
        subst this
        exact den_val hh ry d
      · have : b = [] := by
          have := r2.length
          rw [e] at this
          exact List.eq_nil_of_length_eq_zero this.symm
        subst this
        rw [List.append_nil] at d
        exact den_val hh rx d
    · exact d.elim
  · exact L (d := d)

def fSub (x y : W) (h : WH) : R W := match x, y with | .int i, .int j => .ok (.int (i - j)) h | _, _ => .no
theorem opw_sub {A : Ax} {X : Cx} : OpW A X (rI0 fun i j => .int (i - j)) fSub := by
  intro wx k H σ h x y u v Q hh rx ry d
  unfold fSub at d
  split at d
  · simp only [Rep] at rx ry
    subst rx; subst ry
    exact ⟨_, _, rfl, rfl, den_val hh (by simp only [Rep]) d⟩
  · exact d.elim
def fMul (m : Bool) (x y : W) (h : WH) : R W := match x, y with
  | .int i, .int j => if i.natAbs.log2 + j.natAbs.log2 < 1000000 then .ok (.int (i * j)) h else .no
  | .str s, .int j => if j = 0 then .ok (.str Str.empty) h else if j = 1 then .ok (.str s) h else .no
  | x, .int j => match lstOf h x with
    | some a => if j ≤ 1000000 ∧ 0 ≤ j ∧ a.length * j.toNat ≤ lim then newL m (List.replicate j.toNat a).flatten h else .no
    | none => .no
  | _, _ => .no
theorem RepL.rep {G : Gx} {k : Ka} {ws : List W} {vs : List V} (r : RepL G k ws vs) : ∀ n : Nat, RepL G k (List.replicate n ws).flatten (List.replicate n vs).flatten
  | 0 => by simp [RepL]
  | n + 1 => by
    simp only [List.replicate_succ, List.flatten_cons]
    exact r.append (RepL.rep r n)
/-- a text, no times or once -/
def rOnce : R2 := fun x y H Q => ∃ s j, x = .str s ∧ y = .int j ∧ ((j = 0 ∧ Q (.str Str.empty) H) ∨ (j = 1 ∧ Q (.str s) H))
theorem op_once {X : Cx} : OpR X (binaryOp .Mult) rOnce := by
  intro pins s σ H x y v u Q I rx ry h
  obtain ⟨z, j, rfl, rfl, h⟩ := h
  obtain ⟨t, rfl⟩ := rx
  obtain ⟨t', rfl⟩ := ry
  rcases h with ⟨rfl, q⟩ | ⟨rfl, q⟩
  · exact PySem.P.mul_str_none (by decide) (by decide) ⟨.str Str.empty, H, I.tok _, ⟨_, rfl⟩, q⟩
  · refine PySem.P.mul_str (by decide) (fun _ e => absurd e (by simp)) (fun _ e => absurd e (by simp)) ?_
    rw [if_neg (by decide), if_pos (by rfl)]
    exact ⟨.str z, H, I, ⟨_, rfl⟩, q⟩
def rMulW : R2 := fun x y H Q => rI CMulW (fun i j => .int (i * j)) x y H Q ∨ rOnce x y H Q ∨ rRep x y H Q
theorem op_mulWW {X : Cx} : OpR X (binaryOp .Mult) rMulW := op_mulW.or (op_once.or op_rep)
theorem opw_mul {A : Ax} {X : Cx} {m : Bool} : OpW A X rMulW (fMul m) := by
  intro wx k H σ h x y u v Q hh rx ry d
  unfold fMul at d
  split at d
  · split at d
    · rename_i hl
      simp only [Rep] at rx ry
      subst rx; subst ry
      exact .inl ⟨_, _, rfl, rfl, hl, den_val hh (by simp only [Rep]) d⟩
    · exact d.elim
  · simp only [Rep] at rx ry
    subst rx; subst ry
    split at d
    · rename_i e
      exact .inr (.inl ⟨_, _, rfl, rfl, .inl ⟨e, den_val hh (by simp only [Rep]) d⟩⟩)
    · split at d
      · rename_i e
        exact .inr (.inl ⟨_, _, rfl, rfl, .inr ⟨e, den_val hh (by simp only [Rep]) d⟩⟩)
      · exact d.elim
  · split at d
    · rename_i a e
      split at d
      · rename_i hl
        obtain ⟨h1, h0, h2⟩ := hl
        obtain ⟨p, vs, rfl, q1, r1⟩ := listAt hh rx e
        simp only [Rep] at ry
        subst ry
        exact .inr (.inr ⟨p, _, vs, rfl, rfl, q1, by omega, by omega, by rw [r1.length]; exact lim_le h2, den_newL hh (r1.rep _) d⟩)
      · exact d.elim
    · exact d.elim
  · exact d.elim
def fDiv (x y : W) (h : WH) : R W := match x, y with | .int i, .int j => if 0 < j ∧ j.natAbs.log2 < 9000 then .ok (.int (i / j)) h else .no | _, _ => .no
theorem opw_div {A : Ax} {X : Cx} : OpW A X (rI CDivW fun i j => .int (i / j)) fDiv := by
  intro wx k H σ h x y u v Q hh rx ry d
  unfold fDiv at d
  split at d
  · split at d
    · rename_i hl
      simp only [Rep] at rx ry
      subst rx; subst ry
      exact ⟨_, _, rfl, rfl, hl, den_val hh (by simp only [Rep]) d⟩
    · exact d.elim
  · exact d.elim
def fMod (x y : W) (h : WH) : R W := match x, y with | .int i, .int j => if 0 < j then .ok (.int (i % j)) h else .no | _, _ => .no
theorem opw_mod {A : Ax} {X : Cx} : OpW A X (rI (fun _ j => 0 < j) fun i j => .int (i % j)) fMod := by
  intro wx k H σ h x y u v Q hh rx ry d
  unfold fMod at d
  split at d
  · split at d
    · rename_i hl
      simp only [Rep] at rx ry
      subst rx; subst ry
      exact ⟨_, _, rfl, rfl, hl, den_val hh (by simp only [Rep]) d⟩
    · exact d.elim
  · exact d.elim
def CPowW (i j : Int) : Prop := 0 ≤ j ∧ (i.natAbs.log2 + 1) * j.toNat ≤ 1000000
theorem op_powW {X : Cx} : OpR X (binaryOp .Pow) (rI CPowW fun i j => .int (i ^ j.toNat)) := opI fun i j _ _ _ _ _ hc q => PyProof.Rows.pow_int hc.1 (by
  obtain ⟨h0, h1⟩ := hc
  have b : Builtin.Int.intBits i ≤ i.natAbs.log2 + 1 := by
    unfold Builtin.Int.intBits
    split <;> omega
  have b2 : Builtin.Int.intBits i * j.toNat ≤ (i.natAbs.log2 + 1) * j.toNat := Nat.mul_le_mul_right _ b
  have e : ((Builtin.Int.intBits i * j.toNat : Nat) : Int) = (Builtin.Int.intBits i : Int) * j := by
    rw [Int.natCast_mul, Int.toNat_of_nonneg h0]
  rw [← e]
  have : Builtin.Int.intBits i * j.toNat ≤ 1000000 := Nat.le_trans b2 h1
  omega) q
def fPow (x y : W) (h : WH) : R W := match x, y with | .int i, .int j => if 0 ≤ j ∧ (i.natAbs.log2 + 1) * j.toNat ≤ 1000000 then .ok (.int (i ^ j.toNat)) h else .no | _, _ => .no
theorem opw_pow {A : Ax} {X : Cx} : OpW A X (rI CPowW fun i j => .int (i ^ j.toNat)) fPow := by
  intro wx k H σ h x y u v Q hh rx ry d
  unfold fPow at d
  split at d
  · split at d
    · rename_i hl
      simp only [Rep] at rx ry
      subst rx; subst ry
      exact ⟨_, _, rfl, rfl, hl, den_val hh (by simp only [Rep]) d⟩
    · exact d.elim
  · exact d.elim

/-! ### comparisons -/
def fInt (p : Int → Int → Bool) (x y : W) (h : WH) : R W := match x, y with | .int i, .int j => .ok (.bl (p i j)) h | _, _ => .no
theorem opw_int {A : Ax} {X : Cx} {p : Int → Int → Bool} : OpW A X (rI0 fun i j => .bl (p i j)) (fInt p) := by
  intro wx k H σ h x y u v Q hh rx ry d
  unfold fInt at d
  split at d
  · simp only [Rep] at rx ry
    subst rx; subst ry
    exact ⟨_, _, rfl, rfl, den_val hh (by simp only [Rep]) d⟩
  · exact d.elim

mutual
def W.dat : W → Option PyData
  | .non => some .none
  | .bl b => some (.bool b)
  | .int i => some (.int i)
  | .str s => some (.str s)
  | .tup ws => (W.dats ws).map .tuple
  | .lst ws => (W.dats ws).map .list
  | _ => none
def W.dats : List W → Option (List PyData)
  | [] => some []
  | w :: ws => match W.dat w, W.dats ws with | some d, some ds => some (d :: ds) | _, _ => none
end
/-- data, a logical list told by what it holds -/
def datH (h : WH) (w : W) : Option PyData := match lstOf h w with | some ws => (W.dats ws).map .list | none => w.dat
mutual
theorem dp_of {G : Gx} {k : Ka} {H : Hp} (sub : ∀ a o, k.F a = some o → H a = some o) : ∀ {w : W} {v : V} {d : PyData}, Rep G k w v → w.dat = some d → Dp G.K H v d
  | .non, v, d, r, e => by simp only [Rep] at r; simp only [W.dat] at e; cases e; subst r; exact .non
  | .bl _, v, d, r, e => by simp only [Rep] at r; simp only [W.dat] at e; cases e; subst r; exact .bl _
  | .int _, v, d, r, e => by simp only [Rep] at r; simp only [W.dat] at e; cases e; subst r; exact .int _
  | .str _, v, d, r, e => by simp only [Rep] at r; simp only [W.dat] at e; cases e; subst r; exact .str _
  | .tup ws, v, d, r, e => by
    simp only [Rep] at r
    obtain ⟨p, vs, rfl, q, r⟩ := r
    simp only [W.dat] at e
    obtain ⟨ds, e1, rfl⟩ := Option.map_eq_some_iff.mp e
    exact .tup (Ka.Le.seqT sub q) (dpAll_of sub r e1)
  | .lst ws, v, d, r, e => by
    simp only [Rep] at r
    obtain ⟨p, vs, rfl, q, r⟩ := r
    simp only [W.dat] at e
    obtain ⟨ds, e1, rfl⟩ := Option.map_eq_some_iff.mp e
    exact .lst (SqL.of (sub _ _ q)) (dpAll_of sub r e1)
  | .dct _ _, v, d, r, e => by simp [W.dat] at e
  | .ins _ _ _, v, d, r, e => by simp [W.dat] at e
  | .ref _, v, d, r, e => by simp [W.dat] at e
  | .scr _, v, d, r, e => by simp [W.dat] at e
theorem dpAll_of {G : Gx} {k : Ka} {H : Hp} (sub : ∀ a o, k.F a = some o → H a = some o) : ∀ {ws : List W} {vs : List V} {ds : List PyData}, RepL G k ws vs → W.dats ws = some ds → DpAll G.K H vs ds
  | [], vs, ds, r, e => by simp only [RepL] at r; simp only [W.dats] at e; cases e; subst r; exact .nil
  | w :: ws, vs, ds, r, e => by
    simp only [RepL] at r
    obtain ⟨v, vs', rfl, r1, r2⟩ := r
    simp only [W.dats] at e
    split at e
    · rename_i e1 e2
      cases e
      exact .cons (dp_of sub r1 e1) (dpAll_of sub r2 e2)
    · cases e
end
theorem dpH_of {G : Gx} {k : Ka} {H : Hp} {h : WH} {w : W} {v : V} {d : PyData} (x : HRep G k H h) (r : Rep G k w v) (e : datH h w = some d) : Dp G.K H v d := by
  unfold datH at e
  split at e
  · rename_i ws e1
    obtain ⟨p, vs, rfl, q, r2⟩ := listAt x r e1
    obtain ⟨ds, e2, rfl⟩ := Option.map_eq_some_iff.mp e
    exact .lst (SqL.of q) (dpAll_of x.sub r2 e2)
  · exact dp_of x.sub r e

def scalW : W → W → Option Bool
  | .str s, .str t => some (decide (s = t))
  | .int i, .int j => some (decide (i = j))
  | .bl b, .bl c => some (decide (b = c))
  | .non, .str _ => some false
  | .str _, .non => some false
  | .int _, .str _ => some false
  | .str _, .int _ => some false
  | _, _ => none
def fEq (neg : Bool) (x y : W) (h : WH) : R W := match scalW x y with
  | some b => .ok (.bl (b != neg)) h
  | none => match datH h x, datH h y with
    | some d, some e => if SeqAt.shaped d = true ∧ SeqAt.shaped e = true then .ok (.bl (PyData.eqv d e != neg)) h else .no
    | _, _ => .no
theorem scalW_of {G : Gx} {k : Ka} {x y : W} {u v : V} {b : Bool} (rx : Rep G k x u) (ry : Rep G k y v) (e : scalW x y = some b) : scal u v = true ∧ decide (u = v) = b := by
  unfold scalW at e
  split at e <;> first | (cases e; done) | skip
  all_goals
    simp only [Rep] at rx ry
    subst rx; subst ry
    injection e with e
    subst e
    exact ⟨rfl, by simp⟩
def rEqW (K : PySem.W.Frag) : R2 := fun x y H Q => rEq x y H Q ∨ rEqD K x y H Q
def rNeW (K : PySem.W.Frag) : R2 := fun x y H Q => rNe x y H Q ∨ rNeD K x y H Q
theorem op_eqW {X : Cx} (hu : X.A.units + 64 < cLine) : OpR X (compareOp .Eq) (rEqW X.K) := op_eq.or (op_eqD hu)
theorem op_neW {X : Cx} (hu : X.A.units + 64 < cLine) : OpR X (compareOp .NotEq) (rNeW X.K) := op_ne.or (op_neD hu)
theorem opw_eq {A : Ax} {X : Cx} (hK : X.K = A.K) : OpW A X (rEqW X.K) (fEq false) := by
  intro wx k H σ h x y u v Q hh rx ry d
  unfold fEq at d
  split at d
  · rename_i b e
    obtain ⟨h1, h2⟩ := scalW_of rx ry e
    refine .inl ⟨h1, ?_⟩
    rw [h2]
    exact den_val hh (by simp [Rep]) d
  · split at d
    · rename_i d1 d2 e1 e2
      split at d
      · rename_i hs
        refine .inr ⟨d1, d2, by rw [hK]; exact dpH_of hh rx e1, by rw [hK]; exact dpH_of hh ry e2, hs.1, hs.2, den_val hh (by simp [Rep]) d⟩
      · exact d.elim
    · exact d.elim
theorem opw_ne {A : Ax} {X : Cx} (hK : X.K = A.K) : OpW A X (rNeW X.K) (fEq true) := by
  intro wx k H σ h x y u v Q hh rx ry d
  unfold fEq at d
  split at d
  · rename_i b e
    obtain ⟨h1, h2⟩ := scalW_of rx ry e
    refine .inl ⟨h1, ?_⟩
    rw [h2]
    exact den_val hh (by simp [Rep]) d
  · split at d
    · rename_i d1 d2 e1 e2
      split at d
      · rename_i hs
        refine .inr ⟨d1, d2, by rw [hK]; exact dpH_of hh rx e1, by rw [hK]; exact dpH_of hh ry e2, hs.1, hs.2, den_val hh (by simp [Rep]) d⟩
      · exact d.elim
    · exact d.elim

/-- is None, is not None; is of truths -/
def fIs (neg : Bool) (x y : W) (h : WH) : R W := match y with
  | .non => .ok (.bl (decide (x = .non) != neg)) h
  | .bl c => match x with | .bl b => .ok (.bl (decide (b = c) != neg)) h | _ => .no
  | _ => .no
theorem rep_non {G : Gx} {k : Ka} {x : W} {u : V} (r : Rep G k x u) : decide (u = .non) = decide (x = .non) := by
  cases x <;> simp only [Rep] at r
  case non => subst r; simp
  case bl => subst r; simp
  case int => subst r; simp
  case str => subst r; simp
  all_goals (obtain ⟨p, r⟩ := r; simp_all)
  all_goals (try (obtain ⟨_, _, h, _⟩ := r; simp [h]))
  all_goals (try (obtain ⟨_, h, _⟩ := r; simp [h]))
  all_goals (try simp [r.1])
end KW

set_option Elab.async false
set_option linter.all false
set_option maxRecDepth 100000
set_option maxHeartbeats 4000000
/-! is, in, truth, and, or, displays, subscripts, slices, calls of built-ins, isinstance -/
namespace KW
open PySem L2

def rIsW : R2 := fun x y H Q => (y = .non ∧ Q (.bl (decide (x = .non))) H) ∨ rIsB x y H Q
def rNotW : R2 := fun x y H Q => (y = .non ∧ Q (.bl (!decide (x = .non))) H) ∨ rNotB x y H Q
theorem op_isW {X : Cx} : OpR X (compareOp .Is) rIsW := op_isN.or op_isBl
theorem op_notW {X : Cx} : OpR X (compareOp .IsNot) rNotW := op_notN.or op_notBl
theorem opw_is {A : Ax} {X : Cx} : OpW A X rIsW (fIs false) := by
  intro wx k H σ h x y u v Q hh rx ry d
  unfold fIs at d
  split at d
  · simp only [Rep] at ry
    subst ry
    refine .inl ⟨rfl, ?_⟩
    rw [rep_non rx]
    exact den_val hh (by simp [Rep]) d
  · split at d
    · simp only [Rep] at rx ry
      subst rx; subst ry
      exact .inr ⟨_, _, rfl, rfl, den_val hh (by simp [Rep]) d⟩
    · exact d.elim
  · exact d.elim
theorem opw_isnot {A : Ax} {X : Cx} : OpW A X rNotW (fIs true) := by
  intro wx k H σ h x y u v Q hh rx ry d
  unfold fIs at d
  split at d
  · simp only [Rep] at ry
    subst ry
    refine .inl ⟨rfl, ?_⟩
    rw [rep_non rx]
    exact den_val hh (by simp [Rep]) d
  · split at d
    · simp only [Rep] at rx ry
      subst rx; subst ry
      exact .inr ⟨_, _, rfl, rfl, den_val hh (by simp [Rep]) d⟩
    · exact d.elim
  · exact d.elim

/-! ### in -/
def flatW : W → Bool | .non => true | .bl _ => true | .int _ => true | .str _ => true | _ => false
def eqFW : W → W → Bool
  | .non, .non => true
  | .bl a, .bl b => a == b
  | .bl a, .int b => (if a then 1 else 0) == b
  | .int a, .bl b => a == (if b then 1 else 0)
  | .int a, .int b => a == b
  | .str a, .str b => a == b
  | _, _ => false
def inFW (x : W) (ws : List W) : Bool := ws.any fun y => eqFW y x
def subStr (s t : Str) : Bool := !(Builtin.Str.occurrences t s 0 t.length 1).isEmpty
def fIn (neg : Bool) (x y : W) (h : WH) : R W := match y with
  | .str t => match x with | .str s => .ok (.bl (subStr s t != neg)) h | _ => .no
  | y => match seqOf h y with
    | none => .no
    | some ws => if flatW x = true ∧ ws.all flatW = true then .ok (.bl (inFW x ws != neg)) h
      else match x.dat, datH h y with
        | some d, some (.list ds) => if SeqAt.shaped d = true ∧ SeqAt.shaped (.list ds) = true then .ok (.bl ((ds.any fun z => PyData.eqv z d) != neg)) h else .no
        | _, _ => .no
theorem flat_rep {G : Gx} {k : Ka} {w : W} {v : V} (r : Rep G k w v) (f : flatW w = true) : flatV v = true := by
  cases w <;> simp only [flatW, Bool.false_eq_true] at f <;> simp only [Rep] at r <;> subst r <;> rfl
theorem eqF_rep {G : Gx} {k : Ka} {x y : W} {u v : V} (rx : Rep G k x u) (fx : flatW x = true) (ry : Rep G k y v) (fy : flatW y = true) : eqV u v = eqFW x y := by
  cases x <;> simp only [flatW, Bool.false_eq_true] at fx <;> simp only [Rep] at rx <;> subst rx <;>
    cases y <;> simp only [flatW, Bool.false_eq_true] at fy <;> simp only [Rep] at ry <;> subst ry <;> rfl
theorem flats_rep {G : Gx} {k : Ka} : ∀ {ws : List W} {vs : List V}, RepL G k ws vs → ws.all flatW = true → vs.all flatV = true
  | [], vs, r, f => by simp only [RepL] at r; subst r; rfl
  | w :: ws, vs, r, f => by
    simp only [RepL] at r
    obtain ⟨v, vs', rfl, r1, r2⟩ := r
    simp only [List.all_cons, Bool.and_eq_true] at f ⊢
    exact ⟨flat_rep r1 f.1, flats_rep r2 f.2⟩
theorem inF_rep {G : Gx} {k : Ka} {x : W} {u : V} (rx : Rep G k x u) (fx : flatW x = true) : ∀ {ws : List W} {vs : List V}, RepL G k ws vs → ws.all flatW = true → inV u vs = inFW x ws
  | [], vs, r, f => by simp only [RepL] at r; subst r; rfl
  | w :: ws, vs, r, f => by
    simp only [RepL] at r
    obtain ⟨v, vs', rfl, r1, r2⟩ := r
    simp only [List.all_cons, Bool.and_eq_true] at f
    have ih := inF_rep rx fx r2 f.2
    unfold inV inFW at ih ⊢
    simp only [List.any_cons, ih, eqF_rep r1 f.1 rx fx]
def rInW (K : PySem.W.Frag) : R2 := fun x y H Q => (∃ i j, x = .str i ∧ y = .str j ∧ Q (.bl (!(Builtin.Str.occurrences j i 0 j.length 1).isEmpty)) H) ∨ rIn K false x y H Q ∨ rInD K x y H Q
def rNotInW (K : PySem.W.Frag) : R2 := fun x y H Q => (∃ i j, x = .str i ∧ y = .str j ∧ Q (.bl (!(!(Builtin.Str.occurrences j i 0 j.length 1).isEmpty))) H) ∨ rIn K true x y H Q ∨ rNotInD K x y H Q
theorem op_inW {X : Cx} (hu : X.A.units + 65 < cLine) : OpR X (compareOp .In) (rInW X.K) := op_in_str.or (op_in_seq.or (op_inD hu))
theorem op_notInW {X : Cx} (hu : X.A.units + 65 < cLine) : OpR X (compareOp .NotIn) (rNotInW X.K) := op_notIn_str.or (op_notIn_seq.or (op_notInD hu))
theorem in_core {A : Ax} {neg : Bool} {wx : WX} {k : Ka} {H : Hp} {σ : St} {h : WH} {x y : W} {u v : V} {Q : VK} (hh : HRep A.toGx k H h) (rx : Rep A.toGx k x u) (ry : Rep A.toGx k y v) (d : Den A.toGx (Rep A.toGx) wx k H σ (fIn neg x y h) Q) :
    (∃ s t, u = .str s ∧ v = .str t ∧ Q (.bl (subStr s t != neg)) H) ∨ (∃ p xs, v = .ref p ∧ (SqL A.K H p xs ∨ SqT A.K H p xs) ∧ flatV u = true ∧ xs.all flatV = true ∧ Q (.bl (inV u xs != neg)) H) ∨
      ∃ d ds, Dp A.K H u d ∧ Dp A.K H v (.list ds) ∧ SeqAt.shaped d = true ∧ SeqAt.shaped (.list ds) = true ∧ Q (.bl ((ds.any fun z => PyData.eqv z d) != neg)) H := by
  unfold fIn at d
  split at d
  · split at d
    · simp only [Rep] at rx ry
      subst rx; subst ry
      exact .inl ⟨_, _, rfl, rfl, den_val hh (by simp [Rep]) d⟩
    · exact d.elim
  · split at d
    · exact d.elim
    · rename_i ws e
      split at d
      · rename_i f
        obtain ⟨p, vs, rfl, q, r2⟩ := seqAt hh ry e
        refine .inr (.inl ⟨p, vs, rfl, q, flat_rep rx f.1, flats_rep r2 f.2, ?_⟩)
        rw [inF_rep rx f.1 r2 f.2]
        exact den_val hh (by simp [Rep]) d
      · split at d
        · rename_i e1 e2
          split at d
          · rename_i hs
            exact .inr (.inr ⟨_, _, dp_of hh.sub rx e1, dpH_of hh ry e2, hs.1, hs.2, den_val hh (by simp [Rep]) d⟩)
          · exact d.elim
        · exact d.elim
theorem opw_in {A : Ax} {X : Cx} (hK : X.K = A.K) : OpW A X (rInW X.K) (fIn false) := by
  intro wx k H σ h x y u v Q hh rx ry d
  rcases in_core hh rx ry d with ⟨s, t, e1, e2, q⟩ | ⟨p, xs, e, q1, f1, f2, q⟩ | ⟨d, ds, d1, d2, s1, s2, q⟩
  · exact .inl ⟨s, t, e1, e2, by simpa [subStr] using q⟩
  · exact .inr (.inl ⟨p, xs, e, by rw [hK]; exact q1, f1, f2, by simpa using q⟩)
  · exact .inr (.inr ⟨d, ds, by rw [hK]; exact d1, by rw [hK]; exact d2, s1, s2, by simpa using q⟩)
theorem opw_notin {A : Ax} {X : Cx} (hK : X.K = A.K) : OpW A X (rNotInW X.K) (fIn true) := by
  intro wx k H σ h x y u v Q hh rx ry d
  rcases in_core hh rx ry d with ⟨s, t, e1, e2, q⟩ | ⟨p, xs, e, q1, f1, f2, q⟩ | ⟨d, ds, d1, d2, s1, s2, q⟩
  · exact .inl ⟨s, t, e1, e2, by simpa [subStr] using q⟩
  · exact .inr (.inl ⟨p, xs, e, by rw [hK]; exact q1, f1, f2, by simpa using q⟩)
  · exact .inr (.inr ⟨d, ds, by rw [hK]; exact d1, by rw [hK]; exact d2, s1, s2, by simpa using q⟩)

/-! ### truth -/
def truW (h : WH) (w : W) : Option Bool := match w with
  | .non => some false
  | .bl b => some b
  | .int i => some (i != 0)
  | .str s => if s.length ≤ lim then some ((s.length : Int) != 0) else none
  | w => (seqOf h w).map fun ws => !ws.isEmpty
theorem RepL.isEmpty {G : Gx} {k : Ka} {ws : List W} {vs : List V} (r : RepL G k ws vs) : vs.isEmpty = ws.isEmpty := by
  have := r.length
  cases ws <;> cases vs <;> simp_all
theorem truV_of {G : Gx} {k : Ka} {H : Hp} {h : WH} {w : W} {v : V} {b : Bool} (x : HRep G k H h) (r : Rep G k w v) (e : truW h w = some b) : TruV G.K v H b := by
  have S : (seqOf h w).map (fun ws => !ws.isEmpty) = some b → TruV G.K v H b := fun e => by
    obtain ⟨ws, e1, e2⟩ := Option.map_eq_some_iff.mp e
    obtain ⟨p, vs, rfl, q, r2⟩ := seqAt x r e1
    have z := r2.isEmpty
    rcases q with q | q
    · exact .inl ⟨vs, q, by rw [z]; exact e2.symm⟩
    · exact .inr (.inl ⟨vs, q, by rw [z]; exact e2.symm⟩)
  cases w <;> simp only [truW] at e <;> first | exact S e | skip
  · simp only [Rep] at r; subst r; cases e; exact rfl
  · simp only [Rep] at r; subst r; cases e; exact rfl
  · simp only [Rep] at r; subst r; cases e; exact rfl
  · split at e
    · rename_i hl
      simp only [Rep] at r; subst r; cases e; exact ⟨lim_le hl, rfl⟩
    · cases e
def dTru (a : EV) : EB := fun sw h => (a sw h).bind fun w h1 => match truW h1 w with | some b => .ok b h1 | none => .no
def dTst (a : EV) : EB := fun sw h => (a sw h).bind fun w h1 => match w with | .bl b => .ok b h1 | _ => .no
theorem TTx.bind {G : Gx} {wx : WX} {a : EV} {f : WS → W → WH → R Bool} {σ : St} {H : Hp} {Q : Bool → Hp → Prop} (t : TTx G wx (fun sw h => (a sw h).bind fun w h1 => f sw w h1) σ H Q) :
    TEx G wx a σ H fun v H1 => ∃ k sw w h1, SRep G k sw σ ∧ HRep G k H1 h1 ∧ Rep G k w v ∧ Den G (fun _ a b => a = b) wx k H1 σ (f sw w h1) Q := by
  obtain ⟨k, sw, h, hs, hh, d⟩ := t
  exact ⟨k, sw, h, hs, hh, d.bind.imp fun v H1 ⟨k', w, h', n, x, r, d'⟩ => ⟨k', sw, w, h', hs.mono n.le, x, r, d'⟩⟩
section
variable {A : Ax} {X : Cx} {N : List Str} {sc : Scope} {a b c : Expr} {ea eb ec : EV} {ta tb : EB} {pos : Pos} {rest : List Expr}
theorem wt_gen (hK : X.K = A.K) (ha : WE A X a ea) (he : ∀ whole, isTrue a X.env whole = (do let v ← whole; standAt a.pos; holding [v] (truthy v))) : WT A X a (dTru ea) := fun wx tk =>
  PT_imp (pt_truth (ha wx tk) he) fun σ H Q t => by
    obtain ⟨k, sw, h, hs, hh, d⟩ := TTx.bind t
    refine ⟨k, sw, h, hs, hh, d.imp fun v H1 ⟨k1, sw1, w, h1, hs1, hh1, r, d1⟩ => ?_⟩
    split at d1
    · rename_i b e
      exact ⟨b, by rw [hK]; exact truV_of hh1 r e, d1 b k1 H1 (.refl _ _) hh1 rfl⟩
    · exact d1.elim
theorem wt_cmp {op : CmpOp} {r : R2} {f : W → W → WH → R W} (ho : OpR X (compareOp op) r) (hf : OpW A X r f) (hm : behindInMarks op b = false) (ha : WE A X a ea) (hb : WE A X b eb) : WT A X (.Compare a [op] [b] pos) (dTst (dOp f ea eb)) := fun wx tk =>
  PT_imp (pt_cmpR ho (ha wx tk) (hb wx tk) hm) fun σ H Q t => by
    obtain ⟨k, sw, h, hs, hh, d⟩ := TTx.bind t
    have t2 : TEx A.toGx wx (dOp f ea eb) σ H _ := ⟨k, sw, h, hs, hh, d⟩
    obtain ⟨k, sw, h, hs, hh, d⟩ := TEx.bind2 t2
    exact ⟨k, sw, h, hs, hh, d.imp fun v H1 t2 => by
      obtain ⟨k1, sw1, h1, hs1, hh1, d1⟩ := t2
      refine ⟨k1, sw1, h1, hs1, hh1, d1.imp fun z H2 ⟨k2, w, u, h2, x2, r1, r2, d2⟩ => ?_⟩
      refine hf wx k2 H2 σ h2 w u v z _ x2 r1 r2 (d2.imp fun y H3 ⟨k3, sw3, w3, h3, hs3, hh3, r3, d3⟩ => ?_)
      split at d3
      · simp only [Rep] at r3
        exact ⟨_, r3, d3 _ k3 H3 (.refl _ _) hh3 rfl⟩
      · exact d3.elim⟩
def dNotT (t : EB) : EB := fun sw h => (t sw h).bind fun c h1 => .ok (!c) h1
theorem wt_not (ha : WT A X a ta) : WT A X (.UnaryOp .Not a pos) (dNotT ta) := fun wx tk =>
  PT_imp (pt_not (ha wx tk)) fun σ H Q ⟨k, sw, h, hs, hh, d⟩ => ⟨k, sw, h, hs, hh, (Den.bind (rp := fun _ a b => a = b) d).imp fun c H1 ⟨k1, w, h1, n, hh1, e, d1⟩ => by
    subst e
    exact d1 _ k1 H1 (.refl _ _) hh1 rfl⟩
def dAndT (t u : EB) : EB := fun sw h => (t sw h).bind fun c h1 => if c then u sw h1 else .ok false h1
def dOrT (t u : EB) : EB := fun sw h => (t sw h).bind fun c h1 => if c then .ok true h1 else u sw h1
def WWt (A : Ax) (X : Cx) (e : Expr) (ev : EB) : Prop := ∀ wx, Takes X wx → PW X e (TTx A.toGx wx ev)
theorem PW_imp {X : Cx} {e : Expr} {t t' : TT} (h : PW X e t) (i : ∀ σ H Q, t' σ H Q → t σ H Q) : PW X e t' := ⟨fun w pins s σ H Q I q => h.run w pins s σ H Q I (i σ H Q q)⟩
theorem wt_of (h : WWt A X a ta) : WT A X a ta := fun wx tk => (h wx tk).pt
theorem ww_and1 (ha : WT A X a ta) : WWt A X (.BoolOp .And [a] pos) ta := fun wx tk => pw_and1 (ha wx tk)
theorem ww_or1 (ha : WT A X a ta) : WWt A X (.BoolOp .Or [a] pos) ta := fun wx tk => pw_or1 (ha wx tk)
theorem ww_and (ha : WT A X a ta) (hb : WWt A X (.BoolOp .And (b :: rest) pos) tb) : WWt A X (.BoolOp .And (a :: b :: rest) pos) (dAndT ta tb) := fun wx tk =>
  PW_imp (pw_and (ha wx tk) (hb wx tk)) fun σ H Q ⟨k, sw, h, hs, hh, d⟩ => ⟨k, sw, h, hs, hh, (Den.bind (rp := fun _ a b => a = b) d).imp fun c H1 ⟨k1, w, h1, n, hh1, e, d1⟩ => by
    subst e
    cases w with
    | true =>
      rw [if_pos rfl] at d1 ⊢
      exact ⟨k1, sw, h1, hs.mono n.le, hh1, d1⟩
    | false =>
      rw [if_neg (by decide)] at d1 ⊢
      exact d1 _ k1 H1 (.refl _ _) hh1 rfl⟩
theorem ww_or (ha : WT A X a ta) (hb : WWt A X (.BoolOp .Or (b :: rest) pos) tb) : WWt A X (.BoolOp .Or (a :: b :: rest) pos) (dOrT ta tb) := fun wx tk =>
  PW_imp (pw_or (ha wx tk) (hb wx tk)) fun σ H Q ⟨k, sw, h, hs, hh, d⟩ => ⟨k, sw, h, hs, hh, (Den.bind (rp := fun _ a b => a = b) d).imp fun c H1 ⟨k1, w, h1, n, hh1, e, d1⟩ => by
    subst e
    cases w with
    | false =>
      rw [if_neg (by decide)] at d1 ⊢
      exact ⟨k1, sw, h1, hs.mono n.le, hh1, d1⟩
    | true =>
      rw [if_pos rfl] at d1 ⊢
      exact d1 _ k1 H1 (.refl _ _) hh1 rfl⟩
/-! as values -/
def dAnd (a b : EV) : EV := fun sw h => (a sw h).bind fun w h1 => match truW h1 w with | some true => b sw h1 | some false => .ok w h1 | none => .no
def dOr (a b : EV) : EV := fun sw h => (a sw h).bind fun w h1 => match truW h1 w with | some true => .ok w h1 | some false => b sw h1 | none => .no
theorem we_one {op} (ha : WE A X a ea) : WE A X (.BoolOp op [a] pos) ea := fun wx tk => pe_one (ha wx tk)
theorem we_and (hK : X.K = A.K) (ha : WE A X a ea) (hb : WE A X (.BoolOp .And (b :: rest) pos) eb) : WE A X (.BoolOp .And (a :: b :: rest) pos) (dAnd ea eb) := fun wx tk =>
  PE_imp (pe_andT (ha wx tk) (hb wx tk)) fun σ H Q t => by
    obtain ⟨k, sw, h, hs, hh, d⟩ := TEx.bind t
    refine ⟨k, sw, h, hs, hh, d.imp fun v H1 ⟨k1, sw1, w, h1, hs1, hh1, r, d1⟩ => ?_⟩
    split at d1
    · rename_i e
      refine ⟨true, by rw [hK]; exact truV_of hh1 r e, ?_⟩
      rw [if_pos rfl]
      exact ⟨k1, sw1, h1, hs1, hh1, d1⟩
    · rename_i e
      refine ⟨false, by rw [hK]; exact truV_of hh1 r e, ?_⟩
      rw [if_neg (by decide)]
      exact den_val hh1 r d1
    · exact d1.elim
theorem we_or (hK : X.K = A.K) (ha : WE A X a ea) (hb : WE A X (.BoolOp .Or (b :: rest) pos) eb) : WE A X (.BoolOp .Or (a :: b :: rest) pos) (dOr ea eb) := fun wx tk =>
  PE_imp (pe_orT (ha wx tk) (hb wx tk)) fun σ H Q t => by
    obtain ⟨k, sw, h, hs, hh, d⟩ := TEx.bind t
    refine ⟨k, sw, h, hs, hh, d.imp fun v H1 ⟨k1, sw1, w, h1, hs1, hh1, r, d1⟩ => ?_⟩
    split at d1
    · rename_i e
      refine ⟨true, by rw [hK]; exact truV_of hh1 r e, ?_⟩
      rw [if_pos rfl]
      exact den_val hh1 r d1
    · rename_i e
      refine ⟨false, by rw [hK]; exact truV_of hh1 r e, ?_⟩
      rw [if_neg (by decide)]
      exact ⟨k1, sw1, h1, hs1, hh1, d1⟩
    · exact d1.elim
def dNot (a : EV) : EV := fun sw h => (a sw h).bind fun w h1 => match truW h1 w with | some c => .ok (.bl (!c)) h1 | none => .no
theorem we_not (hK : X.K = A.K) (ha : WE A X a ea) : WE A X (.UnaryOp .Not a pos) (dNot ea) := fun wx tk =>
  PE_imp (pe_notT (ha wx tk)) fun σ H Q t => by
    obtain ⟨k, sw, h, hs, hh, d⟩ := TEx.bind t
    refine ⟨k, sw, h, hs, hh, d.imp fun v H1 ⟨k1, sw1, w, h1, hs1, hh1, r, d1⟩ => ?_⟩
    split at d1
    · rename_i c e
      exact ⟨c, by rw [hK]; exact truV_of hh1 r e, den_val hh1 (by simp [Rep]) d1⟩
    · exact d1.elim
def dNeg (a : EV) : EV := fun sw h => (a sw h).bind fun w h1 => match w with | .int i => .ok (.int (-i)) h1 | _ => .no
theorem we_neg (ha : WE A X a ea) : WE A X (.UnaryOp .USub a pos) (dNeg ea) := fun wx tk =>
  PE_imp (pe_un un_neg (ha wx tk)) fun σ H Q t => by
    obtain ⟨k, sw, h, hs, hh, d⟩ := TEx.bind t
    refine ⟨k, sw, h, hs, hh, d.imp fun v H1 ⟨k1, sw1, w, h1, hs1, hh1, r, d1⟩ => ?_⟩
    split at d1
    · simp only [Rep] at r
      exact ⟨_, r, den_val hh1 (by simp [Rep]) d1⟩
    · exact d1.elim
def dIf (t : EB) (a b : EV) : EV := fun sw h => (t sw h).bind fun c h1 => if c then a sw h1 else b sw h1
theorem we_if (hc : WT A X c ta) (ha : WE A X a ea) (hb : WE A X b eb) : WE A X (.IfExp c a b pos) (dIf ta ea eb) := fun wx tk =>
  PE_imp (pe_ifExp (hc wx tk) (ha wx tk) (hb wx tk)) fun σ H Q ⟨k, sw, h, hs, hh, d⟩ => ⟨k, sw, h, hs, hh, (Den.bind (rp := fun _ a b => a = b) d).imp fun c H1 ⟨k1, w, h1, n, hh1, e, d1⟩ => by
    subst e
    cases w with
    | true =>
      rw [if_pos rfl] at d1 ⊢
      exact ⟨k1, sw, h1, hs.mono n.le, hh1, d1⟩
    | false =>
      rw [if_neg (by decide)] at d1 ⊢
      exact ⟨k1, sw, h1, hs.mono n.le, hh1, d1⟩⟩
/-- a op b op c -/
def dChn (f g : W → W → WH → R W) (a b c : EV) : EV := fun sw h => (a sw h).bind fun x h1 => (b sw h1).bind fun y h2 => (f x y h2).bind fun z h3 => match z with
  | .bl true => (c sw h3).bind fun w h4 => g y w h4
  | .bl false => .ok (.bl false) h3
  | _ => .no
theorem chn_core {r r' : R2} {f g : W → W → WH → R W} (hf : OpW A X r f) (hg : OpW A X r' g) {wx : WX} {σ : St} {H : Hp} {Q : VK} (t : TEx A.toGx wx (dChn f g ea eb ec) σ H Q) : tChain r r' (TEx A.toGx wx ea) (TEx A.toGx wx eb) (TEx A.toGx wx ec) σ H Q := by
  obtain ⟨k, sw, h, hs, hh, d⟩ := t
  refine ⟨k, sw, h, hs, hh, (Den.bind (rp := Rep A.toGx) d).imp fun x H1 ⟨k1, wx1, h1, n1, hh1, r1, d1⟩ => ?_⟩
  refine ⟨k1, sw, h1, hs.mono n1.le, hh1, (Den.bind (rp := Rep A.toGx) d1).imp fun y H2 ⟨k2, wy, h2, n2, hh2, r2, d2⟩ => ?_⟩
  refine hf wx k2 H2 σ h2 wx1 wy x y _ hh2 (r1.mono n2.le) r2 ((Den.bind (rp := Rep A.toGx) d2).imp fun z H3 ⟨k3, wz, h3, n3, hh3, r3, d3⟩ => ?_)
  split at d3
  · simp only [Rep] at r3
    refine ⟨true, r3, ?_⟩
    rw [if_pos rfl]
    refine ⟨k3, sw, h3, (hs.mono n1.le).mono (n2.le.trans n3.le), hh3, (Den.bind (rp := Rep A.toGx) d3).imp fun w' H4 ⟨k4, ww, h4, n4, hh4, r4, d4⟩ => ?_⟩
    exact hg wx k4 H4 σ h4 wy ww y w' Q hh4 (r2.mono (n3.le.trans n4.le)) r4 d4
  · simp only [Rep] at r3
    refine ⟨false, r3, ?_⟩
    rw [if_neg (by decide)]
    exact den_val hh3 (by simp [Rep]) d3
  · exact d3.elim
theorem we_chain {op op' : CmpOp} {r r' : R2} {f g : W → W → WH → R W} (ho : OpR X (compareOp op) r) (hf : OpW A X r f) (ho' : OpR X (compareOp op') r') (hg : OpW A X r' g) (ha : WE A X a ea) (hb : WE A X b eb) (hc : WE A X c ec) (hm : behindInMarks op' c = false) :
    WE A X (.Compare a [op, op'] [b, c] pos) (dChn f g ea eb ec) := fun wx tk => PE_imp (pe_chain ho ho' (ha wx tk) (hb wx tk) (hc wx tk) (by first | exact hm | simpa [lastMarks] using hm)) fun σ H Q t => chn_core hf hg t
theorem wt_chain {op op' : CmpOp} {r r' : R2} {f g : W → W → WH → R W} (ho : OpR X (compareOp op) r) (hf : OpW A X r f) (ho' : OpR X (compareOp op') r') (hg : OpW A X r' g) (ha : WE A X a ea) (hb : WE A X b eb) (hc : WE A X c ec) (hm : behindInMarks op' c = false) :
    WT A X (.Compare a [op, op'] [b, c] pos) (dTst (dChn f g ea eb ec)) := fun wx tk => PT_imp (pt_chain ho ho' (ha wx tk) (hb wx tk) (hc wx tk) (by first | exact hm | simpa [lastMarks] using hm)) fun σ H Q t => by
  obtain ⟨k, sw, h, hs, hh, d⟩ := TTx.bind t
  refine chn_core hf hg ⟨k, sw, h, hs, hh, d.imp fun y H3 ⟨k3, sw3, w3, h3, hs3, hh3, r3, d3⟩ => ?_⟩
  split at d3
  · simp only [Rep] at r3
    exact ⟨_, r3, d3 _ k3 H3 (.refl _ _) hh3 rfl⟩
  · exact d3.elim
end
end KW

set_option Elab.async false
set_option linter.all false
set_option maxRecDepth 100000
set_option maxHeartbeats 4000000
/-! displays, subscripts, slices, attributes, calls of built-ins, isinstance -/
namespace KW
open PySem L2

/-! ### syntax facts -/
def nonStar : Expr → Bool | .Starred _ _ => false | _ => true
theorem star_ok {e : Expr} {es : List Expr} {env : Env} (h : nonStar e = true) : starEach (e :: es) env = (false, eval e env) :: starEach es env := by
  cases e <;> first | rfl | simp [nonStar] at h
theorem stars_any {env : Env} {pos : Pos} : ∀ {es : List Expr}, es.all nonStar = true → (backTo pos (starEach es env)).any (·.1) = false
  | [], _ => rfl
  | e :: es, h => by
    simp only [List.all_cons, Bool.and_eq_true] at h
    rw [star_ok h.1]
    have ih := stars_any (env := env) (pos := pos) h.2
    unfold backTo at ih ⊢
    simpa using ih
theorem stars_all {env : Env} {pos : Pos} : ∀ {es : List Expr}, es.all nonStar = true → ((backTo pos (starEach es env)).all fun x => !x.1) = true
  | [], _ => rfl
  | e :: es, h => by
    simp only [List.all_cons, Bool.and_eq_true] at h
    rw [star_ok h.1]
    have ih := stars_all (env := env) (pos := pos) h.2
    unfold backTo at ih ⊢
    simpa using ih
def nonSlice : Expr → Bool | .Slice _ _ _ _ => false | _ => true
theorem plainIx {b : Expr} (h : nonSlice b = true) : PlainIx b := by
  intro o i
  cases b <;> first | rfl | simp [nonSlice] at h
def notCall0 : Expr → Bool | .Call (.Name _ _) [] [] _ => false | _ => true
theorem attrBase {o : Expr} {f : Str} {env : Env} {w : Sem Value} (h : notCall0 o = true) : attributeBase o f env w = w := by
  unfold attributeBase
  split
  · simp [notCall0] at h
  · rfl
theorem swaps_attr {value o : Expr} {f : Str} {p : Pos} {l : Nat} {env : Env} : swapsWith value (some (.Attribute o f p)) l env = pure false := by
  cases value <;> rfl
def notComp : Expr → Bool | .ListComp .. => false | .SetComp .. => false | .DictComp .. => false | _ => true
theorem swaps_not {value : Expr} {t : Option Expr} {l : Nat} {env : Env} (h : notComp value = true) : swapsWith value t l env = pure false := by
  cases value <;> first | rfl | simp [notComp] at h

section
variable {A : Ax} {X : Cx} {N : List Str} {sc : Scope} {a b c : Expr} {ea eb ec : EV} {aa : EA} {pos : Pos} {es : List Expr}
/-! ### displays -/
def dTup (a : EA) : EV := fun sw h => (a sw h).bind fun ws h1 => if ws.length ≤ lim then .ok (.tup ws) h1 else .no
def dLst (m : Bool) (a : EA) : EV := fun sw h => (a sw h).bind fun ws h1 => if ws.length ≤ lim then newL m ws h1 else .no
theorem we_tup {x1} (ha : WA A X es aa) : WE A X (.Tuple es x1 pos) (dTup aa) := fun wx tk =>
  PE_imp (pe_tup (ha wx tk)) fun σ H Q t => by
    obtain ⟨k, sw, h, hs, hh, d⟩ := TAx.bind t
    refine ⟨k, sw, h, hs, hh, d.imp fun vs H1 ⟨k1, sw1, ws, h1, hs1, hh1, r, d1⟩ => ?_⟩
    split at d1
    · rename_i hl
      exact ⟨by rw [r.length]; exact lim_le hl, den_newT hh1 r d1⟩
    · exact d1.elim
theorem we_lst {m : Bool} (ha : WA A X es aa) : WE A X (.List es pos) (dLst m aa) := fun wx tk =>
  PE_imp (pe_lst (ha wx tk)) fun σ H Q t => by
    obtain ⟨k, sw, h, hs, hh, d⟩ := TAx.bind t
    refine ⟨k, sw, h, hs, hh, d.imp fun vs H1 ⟨k1, sw1, ws, h1, hs1, hh1, r, d1⟩ => ?_⟩
    split at d1
    · rename_i hl
      exact ⟨by rw [r.length]; exact lim_le hl, den_newL hh1 r d1⟩
    · exact d1.elim

/-! ### subscripts -/
def fIx (x y : W) (h : WH) : R W := match y with
  | .int i => match x with
    | .str s => if s.length ≤ lim then (match atI s.cps.toList i with | some c => .ok (.str ⟨#[c]⟩) h | none => .no) else .no
    | x => match seqOf h x with
      | some ws => (match atI ws i with | some w => .ok w h | none => .no)
      | none => .no
  | _ => .no
theorem atI_rep {G : Gx} {k : Ka} {ws : List W} {vs : List V} {i : Int} {w : W} (r : RepL G k ws vs) (e : atI ws i = some w) : ∃ v, atI vs i = some v ∧ Rep G k w v := by
  unfold atI at e ⊢
  rw [r.length]
  obtain ⟨j, e1, e2⟩ := Option.bind_eq_some_iff.mp e
  obtain ⟨v, e3, r2⟩ := r.get e2
  exact ⟨v, by rw [e1]; exact e3, r2⟩
theorem opw_ix (hK : X.K = A.K) : OpW A X (rIx X.K) fIx := by
  intro wx k H σ h x y u v Q hh rx ry d
  unfold fIx at d
  split at d
  · simp only [Rep] at ry
    subst ry
    split at d
    · split at d
      · rename_i hl
        split at d
        · rename_i c e
          simp only [Rep] at rx
          subst rx
          exact .inr (.inr ⟨_, _, c, rfl, rfl, lim_le hl, e, den_val hh (by simp [Rep]) d⟩)
        · exact d.elim
      · exact d.elim
    · split at d
      · rename_i ws e
        split at d
        · rename_i w e2
          obtain ⟨p, vs, rfl, q, r2⟩ := seqAt hh rx e
          obtain ⟨v, e3, r3⟩ := atI_rep r2 e2
          have qv := den_val hh r3 d
          rcases q with q | q
          · exact .inl ⟨p, vs, _, v, rfl, rfl, by rw [hK]; exact q, e3, qv⟩
          · exact .inr (.inl ⟨p, vs, _, v, rfl, rfl, by rw [hK]; exact q, e3, qv⟩)
        · exact d.elim
      · exact d.elim
  · exact d.elim
theorem we_ix (hK : X.K = A.K) (ha : WE A X a ea) (hb : WE A X b eb) (hn : nonSlice b = true) : WE A X (.Subscript a b pos) (dOp fIx ea eb) := fun wx tk =>
  PE_imp (pe_ix ix_seq (ha wx tk) (hb wx tk) (plainIx hn)) fun σ H Q t => by
    obtain ⟨k, sw, h, hs, hh, d⟩ := TEx.bind2 t
    exact ⟨k, sw, h, hs, hh, d.imp fun v H1 t2 => by
      obtain ⟨k1, sw1, h1, hs1, hh1, d1⟩ := t2
      exact ⟨k1, sw1, h1, hs1, hh1, d1.imp fun z H2 ⟨k2, w, u, h2, x2, r1, r2, d2⟩ => opw_ix hK wx k2 H2 σ h2 w u v z Q x2 r1 r2 d2⟩⟩

/-! ### slices -/
abbrev EO := WS → WH → R (Option Int)
def oNo : EO := fun _ h => .ok none h
def oSome (a : EV) : EO := fun sw h => (a sw h).bind fun w h1 => match w with | .int i => .ok (some i) h1 | _ => .no
def TOx (G : Gx) (wx : WX) (ev : EO) : TO := fun σ H Q => ∃ k sw h, SRep G k sw σ ∧ HRep G k H h ∧ Den G (fun _ a b => a = b) wx k H σ (ev sw h) Q
def WO (A : Ax) (X : Cx) (e : Option Expr) (ev : EO) : Prop := ∀ wx, Takes X wx → PO X e (TOx A.toGx wx ev)
theorem PO_imp {e : Option Expr} {t t' : TO} (h : PO X e t) (i : ∀ σ H Q, t' σ H Q → t σ H Q) : PO X e t' := by
  first
    | exact ⟨fun pins s σ H Q I q => h.run pins s σ H Q I (i σ H Q q)⟩
    | exact ⟨fun pins s σ H R I q => h.run pins s σ H R I (i σ H _ q)⟩
theorem wo_none : WO A X none oNo := fun wx tk => PO_imp po_none fun σ H Q ⟨k, sw, h, hs, hh, d⟩ => d none k H (.refl _ _) hh rfl
theorem wo_some (ha : WE A X a ea) : WO A X (some a) (oSome ea) := fun wx tk => PO_imp (po_some (ha wx tk)) fun σ H Q ⟨k, sw, h, hs, hh, d⟩ =>
  ⟨k, sw, h, hs, hh, (Den.bind (rp := Rep A.toGx) d).imp fun v H1 ⟨k1, w, h1, n1, hh1, r1, d1⟩ => by
    split at d1
    · simp only [Rep] at r1
      exact ⟨_, r1, d1 _ k1 H1 (.refl _ _) hh1 rfl⟩
    · exact d1.elim⟩
def cutW (xs : List W) (lo hi : Option Int) : List W := (xs.drop (HT.sIx xs.length 0 lo)).take (HT.sIx xs.length xs.length hi - HT.sIx xs.length 0 lo)
def fSl (m : Bool) (x : W) (lo hi : Option Int) (h : WH) : R W := match x with
  | .str s => if s.length ≤ lim then .ok (.str (cutS s lo hi)) h else .no
  | .tup ws => .ok (.tup (cutW ws lo hi)) h
  | x => match lstOf h x with | some ws => newL m (cutW ws lo hi) h | none => .no
def dSl (m : Bool) (a : EV) (lo hi : EO) : EV := fun sw h => (a sw h).bind fun x h1 => (lo sw h1).bind fun l h2 => (hi sw h2).bind fun u h3 => fSl m x l u h3
def rSlW (K : PySem.W.Frag) : V → Option Int → Option Int → Hp → VK → Prop := fun x lo hi H Q => rSlA K x lo hi H Q ∨ rSlL K x lo hi H Q ∨ ∃ z, x = .str z ∧ z.length ≤ sizeLine ∧ Q (.str (cutS z lo hi)) H
theorem RepL.cutV {G : Gx} {k : Ka} {ws : List W} {vs : List V} (r : RepL G k ws vs) (lo hi : Option Int) : RepL G k (cutW ws lo hi) (cutV vs lo hi) := by
  unfold cutW L2.cutV
  rw [r.length]
  exact RepL.take _ (RepL.drop _ r)
theorem cutW_whole {ws : List W} {lo hi : Option Int} (h : HT.sIx ws.length 0 lo = 0 ∧ HT.sIx ws.length ws.length hi = ws.length) : cutW ws lo hi = ws := by
  unfold cutW
  rw [h.1, h.2]; simp

theorem sl_W (hK : X.K = A.K) : SlR X (rSlW X.K) := sl_tupA.or (sl_list.or sl_str)
theorem sl_core (hK : X.K = A.K) {m : Bool} {wx : WX} {k : Ka} {H : Hp} {σ : St} {h : WH} {x : W} {u : V} {lo hi : Option Int} {Q : VK} (hh : HRep A.toGx k H h) (rx : Rep A.toGx k x u) (d : Den A.toGx (Rep A.toGx) wx k H σ (fSl m x lo hi h) Q) : rSlW X.K u lo hi H Q := by
  unfold fSl at d
  split at d
  · split at d
    · rename_i hl
      simp only [Rep] at rx
      subst rx
      exact .inr (.inr ⟨_, rfl, lim_le hl, den_val hh (by simp [Rep]) d⟩)
    · exact d.elim
  · obtain ⟨p, vs, rfl, q, r⟩ := tupAt hh rx
    refine .inl ⟨p, vs, rfl, by rw [hK]; exact q, fun e => ?_, fun _ => den_newT hh (r.cutV lo hi) d⟩
    rw [r.length] at e
    rw [cutW_whole e] at d
    exact den_val hh rx d
  · split at d
    · rename_i ws e
      obtain ⟨p, vs, rfl, q, r⟩ := listAt hh rx e
      exact .inr (.inl ⟨p, vs, rfl, SqL.of q, den_newL hh (r.cutV lo hi) d⟩)
    · exact d.elim
theorem we_sl (hK : X.K = A.K) {m : Bool} {lo hi : Option Expr} {ol oh : EO} {p2 : Pos} (ha : WE A X a ea) (hl : WO A X lo ol) (hu : WO A X hi oh) : WE A X (.Subscript a (.Slice lo hi none p2) pos) (dSl m ea ol oh) := fun wx tk =>
  PE_imp (pe_slice (sl_W hK) (ha wx tk) (hl wx tk) (hu wx tk)) fun σ H Q ⟨k, sw, h, hs, hh, d⟩ => by
    refine ⟨k, sw, h, hs, hh, (Den.bind (rp := Rep A.toGx) d).imp fun v H1 ⟨k1, w, h1, n1, hh1, r1, d1⟩ => ?_⟩
    refine ⟨k1, sw, h1, hs.mono n1.le, hh1, (Den.bind (rp := fun _ a b => a = b) d1).imp fun l H2 ⟨k2, wl, h2, n2, hh2, r2, d2⟩ => ?_⟩
    refine ⟨k2, sw, h2, (hs.mono n1.le).mono n2.le, hh2, (Den.bind (rp := fun _ a b => a = b) d2).imp fun u H3 ⟨k3, wu, h3, n3, hh3, r3, d3⟩ => ?_⟩
    subst r2; subst r3
    exact sl_core hK hh3 (r1.mono (n2.le.trans n3.le)) d3
/-- xs[::-1] of a list -/
def dRev (m : Bool) (a : EV) : EV := fun sw h => (a sw h).bind fun w h1 => match lstOf h1 w with | some ws => newL m ws.reverse h1 | none => .no
theorem we_rev (hK : X.K = A.K) {m : Bool} {k : Nat} {p1 p2 p3 : Pos} (ha : WE A X a ea) : WE A X (.Subscript a (.Slice none none (some (.UnaryOp .USub (.Constant (.int 1) k p1) p2)) p3) pos) (dRev m ea) := fun wx tk =>
  PE_imp (pe_revL (ha wx tk)) fun σ H Q t => by
    obtain ⟨k, sw, h, hs, hh, d⟩ := TEx.bind t
    refine ⟨k, sw, h, hs, hh, d.imp fun v H1 ⟨k1, sw1, w, h1, hs1, hh1, r, d1⟩ => ?_⟩
    split at d1
    · rename_i ws e
      obtain ⟨p, vs, rfl, q, r2⟩ := listAt hh1 r e
      exact ⟨p, vs, rfl, SqL.of q, den_newL hh1 r2.reverse d1⟩
    · exact d1.elim

/-! ### attributes -/
def lookF (f : Nat) : List Nat → List W → Option W
  | g :: fs, w :: ws => if f = g then some w else lookF f fs ws
  | _, _ => none
def putFs (f : Nat) : List Nat → List Nat
  | [] => [f]
  | g :: fs => if f = g then g :: fs else g :: putFs f fs
def putVs (f : Nat) (x : W) : List Nat → List W → List W
  | [], _ => [x]
  | g :: fs, w :: ws => if f = g then x :: ws else w :: putVs f x fs ws
  | _ :: _, [] => []
def insOf (h : WH) : W → Option (Nat × List Nat × List W)
  | .ins c fs vs => some (c, fs, vs)
  | .ref a => match h[a]? with | some (.ins c fs vs) => some (c, fs, vs) | _ => none
  | _ => none
theorem insAt {G : Gx} {k : Ka} {H : Hp} {h : WH} {w : W} {v : V} {c : Nat} {fs : List Nat} {ws : List W} (x : HRep G k H h) (r : Rep G k w v) (e : insOf h w = some (c, fs, ws)) :
    ∃ p C dx fvs, v = .ref p ∧ (G.cl c = some C ∧ fs.all (G.lay c) = true) ∧ H p = some (.ins C dx fvs) ∧ fvs.map (·.1) = fs.map G.fn ∧ RepL G k ws (fvs.map (·.2)) := by
  cases w <;> simp only [insOf, reduceCtorEq] at e
  · cases e
    simp only [Rep] at r
    obtain ⟨p, C, dx, fvs, e1, e2, q, e3, r2⟩ := r
    exact ⟨p, C, dx, fvs, e1, e2, x.sub _ _ q, e3, r2⟩
  · split at e
    · rename_i ho
      cases e
      obtain ⟨p, e1, q, C, dx, fvs, e2, e3, e4, r2⟩ := ref_at x r ho
      exact ⟨p, C, dx, fvs, e1, e2, e3, e4, r2⟩
    · cases e
/-- what the written part says of the attributes' names -/
structure FldOk (A : Ax) : Prop where
  inj : ∀ c f g, A.lay c f = true → A.lay c g = true → A.fn f = A.fn g → f = g
  na : ∀ c C f, A.cl c = some C → A.lay c f = true → NoAttr A.K C (A.fn f)
  cls : ∀ c C f, A.cl c = some C → A.lay c f = true → Cls A.K C
theorem lookF_rep {A : Ax} (F : FldOk A) {k : Ka} {c f : Nat} {w : W} (hf : A.lay c f = true) : ∀ {fs : List Nat} {ws : List W} {fvs : List (Str × V)}, fs.all (A.lay c) = true → fvs.map (·.1) = fs.map A.fn → RepL A.toGx k ws (fvs.map (·.2)) → lookF f fs ws = some w →
    ∃ v, fvs.lookup (A.fn f) = some v ∧ Rep A.toGx k w v
  | [], ws, fvs, _, _, _, e => by simp [lookF] at e
  | g :: fs, [], fvs, _, _, _, e => by simp [lookF] at e
  | g :: fs, w' :: ws, [], _, e1, _, _ => by simp at e1
  | g :: fs, w' :: ws, (n, v) :: fvs, ha, e1, r, e => by
    simp only [List.map_cons, List.cons.injEq] at e1
    simp only [List.map_cons, RepL, List.cons.injEq] at r
    obtain ⟨v0, r0, ⟨rfl, rfl⟩, h1, h2⟩ := r
    simp only [List.all_cons, Bool.and_eq_true] at ha
    simp only [lookF] at e
    split at e
    · rename_i hfg
      cases e
      refine ⟨v, ?_, h1⟩
      rw [List.lookup_cons, e1.1, hfg]
      simp
    · rename_i hfg
      obtain ⟨v2, e2, r2⟩ := lookF_rep F hf ha.2 e1.2 h2 e
      refine ⟨v2, ?_, r2⟩
      rw [List.lookup_cons]
      have : (A.fn f == n) = false := by
        rw [e1.1]
        exact beq_eq_false_iff_ne.mpr fun z => hfg (F.inj c f g hf ha.1 z)
      rw [this]; exact e2
theorem lookF_mem {f : Nat} {w : W} : ∀ {fs : List Nat} {ws : List W}, lookF f fs ws = some w → f ∈ fs
  | [], _, e => by simp [lookF] at e
  | g :: fs, [], e => by simp [lookF] at e
  | g :: fs, w' :: ws, e => by
    simp only [lookF] at e
    split at e
    · rename_i h; simp [h]
    · exact List.mem_cons_of_mem _ (lookF_mem e)
def dFld (a : EV) (f : Nat) : EV := fun sw h => (a sw h).bind fun w h1 => match insOf h1 w with
  | some (_, fs, ws) => (match lookF f fs ws with | some x => .ok x h1 | none => .no)
  | none => .no
theorem we_fld (hK : X.K = A.K) (F : FldOk A) {f : Nat} {n : Str} (hn : A.fn f = n) (ha : WE A X a ea) (h0 : notCall0 a = true) : WE A X (.Attribute a n pos) (dFld ea f) := fun wx tk =>
  PE_imp (pe_fld (ha wx tk) (attrBase h0)) fun σ H Q t => by
    obtain ⟨k, sw, h, hs, hh, d⟩ := TEx.bind t
    refine ⟨k, sw, h, hs, hh, d.imp fun v H1 ⟨k1, sw1, w, h1, hs1, hh1, r, d1⟩ => ?_⟩
    split at d1
    · rename_i c fs ws e
      split at d1
      · rename_i x e2
        obtain ⟨p, C, dx, fvs, rfl, ⟨e3, e4⟩, e5, e6, r2⟩ := insAt hh1 r e
        have hf : A.lay c f = true := List.all_eq_true.mp e4 f (lookF_mem e2)
        obtain ⟨v, e7, r3⟩ := lookF_rep F hf e4 e6 r2 e2
        subst hn
        exact ⟨p, C, dx, fvs, v, rfl, e5, by rw [hK]; exact F.cls c C f e3 hf, by rw [hK]; exact F.na c C f e3 hf, e7, den_val hh1 r3 d1⟩
      · exact d1.elim
    · exact d1.elim

/-! ### built-ins by name -/
def CallW (A : Ax) (X : Cx) (r : List V → Hp → VK → Prop) (f : List W → WH → R W) : Prop :=
  ∀ (wx : WX) (k : Ka) (H : Hp) (σ : St) (h : WH) (ws : List W) (vs : List V) (Q : VK), HRep A.toGx k H h → RepL A.toGx k ws vs → Den A.toGx (Rep A.toGx) wx k H σ (f ws h) Q → r vs H Q
def dBi (f : List W → WH → R W) (a : EA) : EV := fun sw h => (a sw h).bind f
theorem gl_of (x : XOk A N sc X) {n : Str} (hs : sc.names.lookup n = some .globalImplicit) : Gl X n := by unfold Gl Env.kindOf; rw [x.hsc]; exact hs
theorem we_biB (x : XOk A N sc X) {n : Str} {id : String} {r : List V → Hp → VK → Prop} {f : List W → WH → R W} {e : Expr} {p : Pos} (hc : CallR X (.builtin id) r) (hf : CallW A X r f) (hs : sc.names.lookup n = some .globalImplicit) (hg : A.gt.lookup n = some .blt)
    (hv : bootBuiltins n = some (.builtin id)) (ha : WA A X (e :: es) aa) (h1 : n ≠ ("__name__" : Str)) (h2 : (n == ("__debug__" : Str)) = false) (h3 : (e :: es).all nonStar = true) : WE A X (.Call (.Name n p) (e :: es) [] pos) (dBi f aa) := fun wx tk =>
  PE_imp (pe_callB hc (gl_of x hs) (x.glob.blt n hg) hv (ha wx tk) h1 h2 (star_ok (by simp only [List.all_cons, Bool.and_eq_true] at h3; exact h3.1)) (stars_any (by simp only [List.all_cons, Bool.and_eq_true] at h3; exact h3.2))) fun σ H Q t => by
    obtain ⟨k, sw, h, hs, hh, d⟩ := TAx.bind t
    exact ⟨k, sw, h, hs, hh, d.imp fun vs H1 ⟨k1, sw1, ws, h1, hs1, hh1, r, d1⟩ => hf wx k1 H1 σ h1 ws vs Q hh1 r d1⟩
theorem we_biT (x : XOk A N sc X) {n : Str} {id : String} {r : List V → Hp → VK → Prop} {f : List W → WH → R W} {e : Expr} {p : Pos} (hc : CallR X (.type id) r) (hf : CallW A X r f) (hs : sc.names.lookup n = some .globalImplicit) (hg : A.gt.lookup n = some .blt)
    (hv : bootBuiltins n = some (.type id)) (ha : WA A X (e :: es) aa) (h1 : n ≠ ("__name__" : Str)) (h2 : (n == ("__debug__" : Str)) = false) (h3 : (e :: es).all nonStar = true) : WE A X (.Call (.Name n p) (e :: es) [] pos) (dBi f aa) := fun wx tk =>
  PE_imp (pe_callTy hc (gl_of x hs) (x.glob.blt n hg) hv (ha wx tk) h1 h2 (star_ok (by simp only [List.all_cons, Bool.and_eq_true] at h3; exact h3.1)) (stars_any (by simp only [List.all_cons, Bool.and_eq_true] at h3; exact h3.2))) fun σ H Q t => by
    obtain ⟨k, sw, h, hs, hh, d⟩ := TAx.bind t
    exact ⟨k, sw, h, hs, hh, d.imp fun vs H1 ⟨k1, sw1, ws, h1, hs1, hh1, r, d1⟩ => hf wx k1 H1 σ h1 ws vs Q hh1 r d1⟩
theorem rep1 {G : Gx} {k : Ka} {w : W} {vs : List V} (r : RepL G k [w] vs) : ∃ v, vs = [v] ∧ Rep G k w v := by
  simp only [RepL] at r
  obtain ⟨v, r, rfl, h, rfl⟩ := r
  exact ⟨v, rfl, h⟩
theorem rep2 {G : Gx} {k : Ka} {w u : W} {vs : List V} (r : RepL G k [w, u] vs) : ∃ v z, vs = [v, z] ∧ Rep G k w v ∧ Rep G k u z := by
  simp only [RepL] at r
  obtain ⟨v, r, rfl, h, z, r', rfl, h', rfl⟩ := r
  exact ⟨v, z, rfl, h, h'⟩
def bLen (ws : List W) (h : WH) : R W := match ws with
  | [.str s] => if s.length ≤ lim then .ok (.int s.length) h else .no
  | [w] => match seqOf h w with | some xs => .ok (.int xs.length) h | none => .no
  | _ => .no
theorem cw_len (hK : X.K = A.K) : CallW A X (fun xs H Q => ∃ x n, xs = [x] ∧ LenV X.K x H n ∧ Q (.int n) H) bLen := by
  intro wx k H σ h ws vs Q hh r d
  unfold bLen at d
  split at d
  · split at d
    · rename_i hl
      obtain ⟨v, rfl, r1⟩ := rep1 r
      simp only [Rep] at r1
      subst r1
      exact ⟨_, _, rfl, ⟨lim_le hl, rfl⟩, den_val hh (by simp [Rep]) d⟩
    · exact d.elim
  · split at d
    · rename_i xs e
      obtain ⟨v, rfl, r1⟩ := rep1 r
      obtain ⟨p, vs, rfl, q, r2⟩ := seqAt hh r1 e
      refine ⟨_, vs.length, rfl, ?_, den_val hh (by rw [r2.length]; simp [Rep]) d⟩
      rw [hK]
      rcases q with q | q
      · exact .inl ⟨vs, q, rfl⟩
      · exact .inr ⟨vs, q, rfl⟩
    · exact d.elim
  · exact d.elim
def bAbs (ws : List W) (h : WH) : R W := match ws with | [.int i] => .ok (.int (if i < 0 then -i else i)) h | _ => .no
theorem cw_abs : CallW A X (fun xs H Q => ∃ i, xs = [.int i] ∧ Q (.int (if i < 0 then -i else i)) H) bAbs := by
  intro wx k H σ h ws vs Q hh r d
  unfold bAbs at d
  split at d
  · obtain ⟨v, rfl, r1⟩ := rep1 r
    simp only [Rep] at r1
    subst r1
    exact ⟨_, rfl, den_val hh (by simp [Rep]) d⟩
  · exact d.elim
def bMax2 (ws : List W) (h : WH) : R W := match ws with | [.int i, .int j] => .ok (.int (if j > i then j else i)) h | _ => .no
theorem cw_max2 : CallW A X (fun xs H Q => ∃ i j, xs = [.int i, .int j] ∧ Q (.int (if j > i then j else i)) H) bMax2 := by
  intro wx k H σ h ws vs Q hh r d
  unfold bMax2 at d
  split at d
  · obtain ⟨v, z, rfl, r1, r2⟩ := rep2 r
    simp only [Rep] at r1 r2
    subst r1; subst r2
    exact ⟨_, _, rfl, den_val hh (by simp [Rep]) d⟩
  · exact d.elim
def bMin2 (ws : List W) (h : WH) : R W := match ws with | [.int i, .int j] => .ok (.int (if j < i then j else i)) h | _ => .no
theorem cw_min2 : CallW A X (fun xs H Q => ∃ i j, xs = [.int i, .int j] ∧ Q (.int (if j < i then j else i)) H) bMin2 := by
  intro wx k H σ h ws vs Q hh r d
  unfold bMin2 at d
  split at d
  · obtain ⟨v, z, rfl, r1, r2⟩ := rep2 r
    simp only [Rep] at r1 r2
    subst r1; subst r2
    exact ⟨_, _, rfl, den_val hh (by simp [Rep]) d⟩
  · exact d.elim
def bInt (ws : List W) (h : WH) : R W := match ws with | [.int i] => .ok (.int i) h | [.bl b] => .ok (.int (if b then 1 else 0)) h | _ => .no
theorem cw_int : CallW A X (fun xs H Q => (∃ i, xs = [.int i] ∧ Q (.int i) H) ∨ ∃ k, xs = [.bl k] ∧ Q (.int (if k then 1 else 0)) H) bInt := by
  intro wx k H σ h ws vs Q hh r d
  unfold bInt at d
  split at d
  · obtain ⟨v, rfl, r1⟩ := rep1 r
    simp only [Rep] at r1
    subst r1
    exact .inl ⟨_, rfl, den_val hh (by simp [Rep]) d⟩
  · obtain ⟨v, rfl, r1⟩ := rep1 r
    simp only [Rep] at r1
    subst r1
    exact .inr ⟨_, rfl, den_val hh (by simp [Rep]) d⟩
  · exact d.elim
def bList (m : Bool) (ws : List W) (h : WH) : R W := match ws with | [w] => (match seqOf h w with | some xs => newL m xs h | none => .no) | _ => .no
theorem cw_list (hK : X.K = A.K) {m : Bool} : CallW A X (fun xs H Q => ∃ p ys, xs = [.ref p] ∧ (SqL X.K H p ys ∨ SqT X.K H p ys) ∧ ∀ l, H l = none → Q (.ref l) (upd H l (.lst ys))) (bList m) := by
  intro wx k H σ h ws vs Q hh r d
  unfold bList at d
  split at d
  · split at d
    · rename_i xs e
      obtain ⟨v, rfl, r1⟩ := rep1 r
      obtain ⟨p, vs, rfl, q, r2⟩ := seqAt hh r1 e
      exact ⟨p, vs, rfl, by rw [hK]; exact q, den_newL hh r2 d⟩
    · exact d.elim
  · exact d.elim
def bTup (ws : List W) (h : WH) : R W := match ws with
  | [.tup xs] => .ok (.tup xs) h
  | [w] => (match lstOf h w with | some xs => .ok (.tup xs) h | none => .no)
  | _ => .no
theorem cw_tup (hK : X.K = A.K) : CallW A X (fun xs H Q => ∃ p ys, xs = [.ref p] ∧ ((SqL X.K H p ys ∧ ∀ l, H l = none → Q (.ref l) (upd H l (.tup ys))) ∨ (SqT X.K H p ys ∧ Q (.ref p) H))) bTup := by
  intro wx k H σ h ws vs Q hh r d
  unfold bTup at d
  split at d
  · obtain ⟨v, rfl, r1⟩ := rep1 r
    obtain ⟨p, vs, rfl, q, r2⟩ := tupAt hh r1
    exact ⟨p, vs, rfl, .inr ⟨by rw [hK]; exact q, den_val hh r1 d⟩⟩
  · split at d
    · rename_i xs e
      obtain ⟨v, rfl, r1⟩ := rep1 r
      obtain ⟨p, vs, rfl, q, r2⟩ := listAt hh r1 e
      exact ⟨p, vs, rfl, .inl ⟨SqL.of q, den_newT hh r2 d⟩⟩
    · exact d.elim
  · exact d.elim
/-- lists of truths -/
def blsOf : List W → Option (List Bool)
  | [] => some []
  | .bl b :: ws => (blsOf ws).map (b :: ·)
  | _ => none
theorem bls_rep {G : Gx} {k : Ka} : ∀ {ws : List W} {bs : List Bool} {vs : List V}, RepL G k ws vs → blsOf ws = some bs → vs = bs.map V.bl
  | [], bs, vs, r, e => by simp only [RepL] at r; simp only [blsOf] at e; cases e; subst r; rfl
  | w :: ws, bs, vs, r, e => by
    simp only [RepL] at r
    obtain ⟨v, r', rfl, h1, h2⟩ := r
    cases w <;> simp only [blsOf, reduceCtorEq] at e
    obtain ⟨cs, e1, rfl⟩ := Option.map_eq_some_iff.mp e
    simp only [Rep] at h1
    rw [h1, bls_rep h2 e1]; rfl
def bAll (ws : List W) (h : WH) : R W := match ws with | [w] => (match (lstOf h w).bind blsOf with | some bs => .ok (.bl (bs.all id)) h | none => .no) | _ => .no
theorem cw_all (hK : X.K = A.K) : CallW A X (rAll X.K) bAll := by
  intro wx k H σ h ws vs Q hh r d
  unfold bAll at d
  split at d
  · split at d
    · rename_i bs e
      obtain ⟨xs, e1, e2⟩ := Option.bind_eq_some_iff.mp e
      obtain ⟨v, rfl, r1⟩ := rep1 r
      obtain ⟨p, vs, rfl, q, r2⟩ := listAt hh r1 e1
      have := bls_rep r2 e2
      subst this
      exact ⟨p, bs, rfl, SqL.of q, den_val hh (by simp [Rep]) d⟩
    · exact d.elim
  · exact d.elim
def bAny (ws : List W) (h : WH) : R W := match ws with | [w] => (match (lstOf h w).bind blsOf with | some bs => .ok (.bl (bs.any id)) h | none => .no) | _ => .no
theorem cw_any (hK : X.K = A.K) : CallW A X (rAny X.K) bAny := by
  intro wx k H σ h ws vs Q hh r d
  unfold bAny at d
  split at d
  · split at d
    · rename_i bs e
      obtain ⟨xs, e1, e2⟩ := Option.bind_eq_some_iff.mp e
      obtain ⟨v, rfl, r1⟩ := rep1 r
      obtain ⟨p, vs, rfl, q, r2⟩ := listAt hh r1 e1
      have := bls_rep r2 e2
      subst this
      exact ⟨p, bs, rfl, SqL.of q, den_val hh (by simp [Rep]) d⟩
    · exact d.elim
  · exact d.elim
def intsOf : List W → Option (List Int)
  | [] => some []
  | .int b :: ws => (intsOf ws).map (b :: ·)
  | _ => none
theorem ints_rep' {G : Gx} {k : Ka} : ∀ {ws : List W} {bs : List Int} {vs : List V}, RepL G k ws vs → intsOf ws = some bs → vs = bs.map V.int
  | [], bs, vs, r, e => by simp only [RepL] at r; simp only [intsOf] at e; cases e; subst r; rfl
  | w :: ws, bs, vs, r, e => by
    simp only [RepL] at r
    obtain ⟨v, r', rfl, h1, h2⟩ := r
    cases w <;> simp only [intsOf, reduceCtorEq] at e
    obtain ⟨cs, e1, rfl⟩ := Option.map_eq_some_iff.mp e
    simp only [Rep] at h1
    rw [h1, ints_rep' h2 e1]; rfl
def bSum (ws : List W) (h : WH) : R W := match ws with | [w] => (match (lstOf h w).bind intsOf with | some bs => .ok (.int bs.sum) h | none => .no) | _ => .no
theorem cw_sum (hK : X.K = A.K) : CallW A X (rSum X.K) bSum := by
  intro wx k H σ h ws vs Q hh r d
  unfold bSum at d
  split at d
  · split at d
    · rename_i bs e
      obtain ⟨xs, e1, e2⟩ := Option.bind_eq_some_iff.mp e
      obtain ⟨v, rfl, r1⟩ := rep1 r
      obtain ⟨p, vs, rfl, q, r2⟩ := listAt hh r1 e1
      have := ints_rep' r2 e2
      subst this
      exact ⟨p, bs, rfl, SqL.of q, den_val hh (by simp [Rep]) d⟩
    · exact d.elim
  · exact d.elim
end
end KW

set_option Elab.async false
set_option linter.all false
set_option maxRecDepth 100000
set_option maxHeartbeats 4000000
/-! calls of the program's own: defs, methods, classes -/
namespace KW
open PySem L2

abbrev Fns := Nat → List W → WH → R W
/-- a def's promise: what its meaning gives -/
def spF (G : Gx) (φ : List W → WH → R W) : Sp := fun vs H Q E => ∃ k ws h, RepL G k ws vs ∧ HRep G k H h ∧ Den G (Rep G) (fun cls d _ H' => E cls d H') k H [] (φ ws h) Q

/-- what the calls of a piece of code lean on -/
structure COk (A : Ax) (Φ : Fns) (n : Nat) (X : Cx) : Prop where
  room : Room (n + 1) X.A
  fn : ∀ f a, A.fa f = some a → ∃ fd ps, FnOk X.prog X.w X.K X.mg X.base (L2.CX X.prog X.w) n a fd ps (spF A.toGx (Φ f)) ∧ PySem.W.keepIn X.K (.ref a) = true ∧ Binds X.K fd ps []
  mt : ∀ c m f, A.mt c m = some f → ∃ C a, A.cl c = some C ∧ A.fa f = some a ∧ Meth X.K C (A.mn m) a ∧ Cls X.K C ∧ ∀ g, A.lay c g = true → A.fn g ≠ A.mn m
  ini : ∀ c f, A.ini c = some f → ∃ C a, A.cl c = some C ∧ A.fa f = some a ∧ Mk X.K C a

theorem den_ctx {G : Gx} {rp : Ka → W → V → Prop} {wx wy : WX} {k : Ka} {H : Hp} {σ σ' : St} {r : R W} {Q : VK} (h : Den G rp wx k H σ r Q) (i : ∀ cls d H', wx cls d σ H' → wy cls d σ' H') : Den G rp wy k H σ' r Q := by
  cases r with
  | ok w h' => exact h
  | exc c fs vs h' => exact fun C d k' H' n x xr => i _ _ _ (h C d k' H' n x xr)
  | no => exact h

section
variable {A : Ax} {X : Cx} {N : List Str} {sc : Scope} {Φ : Fns} {n : Nat} {a b c e : Expr} {ea eb ec : EV} {aa : EA} {p pos apos : Pos} {es : List Expr}

/-! ### f(..) -/
def dCall (φ : List W → WH → R W) (a : EA) : EV := fun sw h => (a sw h).bind φ
theorem we_call (x : XOk A N sc X) (C : COk A Φ n X) {f : Nat} {nm : Str} (hs : sc.names.lookup nm = some .globalImplicit) (hg : A.gt.lookup nm = some (.fn f)) (h2 : (nm == ("__debug__" : Str)) = false) (ha : WA A X (e :: es) aa) (h3 : (e :: es).all nonStar = true) :
    WE A X (.Call (.Name nm p) (e :: es) [] pos) (dCall (Φ f) aa) := fun wx tk => by
  obtain ⟨fa, e1, hm⟩ := x.glob.fn nm f hg
  obtain ⟨fd, ps, F, kp, hb⟩ := C.fn f fa e1
  simp only [List.all_cons, Bool.and_eq_true] at h3
  refine PE_imp (pe_callS F (C.room.mono (Nat.le_succ _)) (gl_of x hs) hm kp hb (fun σ => passAt tk σ) (ha wx tk) h2 (star_ok h3.1) (stars_any h3.2)) fun σ H Q t => ?_
  obtain ⟨k, sw, h, hs, hh, d⟩ := TAx.bind t
  exact ⟨k, sw, h, hs, hh, d.imp fun vs H1 ⟨k1, sw1, ws, h1, hs1, hh1, r, d1⟩ => ⟨k1, ws, h1, r, hh1, den_ctx d1 fun _ _ _ q => q⟩⟩
theorem we_call0 (x : XOk A N sc X) (C : COk A Φ n X) {f : Nat} {nm : Str} (hs : sc.names.lookup nm = some .globalImplicit) (hg : A.gt.lookup nm = some (.fn f)) (h2 : (nm == ("__debug__" : Str)) = false) :
    WE A X (.Call (.Name nm p) [] [] pos) (dCall (Φ f) aNil) := fun wx tk => by
  obtain ⟨fa, e1, hm⟩ := x.glob.fn nm f hg
  obtain ⟨fd, ps, F, kp, hb⟩ := C.fn f fa e1
  refine ⟨fun pins s σ H Q I t => ?_⟩
  obtain ⟨k, sw, h, hs', hh, d⟩ := t
  refine wpAny_Call_Name_kw (ld_glob I (gl_of x hs) hm ?_ h2)
  exact PySem.W.callWith_K0 I.kIn kp (run_fnS (us := []) (E := L2.WE wx) F (C.room.mono (Nat.le_succ _)) hb (passAt tk σ) I .nil ⟨k, [], h, by simp only [RepL], hh, den_ctx d fun _ _ _ q => q⟩)

/-! ### o.m(..) -/
def dMeth (A : Ax) (Φ : Fns) (m : Nat) (o : EV) (a : EA) : EV := fun sw h => (o sw h).bind fun x h1 => match insOf h1 x with
  | some (c, _, _) => (match A.mt c m with | some f => (a sw h1).bind fun ws h2 => Φ f (x :: ws) h2 | none => .no)
  | none => .no
theorem noKey {A : Ax} {c : Nat} {nm : Str} : ∀ {fs : List Nat} {fvs : List (Str × V)}, fs.all (A.lay c) = true → fvs.map (·.1) = fs.map A.fn → (∀ g, A.lay c g = true → A.fn g ≠ nm) → fvs.lookup nm = none
  | [], [], _, _, _ => rfl
  | [], _ :: _, _, e, _ => by simp at e
  | _ :: _, [], _, e, _ => by simp at e
  | g :: fs, (k, v) :: fvs, ha, e, hn => by
    simp only [List.map_cons, List.cons.injEq] at e
    simp only [List.all_cons, Bool.and_eq_true] at ha
    rw [List.lookup_cons]
    have z : (nm == k) = false := by
      rw [e.1]
      exact beq_eq_false_iff_ne.mpr fun q => hn g ha.1 q.symm
    rw [z]
    exact noKey ha.2 e.2 hn
theorem we_meth (x : XOk A N sc X) (C : COk A Φ n X) {m : Nat} {nm : Str} (hn : A.mn m = nm) (ho : WE A X a ea) (ha : WA A X (e :: es) aa) (h3 : (e :: es).all nonStar = true) {pl : Sem Bool}
    (ht : eval (.Call (.Attribute a nm apos) (e :: es) [] pos) X.env = (do
      let ov ← eval a X.env
      standAt apos.atName
      let (f, first) ← holding [ov] (getMethod ov nm pl)
      callWith pos f first (backTo pos (starEach (e :: es) X.env)) (backToKw pos (keywordEach [] X.env)))) :
    WE A X (.Call (.Attribute a nm apos) (e :: es) [] pos) (dMeth A Φ m ea aa) := fun wx tk => by
  simp only [List.all_cons, Bool.and_eq_true] at h3
  refine ⟨fun pins s σ H Q I t => ?_⟩
  have hK := x.hK
  obtain ⟨k, sw, h, hs, hh, d⟩ := TEx.bind t
  refine PySem.W.methodCall_KW (pl := pl) (thn ((ho wx tk).run pins s σ H _ I ⟨k, sw, h, hs, hh, d⟩) fun u s1 hu => ?_) ht
  obtain ⟨v, H1, I1, rv, k1, sw1, w, h1, hs1, hh1, r, d1⟩ := hu
  split at d1
  · rename_i cc fs ws ei
    split at d1
    · rename_i f em
      obtain ⟨p1, C1, dx, fvs, rfl, ⟨e3, e4⟩, e5, e6, r2⟩ := insAt hh1 r ei
      obtain ⟨C2, fa, e7, e8, hm, hc, hl⟩ := C.mt cc m f em
      rw [e3] at e7; cases e7
      obtain ⟨fd, ps, F, kp, hb⟩ := C.fn f fa e8
      obtain rfl : u = Value.ref p1 := rv
      subst hn
      refine getmeth_ok I1 e5 hc hm (noKey e4 e6 hl) ?_
      have t2 : TAx A.toGx wx aa σ H1 _ := ⟨k1, sw1, h1, hs1, hh1, Den.bind (rp := RepL A.toGx) d1⟩
      refine PySem.W.callWith_K (first := [.ref p1]) (h₀ := X.base) I.ok.mod.kin hm.kp (thn ((ha wx tk).run pos pins s1 σ H1 _ I1 t2) fun us s2 hu2 => ?_) (star_ok h3.1) (stars_any h3.2)
      obtain ⟨vs, H2, I2, rs, k2, xs, h2, n2, hh2, r3, d2⟩ := hu2
      refine ⟨I2.kIn, ?_⟩
      exact run_fnS (us := .ref p1 :: us) (vs := .ref p1 :: vs) (E := L2.WE wx) F (C.room.mono (Nat.le_succ _)) hb (passAt tk σ) I2 (.cons rfl rs) ⟨k2, w :: xs, h2, by simp only [RepL]; exact ⟨_, vs, rfl, r.mono n2.le, r3⟩, hh2, den_ctx d2 fun _ _ _ q => q⟩
    · exact d1.elim
  · exact d1.elim
theorem we_meth0 (x : XOk A N sc X) (C : COk A Φ n X) {m : Nat} {nm : Str} (hn : A.mn m = nm) (ho : WE A X a ea) {pl : Sem Bool}
    (ht : eval (.Call (.Attribute a nm apos) [] [] pos) X.env = (do
      let ov ← eval a X.env
      standAt apos.atName
      let (f, first) ← holding [ov] (getMethod ov nm pl)
      callWith pos f first (backTo pos (starEach [] X.env)) (backToKw pos (keywordEach [] X.env)))) :
    WE A X (.Call (.Attribute a nm apos) [] [] pos) (dMeth A Φ m ea aNil) := fun wx tk => by
  refine ⟨fun pins s σ H Q I t => ?_⟩
  have hK := x.hK
  obtain ⟨k, sw, h, hs, hh, d⟩ := TEx.bind t
  refine PySem.W.methodCall_KW (pl := pl) (thn ((ho wx tk).run pins s σ H _ I ⟨k, sw, h, hs, hh, d⟩) fun u s1 hu => ?_) ht
  obtain ⟨v, H1, I1, rv, k1, sw1, w, h1, hs1, hh1, r, d1⟩ := hu
  split at d1
  · rename_i cc fs ws ei
    split at d1
    · rename_i f em
      obtain ⟨p1, C1, dx, fvs, rfl, ⟨e3, e4⟩, e5, e6, r2⟩ := insAt hh1 r ei
      obtain ⟨C2, fa, e7, e8, hm, hc, hl⟩ := C.mt cc m f em
      rw [e3] at e7; cases e7
      obtain ⟨fd, ps, F, kp, hb⟩ := C.fn f fa e8
      obtain rfl : u = Value.ref p1 := rv
      subst hn
      refine getmeth_ok I1 e5 hc hm (noKey e4 e6 hl) ?_
      exact PySem.W.callWith_K0 (first := [.ref p1]) I1.kIn hm.kp (run_fnS (us := [.ref p1]) (vs := [.ref p1]) (E := L2.WE wx) F (C.room.mono (Nat.le_succ _)) hb (passAt tk σ) I1 (.cons rfl .nil) ⟨k1, [w], h1, RepL.one r, hh1, den_ctx d1 fun _ _ _ q => q⟩)
    · exact d1.elim
  · exact d1.elim

/-! ### C(..) -/
theorem HRep.other {G : Gx} {k : Ka} {H : Hp} {h : WH} {p : Addr} {o : HO} (x : HRep G k H h) (hp : H p = none) : HRep G k (upd H p o) h where
  sub := fun a u e => by
    have z : a ≠ p := fun z => by
      have := x.sub a u e
      rw [z, hp] at this; cases this
    rw [upd_ne z]; exact x.sub a u e
  len := x.len
  nd := x.nd
  trk := fun a ha => by
    have z : a ≠ p := fun z => x.noMu hp (by rw [← z]; exact ha)
    rw [upd_ne z]; exact x.trk a ha
  ob := fun i u q e1 e2 => by
    obtain ⟨r, n⟩ := x.ob i u q e1 e2
    have z : q ≠ p := fun z => x.noMu hp (z ▸ List.mem_of_getElem? e2)
    refine ⟨r.mono (.refl k) (upd_ne z), fun d => ?_⟩
    obtain ⟨n1, n2⟩ := n d
    exact ⟨n1, by rw [upd_ne z]; exact n2⟩
theorem Nxt.other {k : Ka} {H : Hp} {p : Addr} {o : HO} (hp : H p = none) : Nxt k H k (upd H p o) where
  le := .refl k
  oth := fun a ha _ => upd_ne fun z => ha (z ▸ hp)
  fro := fun a u e => .inl e
  new := fun a ha => .inl ha
  trk := fun a ha => by
    have z : a ≠ p := fun z => ha (by rw [z]; exact hp)
    rw [upd_ne z]; exact ha
/-- what C(..) gives: the new object, told by value where the class is so -/
def mkF (A : Ax) (Φ : Fns) (c : Nat) (ws : List W) (h : WH) : R W := match A.ini c with
  | none => .no
  | some f => (Φ f (.ref h.length :: ws) (h ++ [.ins c [] []])).bind fun v h2 => match v with
    | .non => if A.val c then (match h2[h.length]? with
        | some (.ins c' fs vs) => .ok (.ins c' fs vs) (gc h.length (.ins c' fs vs) h (h2.set h.length .dead))
        | _ => .no) else .ok (.ref h.length) h2
    | _ => .no
theorem mk_core (C : COk A Φ n X) (hK : X.K = A.K) {cc f : Nat} {C1 : Addr} {ws : List W} {vs : List V} {k : Ka} {H : Hp} {h : WH} {wx : WX} {σ : St} {Q : VK} (e1 : A.ini cc = some f) (e2 : A.cl cc = some C1) (hh : HRep A.toGx k H h) (r : RepL A.toGx k ws vs)
    (d : Den A.toGx (Rep A.toGx) wx k H σ (mkF A Φ cc ws h) Q) : ∀ x dx, H x = none → H dx = none → dx ≠ x →
      spF A.toGx (Φ f) (.ref x :: vs) (upd (upd H dx (.own x)) x (.ins C1 dx [])) (fun v H2 => v = .non ∧ Q (.ref x) H2) (L2.WE wx σ) := by
  intro x dx hx hdx ne
  unfold mkF at d
  rw [e1] at d
  have hh1 : HRep A.toGx k (upd H dx (.own x)) h := hh.other hdx
  have n1 : Nxt k H k (upd H dx (.own x)) := Nxt.other hdx
  have hx1 : upd H dx (.own x) x = none := by rw [upd_ne ne.symm]; exact hx
  have hh2 : HRep A.toGx (k.more x) (upd (upd H dx (.own x)) x (.ins C1 dx [])) (h ++ [.ins cc [] []]) := hh1.more hx1 ⟨C1, dx, [], ⟨e2, rfl⟩, upd_same, rfl, by simp only [List.map_nil, RepL]⟩ trivial
  have n2 : Nxt k (upd H dx (.own x)) (k.more x) (upd (upd H dx (.own x)) x (.ins C1 dx [])) := Nxt.more hh1 hx1
  have hm : (k.more x).mu[h.length]? = some x := by
    show (k.mu ++ [x])[h.length]? = some x
    rw [← hh.len]; simp
  refine ⟨k.more x, .ref h.length :: ws, _, ?_, hh2, ?_⟩
  · simp only [RepL]
    exact ⟨_, vs, rfl, by simp only [Rep]; exact ⟨x, rfl, hm⟩, r.mono le_more⟩
  · cases er : Φ f (.ref h.length :: ws) (h ++ [.ins cc [] []]) with
    | no =>
      dsimp only at d
      rw [er] at d; exact d.elim
    | exc c2 fs2 vs2 h2 =>
      dsimp only at d
      rw [er] at d
      exact fun C' d' k' H' n' x' xr => d C' d' k' H' ((n1.trans n2).trans n') x' xr
    | ok v h3 =>
      dsimp only at d
      rw [er] at d
      intro v' k3 H3 n3 hh3 rw3
      have hm3 : k3.mu[h.length]? = some x := prefix_get n3.le.mu hm
      dsimp only [R.bind] at d
      split at d
      · simp only [Rep] at rw3
        refine ⟨rw3, ?_⟩
        split at d
        · split at d
          · rename_i c' fs vs' eo
            obtain ⟨or, od⟩ := hh3.ob _ _ _ eo hm3
            obtain ⟨oF, oM⟩ := od (by intro z; cases z)
            obtain ⟨C2, dx2, fvs, ec, eH, ek, rr⟩ := or
            have hk := hh3.kill hm3 oF eH
            have nk : Nxt k3 H3 (k3.froz x (.ins C2 dx2 fvs)) H3 := Nxt.kill hh3 hm3 oF
            have rW : Rep A.toGx (k3.froz x (.ins C2 dx2 fvs)) (.ins c' fs vs') (.ref x) := by
              simp only [Rep]
              exact ⟨x, C2, dx2, fvs, rfl, ec, upd_same, ek, rr.mono nk.le⟩
            obtain ⟨k5, n5, hh5, r5⟩ := hh.gc hk (((n1.trans n2).trans n3).trans nk) rW
            exact d _ k5 H3 n5 hh5 r5
          · exact d.elim
        · refine d (.ref x) k3 H3 ((n1.trans n2).trans n3) hh3 ?_
          simp only [Rep]
          exact ⟨x, rfl, hm3⟩
      · exact d.elim
def dMake (A : Ax) (Φ : Fns) (c : Nat) (a : EA) : EV := fun sw h => (a sw h).bind (mkF A Φ c)
theorem run_new (C : COk A Φ n X) {C1 f : Addr} {fd : FuncData} {ps : List Str} {sp : Sp} {wx : WX} (tk : Takes X wx) {pins : List (Addr × Obj)} {σ : St} {H : Hp} {s : Shared} {Q : VK} {us : List Value} {vs : List V} (M : Mk X.K C1 f)
    (F : FnOk X.prog X.w X.K X.mg X.base (L2.CX X.prog X.w) n f fd ps sp) (hb : Binds X.K fd ps []) (I : Inv X pins σ H s) (r : Vals vs us)
    (h : ∀ x dx, H x = none → H dx = none → dx ≠ x → sp (.ref x :: vs) (upd (upd H dx (.own x)) x (.ins C1 dx [])) (fun v H2 => v = .non ∧ Q (.ref x) H2) (L2.WE wx σ)) :
    wpAny (model X.prog X.w) X.A (call (.ref C1) us) (EP X pins σ Q) X.xe s := by
  have q1 := h (s.heap.objs.size + 1) s.heap.objs.size (I.hok.fresh (Nat.le_succ _)) (I.hok.fresh (Nat.le_refl _)) (Nat.ne_of_lt (Nat.lt_succ_self _))
  have J := Inv.made (C := C1) I
  have rr : Vals (V.ref (s.heap.objs.size + 1) :: vs) (Value.ref (s.heap.objs.size + 1) :: us) := .cons rfl r
  have ln : (Value.ref (s.heap.objs.size + 1) :: us).length = ps.length := by
    rw [← rr.length]; exact F.len _ _ _ _ q1
  have bb := hb _ (Value.ref (s.heap.objs.size + 1) :: us) J.kIn (by rw [List.append_nil]; exact ln)
  rw [List.append_nil] at bb
  refine wpAny_call (make_map (f := f) I.kIn M.makes M.init (beq_iff_eq.mp M.fn) (codeAny_mono (F.run _ X.stack _ _ ⟨Value.ref (s.heap.objs.size + 1) :: us, []⟩ _ _ _ _ (C.room.make C1 us [])
    (J.env0.make C1 us []) bb rr q1) fun res st hq => ?_))
  cases res with
  | error er => exact passAt tk σ pins _ _ er st J hq
  | ok fl =>
    cases fl with
    | ret u =>
      obtain ⟨v, H', J3, rv, ev, q3⟩ := J.after hq
      subst ev
      exact ⟨rv, ⟨V.ref (s.heap.objs.size + 1), H', J3, rfl, q3⟩⟩
    | next => exact hq.elim
    | brk => exact hq.elim
    | cont => exact hq.elim
theorem we_make (x : XOk A N sc X) (C : COk A Φ n X) {c f : Nat} {nm : Str} (hi : A.ini c = some f) (hs : sc.names.lookup nm = some .globalImplicit) (hg : A.gt.lookup nm = some (.cls c)) (h2 : (nm == ("__debug__" : Str)) = false) (ha : WA A X (e :: es) aa) (h3 : (e :: es).all nonStar = true) :
    WE A X (.Call (.Name nm p) (e :: es) [] pos) (dMake A Φ c aa) := fun wx tk => by
  obtain ⟨C1, e1, hm⟩ := x.glob.cls nm c hg
  obtain ⟨C2, fa, e2, e3, M⟩ := C.ini c f hi
  rw [e1] at e2; cases e2
  obtain ⟨fd, ps, F, kp, hb⟩ := C.fn f fa e3
  simp only [List.all_cons, Bool.and_eq_true] at h3
  refine ⟨fun pins s σ H Q I t => ?_⟩
  refine wpAny_Call_Name_kw (ld_glob I (gl_of x hs) hm ?_ h2)
  obtain ⟨k, sw, h, hs', hh, d⟩ := TAx.bind t
  refine PySem.W.callWith_K (h₀ := X.base) I.ok.mod.kin M.kp (thn ((ha wx tk).run pos pins s σ H _ I ⟨k, sw, h, hs', hh, d⟩) fun us s1 hu => ?_) (star_ok h3.1) (stars_any h3.2)
  obtain ⟨vs, H1, I1, rs, k1, sw1, ws, h1, hs1, hh1, r, d1⟩ := hu
  exact ⟨I1.kIn, run_new C tk M F hb I1 rs (mk_core C x.hK hi e1 hh1 r d1)⟩
theorem we_make0 (x : XOk A N sc X) (C : COk A Φ n X) {c f : Nat} {nm : Str} (hi : A.ini c = some f) (hs : sc.names.lookup nm = some .globalImplicit) (hg : A.gt.lookup nm = some (.cls c)) (h2 : (nm == ("__debug__" : Str)) = false) :
    WE A X (.Call (.Name nm p) [] [] pos) (dMake A Φ c aNil) := fun wx tk => by
  obtain ⟨C1, e1, hm⟩ := x.glob.cls nm c hg
  obtain ⟨C2, fa, e2, e3, M⟩ := C.ini c f hi
  rw [e1] at e2; cases e2
  obtain ⟨fd, ps, F, kp, hb⟩ := C.fn f fa e3
  refine ⟨fun pins s σ H Q I t => ?_⟩
  refine wpAny_Call_Name_kw (ld_glob I (gl_of x hs) hm ?_ h2)
  obtain ⟨k, sw, h, hs', hh, d⟩ := t
  exact PySem.W.callWith_K0 I.kIn M.kp (run_new (us := []) C tk M F hb I .nil (mk_core C x.hK hi e1 hh (by simp only [RepL]) d))

/-! ### isinstance -/
end
end KW

set_option Elab.async false
set_option linter.all false
set_option maxRecDepth 100000
set_option maxHeartbeats 4000000
/-! targets, what loops walk, statements -/
namespace KW
open PySem L2

/-! ### targets -/
inductive Tg where
  | nm (i : Nat)
  | tup (ts : List Tg)
mutual
def tgW : Tg → W → WS → Option WS
  | .nm i, w, sw => some (sw.set i (some w))
  | .tup ts, .tup ws, sw => tgWs ts ws sw
  | .tup _, _, _ => none
def tgWs : List Tg → List W → WS → Option WS
  | [], [], sw => some sw
  | t :: ts, w :: ws, sw => (tgW t w sw).bind fun sw' => tgWs ts ws sw'
  | _, _, _ => none
end
mutual
def Tg.slots : Tg → List Nat
  | .nm i => [i]
  | .tup ts => Tg.slotss ts
def Tg.slotss : List Tg → List Nat
  | [] => []
  | t :: ts => Tg.slots t ++ Tg.slotss ts
end
/-- all slots but these stand -/
def Off (own : List Nat) (σ σ' : St) : Prop := σ'.length = σ.length ∧ ∀ j, j ∉ own → σ'[j]? = σ[j]?
def TGx (G : Gx) (own : List Nat) (t : W → WS → Option WS) : TG := fun v σ H Q => ∃ k sw h w sw', SRep G k sw σ ∧ HRep G k H h ∧ Rep G k w v ∧ t w sw = some sw' ∧ ∀ σ', SRep G k sw' σ' → Off own σ σ' → Q σ' H
def TGsx (G : Gx) (own : List Nat) (t : List W → WS → Option WS) : TGs := fun vs σ H Q => ∃ k sw h ws sw', SRep G k sw σ ∧ HRep G k H h ∧ RepL G k ws vs ∧ t ws sw = some sw' ∧ ∀ σ', SRep G k sw' σ' → Off own σ σ' → Q σ' H
def WG (A : Ax) (X : Cx) (e : Expr) (t : Tg) : Prop := PG X e (TGx A.toGx t.slots (tgW t))
def WGs (A : Ax) (X : Cx) (es : List Expr) (ts : List Tg) : Prop := PGs X es (TGsx A.toGx (Tg.slotss ts) (tgWs ts))
theorem PG_imp {X : Cx} {e : Expr} {t t' : TG} (h : PG X e t) (i : ∀ v σ H Q, t' v σ H Q → t v σ H Q) : PG X e t' := ⟨fun pins s σ H v u Q I r q => h.run pins s σ H v u Q I r (i v σ H Q q)⟩
theorem PGs_imp {X : Cx} {e : List Expr} {t t' : TGs} (h : PGs X e t) (i : ∀ v σ H Q, t' v σ H Q → t v σ H Q) : PGs X e t' := ⟨fun pins s σ H v u Q I r q => h.run pins s σ H v u Q I r (i v σ H Q q)⟩
section
variable {A : Ax} {X : Cx} {N : List Str} {sc : Scope} {Φ : Fns} {n : Nat} {a b c e : Expr} {ea eb ec : EV} {aa : EA} {p pos apos : Pos} {es : List Expr}
/-- what may be stored -/
structure StOk (A : Ax) (N : List Str) (sc : Scope) (X : Cx) : Prop extends XOk A N sc X where
  fn : ∀ y, X.fn y = true
theorem wg_nm (x : XOk A N sc X) {i : Nat} {y : Str} (hN : N[i]? = some y) (hl : L2.Loc sc y) (hf : X.fn y = true ∨ sc.names.lookup y = some .local) : WG A X (.Name y pos) (.nm i) :=
  PG_imp (pg_name (by rw [x.hN]; exact x.nd) (by rw [x.hN]; exact hN) (by rw [x.hsc]; exact hl) (by rw [x.hsc]; exact hf)) fun v σ H Q ⟨k, sw, h, w, sw', hs, hh, r, e, q⟩ => by
    simp only [tgW, Option.some.injEq] at e
    subst e
    refine q _ (hs.set i r) ⟨by rw [List.length_set], fun j hj => List.getElem?_set_ne fun z => hj ?_⟩
    simp [Tg.slots, z]
theorem wgs_nil : WGs A X [] [] := PGs_imp pgs_nil fun v σ H Q ⟨k, sw, h, ws, sw', hs, hh, r, e, q⟩ => by
  cases ws with
  | nil =>
    simp only [RepL] at r
    simp only [tgWs, Option.some.injEq] at e
    subst r; subst e
    exact ⟨rfl, q _ hs ⟨rfl, fun _ _ => rfl⟩⟩
  | cons w ws => simp [tgWs] at e
theorem wgs_cons {t : Tg} {ts : List Tg} (h1 : WG A X e t) (h2 : WGs A X es ts) (hs : (assignEach (e :: es) X.env).map (·.2) = assign e X.env :: (assignEach es X.env).map (·.2)) : WGs A X (e :: es) (t :: ts) :=
  PGs_imp (pgs_cons h1 h2 hs) fun v σ H Q ⟨k, sw, h, ws, sw', hs, hh, r, e, q⟩ => by
    cases ws with
    | nil => simp [tgWs] at e
    | cons w ws =>
      simp only [RepL] at r
      obtain ⟨v1, vr, rfl, r1, r2⟩ := r
      simp only [tgWs] at e
      obtain ⟨sw1, e1, e2⟩ := Option.bind_eq_some_iff.mp e
      exact ⟨v1, vr, rfl, k, sw, h, w, sw1, hs, hh, r1, e1, fun σ1 hs1 o1 => ⟨k, sw1, h, ws, sw', hs1, hh, r2, e2, fun σ2 hs2 o2 => q σ2 hs2 ⟨o2.1.trans o1.1, fun j hj => by
        simp only [Tg.slotss, List.mem_append, not_or] at hj
        rw [o2.2 j hj.2, o1.2 j hj.1]⟩⟩⟩
theorem assignEach_len {env : Env} : ∀ {es : List Expr}, (assignEach es env).length = es.length
  | [] => rfl
  | e :: es => by
    have ih := assignEach_len (env := env) (es := es)
    cases e <;> first | (simp only [assignEach, List.length_cons, ih]; done) | (unfold assignEach; simp [ih])
theorem assignEach_cons {env : Env} {e : Expr} {es : List Expr} (h : nonStar e = true) : (assignEach (e :: es) env).map (·.2) = assign e env :: (assignEach es env).map (·.2) := by
  cases e <;> first | rfl | simp [nonStar] at h
theorem assignEach_star {env : Env} : ∀ {es : List Expr}, es.all nonStar = true → (assignEach es env).findIdx? (·.1) = none
  | [], _ => rfl
  | e :: es, h => by
    simp only [List.all_cons, Bool.and_eq_true] at h
    have ih := assignEach_star (env := env) h.2
    have : assignEach (e :: es) env = (false, assign e env) :: assignEach es env := by
      cases e <;> first | rfl | simp [nonStar] at h
    rw [this, List.findIdx?_cons]
    simp only [Bool.false_eq_true, if_false, ih, Option.map_none]
theorem tgWs_len : ∀ {ts : List Tg} {ws : List W} {sw sw' : WS}, tgWs ts ws sw = some sw' → ws.length = ts.length
  | [], [], _, _, _ => rfl
  | [], _ :: _, _, _, e => by simp [tgWs] at e
  | _ :: _, [], _, _, e => by simp [tgWs] at e
  | t :: ts, w :: ws, sw, sw', e => by
    simp only [tgWs] at e
    obtain ⟨sw1, _, e2⟩ := Option.bind_eq_some_iff.mp e
    simp [tgWs_len e2]
theorem wg_tup (x : XOk A N sc X) {ts : List Tg} {kk : Nat} (h : WGs A X es ts) (hl : es.length = ts.length) (h3 : es.all nonStar = true) : WG A X (.Tuple es kk pos) (.tup ts) :=
  PG_imp (pg_tup (n := es.length) x.calm h assignEach_len (assignEach_star h3)) fun v σ H Q ⟨k, sw, h, w, sw', hs, hh, r, e, q⟩ => by
    cases w <;> simp only [tgW, reduceCtorEq] at e
    rename_i ws
    obtain ⟨p1, vs, rfl, q1, r1⟩ := tupAt hh r
    exact ⟨p1, vs, rfl, by rw [x.hK]; exact q1, by rw [r1.length, hl]; exact tgWs_len e, k, sw, h, ws, sw', hs, hh, r1, e, q⟩

/-! ### statements -/
theorem PS_of {st : Stmt} {t : TS} {ev : EW} (h : ∀ wx, Takes X wx → PassesOwn (model X.prog X.w) X.A X.env X.xe → PS X st (TSx A.toGx wx ev)) : WSt A X st ev := h
def sNil : EW := fun sw h => .ok (.next sw) h
def sSeq (s : EW) (r : EW) : EW := fun sw h => match s sw h with
  | .ok (.next sw1) h1 => r sw1 h1
  | x => x
theorem ws_nil : WSs A X [] sNil := fun wx tk po => PSs_imp pss_nil fun D σ H ⟨k, sw, h, hs, hh, d⟩ => d σ k H (.refl _ _) hh hs
theorem ws_cons {st : Stmt} {rest : List Stmt} {s r : EW} (h1 : WSt A X st s) (h2 : WSs A X rest r) : WSs A X (st :: rest) (sSeq s r) := fun wx tk po =>
  PSs_imp (pss_cons (h1 wx tk po) (h2 wx tk po)) fun D σ H ⟨k, sw, h, hs, hh, d⟩ => by
    refine ⟨k, sw, h, hs, hh, ?_⟩
    unfold sSeq at d
    cases e : s sw h with
    | no => rw [e] at d; exact d
    | exc s' c fs vs h' => rw [e] at d; exact d
    | ok f h1 =>
      rw [e] at d
      cases f with
      | next sw1 => exact fun σ1 k1 H1 n1 hh1 hs1 => ⟨k1, sw1, h1, hs1, hh1, d.nxt n1⟩
      | ret w => exact d
      | brk s => exact d
      | cont s => exact d
/-- an expression's result, then a statement's -/
def R.st {α : Type} (r : R α) (sw : WS) (f : α → WH → RS) : RS := match r with
  | .ok a h => f a h
  | .exc c fs vs h => .exc sw c fs vs h
  | .no => .no
theorem DenS.bind {α β : Type} {G : Gx} {rp : Ka → α → β → Prop} {wx : WX} {k : Ka} {H : Hp} {σ : St} {sw : WS} {r : R α} {f : α → WH → RS} {D : Ends} (hs : SRep G k sw σ) (h : DenS G wx k H (r.st sw f) D) :
    Den G rp wx k H σ r fun v H' => ∃ k' w h', Nxt k H k' H' ∧ HRep G k' H' h' ∧ rp k' w v ∧ SRep G k' sw σ ∧ DenS G wx k' H' (f w h') D := by
  cases r with
  | ok w h' => exact fun v k' H' n x r => ⟨k', w, h', n, x, r, hs.mono n.le, DenS.nxt n h⟩
  | exc c fs vs h' => exact fun C d k' H' n x xr => h σ C d k' H' n x (hs.mono n.le) xr
  | no => exact h
def sSet (i : Nat) (a : EV) : EW := fun sw h => (a sw h).st sw fun w h1 => .ok (.next (sw.set i (some w))) h1
theorem ws_set (x : StOk A N sc X) {i : Nat} {y : Str} {py : Pos} (hN : N[i]? = some y) (hl : L2.Loc sc y) (ha : WE A X a ea) (hc : notComp a = true) : WSt A X (.Assign [.Name y py] a pos) (sSet i ea) := fun wx tk po =>
  PS_imp (ps_set (by rw [x.hN]; exact x.nd) (by rw [x.hN]; exact hN) (by rw [x.hsc]; exact hl) (ha wx tk) (swaps_not hc) (.inl (x.fn y))) fun D σ H ⟨k, sw, h, hs, hh, d⟩ =>
    ⟨k, sw, h, hs, hh, (DenS.bind (rp := Rep A.toGx) hs d).imp fun v H1 ⟨k1, w, h1, n1, hh1, r1, hs1, d1⟩ => d1 _ k1 H1 (.refl _ _) hh1 (hs1.set i r1)⟩
def sTg (t : W → WS → Option WS) (a : EV) : EW := fun sw h => (a sw h).st sw fun w h1 => match t w sw with | some sw' => .ok (.next sw') h1 | none => .no
def parStores : List Expr → Expr → Bool
  | [.Tuple _ _ _], .Tuple _ _ _ => false
  | [_], _ => true
  | _, _ => false
theorem ws_asg {tg : Expr} {t : Tg} (hg : WG A X tg t) (ha : WE A X a ea) (hs : swapsWithSole [tg] a pos.line X.env = pure false) (hw : swappedStores [tg] a X.env = pure none) (h1 : (assignEach [tg] X.env).map (·.2) = [assign tg X.env]) :
    WSt A X (.Assign [tg] a pos) (sTg (tgW t) ea) := fun wx tk po =>
  PS_imp (ps_asg (ha wx tk) hg hs hw h1) fun D σ H ⟨k, sw, h, hs, hh, d⟩ =>
    ⟨k, sw, h, hs, hh, (DenS.bind (rp := Rep A.toGx) hs d).imp fun v H1 ⟨k1, w, h1, n1, hh1, r1, hs1, d1⟩ => by
      split at d1
      · rename_i sw' e
        exact ⟨k1, sw, h1, w, sw', hs1, hh1, r1, e, fun σ' hs' _ => d1 σ' k1 H1 (.refl _ _) hh1 hs'⟩
      · exact d1.elim⟩
/-- a, b = x, y -/
def sPar (i j : Nat) (a : EA) : EW := fun sw h => (a sw h).st sw fun ws h1 => match ws with | [w, u] => .ok (.next ((sw.set i (some w)).set j (some u))) h1 | _ => .no
theorem ws_par (x : XOk A N sc X) {i j : Nat} {y z : Str} {px py pt pt2 : Pos} {kt k2 : Nat} (hi : N[i]? = some y) (hj : N[j]? = some z) (hij : i ≠ j) (hy : sc.names.lookup y = some .local) (hz : sc.names.lookup z = some .local) (ha : WA A X [a, b] aa)
    (hw : swappedStores [.Tuple [.Name y px, .Name z py] kt pt] (.Tuple [a, b] k2 pt2) X.env = pure (some [y, z])) (hs : swapsWithSole [.Tuple [.Name y px, .Name z py] kt pt] (.Tuple [a, b] k2 pt2) pos.line X.env = pure false) :
    WSt A X (.Assign [.Tuple [.Name y px, .Name z py] kt pt] (.Tuple [a, b] k2 pt2) pos) (sPar i j aa) := fun wx tk po =>
  PS_imp (ps_par x.calm (by rw [x.hN]; exact x.nd) (by rw [x.hN]; exact hi) (by rw [x.hN]; exact hj) hij (by rw [x.hsc]; exact hy) (by rw [x.hsc]; exact hz) (ha wx tk) hw hs) fun D σ H ⟨k, sw, h, hs, hh, d⟩ =>
    ⟨k, sw, h, hs, hh, (DenS.bind (rp := RepL A.toGx) hs d).imp fun v H1 ⟨k1, w, h1, n1, hh1, r1, hs1, d1⟩ => by
      split at d1
      · obtain ⟨v1, v2, rfl, r2, r3⟩ := rep2 r1
        exact ⟨v1, v2, rfl, d1 _ k1 H1 (.refl _ _) hh1 ((hs1.set i r2).set j r3)⟩
      · exact d1.elim⟩
def sExpr (a : EV) : EW := fun sw h => (a sw h).st sw fun _ h1 => .ok (.next sw) h1
theorem ws_expr (ha : WE A X a ea) (hc : notComp a = true) : WSt A X (.Expr a pos) (sExpr ea) := fun wx tk po =>
  PS_imp (ps_expr (ha wx tk) (swaps_not hc)) fun D σ H ⟨k, sw, h, hs, hh, d⟩ =>
    ⟨k, sw, h, hs, hh, (DenS.bind (rp := Rep A.toGx) hs d).imp fun v H1 ⟨k1, w, h1, n1, hh1, r1, hs1, d1⟩ => d1 _ k1 H1 (.refl _ _) hh1 hs1⟩
def sRet (a : EV) : EW := fun sw h => (a sw h).st sw fun w h1 => .ok (.ret w) h1
theorem ws_ret (ha : WE A X a ea) : WSt A X (.Return (some a) pos) (sRet ea) := fun wx tk po =>
  PS_imp (ps_ret (ha wx tk)) fun D σ H ⟨k, sw, h, hs, hh, d⟩ =>
    ⟨k, sw, h, hs, hh, (DenS.bind (rp := Rep A.toGx) hs d).imp fun v H1 ⟨k1, w, h1, n1, hh1, r1, hs1, d1⟩ => d1 _ k1 H1 (.refl _ _) hh1 r1⟩
def sRetN : EW := fun _ h => .ok (.ret .non) h
theorem ws_retN : WSt A X (.Return none pos) sRetN := fun wx tk po => PS_imp ps_retN fun D σ H ⟨k, sw, h, hs, hh, d⟩ => d _ k H (.refl _ _) hh (by simp only [Rep])
theorem ws_pass : WSt A X (.Pass pos) sNil := fun wx tk po => PS_imp ps_pass fun D σ H ⟨k, sw, h, hs, hh, d⟩ => d σ k H (.refl _ _) hh hs
def sBrk : EW := fun sw h => .ok (.brk sw) h
def sCont : EW := fun sw h => .ok (.cont sw) h
theorem ws_brk : WSt A X (.Break pos) sBrk := fun wx tk po => PS_imp ps_break fun D σ H ⟨k, sw, h, hs, hh, d⟩ => d σ k H (.refl _ _) hh hs
theorem ws_cont : WSt A X (.Continue pos) sCont := fun wx tk po => PS_imp ps_continue fun D σ H ⟨k, sw, h, hs, hh, d⟩ => d σ k H (.refl _ _) hh hs
def sIf (t : EB) (a b : EW) : EW := fun sw h => (t sw h).st sw fun c h1 => if c then a sw h1 else b sw h1
theorem ws_if {c : Expr} {p q : List Stmt} {tc : EB} {s r : EW} (hc : WT A X c tc) (hp : WSs A X p s) (hq : WSs A X q r) : WSt A X (.If c p q pos) (sIf tc s r) := fun wx tk po =>
  PS_imp (ps_if (hc wx tk) (hp wx tk po) (hq wx tk po)) fun D σ H ⟨k, sw, h, hs, hh, d⟩ =>
    ⟨k, sw, h, hs, hh, (DenS.bind (rp := fun _ a b => a = b) hs d).imp fun c H1 ⟨k1, w, h1, n1, hh1, e, hs1, d1⟩ => by
      subst e
      cases w with
      | true =>
        rw [if_pos rfl] at d1 ⊢
        exact ⟨k1, sw, h1, hs1, hh1, d1⟩
      | false =>
        rw [if_neg (by decide)] at d1 ⊢
        exact ⟨k1, sw, h1, hs1, hh1, d1⟩⟩
/-- o[i] = v of a logical list -/
def fSetI (o i v : W) (h : WH) : Option WH := match o, i with
  | .ref a, .int j => match h[a]? with
    | some (.lst ws) => (match ixN ws.length j with | some n => some (h.set a (.lst (ws.set n v))) | none => none)
    | _ => none
  | _, _ => none
def sSetI (o i v : EV) : EW := fun sw h => (v sw h).st sw fun x h1 => (o sw h1).st sw fun y h2 => (i sw h2).st sw fun z h3 => match fSetI y z x h3 with | some h4 => .ok (.next sw) h4 | none => .no
theorem ws_setI (ho : WE A X a ea) (hi : WE A X b eb) (hv : WE A X c ec) {tp : Pos} (ha : ∀ v, assign (.Subscript a b tp) X.env v = (do
      let ov ← holding [v] (eval a X.env)
      let iv ← holding [v, ov] (eval b X.env)
      standAt tp
      holding [v, ov, iv] (setItem ov iv v)
      release [v, ov, iv] [])) (hs1 : swapsWithSole [.Subscript a b tp] c pos.line X.env = pure false) (hw : swappedStores [.Subscript a b tp] c X.env = pure none) (h1 : (assignEach [.Subscript a b tp] X.env).map (·.2) = [assign (.Subscript a b tp) X.env]) :
    WSt A X (.Assign [.Subscript a b tp] c pos) (sSetI ea eb ec) := fun wx tk po =>
  PS_imp (ps_asg (hv wx tk) (pg_sub (ho wx tk) (hi wx tk) set_list ha) hs1 hw h1) fun D σ H ⟨k, sw, h, hs, hh, d⟩ => by
    refine ⟨k, sw, h, hs, hh, (DenS.bind (rp := Rep A.toGx) hs d).imp fun v H1 ⟨k1, w1, h1, n1, hh1, r1, hs1, d1⟩ => ?_⟩
    refine ⟨k1, sw, h1, hs1, hh1, (DenS.bind (rp := Rep A.toGx) hs1 d1).imp fun o H2 ⟨k2, w2, h2, n2, hh2, r2, hs2, d2⟩ => ?_⟩
    refine ⟨k2, sw, h2, hs2, hh2, (DenS.bind (rp := Rep A.toGx) hs2 d2).imp fun i H3 ⟨k3, w3, h3, n3, hh3, r3, hs3, d3⟩ => ?_⟩
    split at d3
    · rename_i h4 e
      unfold fSetI at e
      split at e
      · rename_i ad j
        split at e
        · rename_i ws ho
          split at e
          · rename_i nn en
            cases e
            obtain ⟨p1, e1, em, vs, eH, rr⟩ := ref_at hh3 (r2.mono n3.le) ho
            simp only [Rep] at r3
            subst r3
            refine ⟨p1, vs, _, nn, e1, rfl, eH, by rw [rr.length]; exact en, ?_⟩
            obtain ⟨_, od⟩ := hh3.ob _ _ _ ho em
            obtain ⟨oF, oM⟩ := od (by intro z; cases z)
            exact d3 σ k3 _ (Nxt.put hh3 em) (hh3.put em oF ⟨_, upd_same, rr.set nn (r1.mono (n2.le.trans n3.le))⟩ trivial) hs3
          · cases e
        · cases e
      · cases e
    · exact d3.elim
/-- o.f = v of a logical instance -/
def fSetF (A : Ax) (o : W) (f : Nat) (v : W) (h : WH) : Option WH := match o with
  | .ref a => match h[a]? with
    | some (.ins c fs vs) => if A.lay c f = true ∧ fs.length < 900 then some (h.set a (.ins c (putFs f fs) (putVs f v fs vs))) else none
    | _ => none
  | _ => none
def sSetF (A : Ax) (o : EV) (f : Nat) (v : EV) : EW := fun sw h => (v sw h).st sw fun x h1 => (o sw h1).st sw fun y h2 => match fSetF A y f x h2 with | some h4 => .ok (.next sw) h4 | none => .no
theorem put_rep {A : Ax} (F : FldOk A) {k : Ka} {c f : Nat} {v : V} {x : W} (hf : A.lay c f = true) (rx : Rep A.toGx k x v) : ∀ {fs : List Nat} {ws : List W} {fvs : List (Str × V)}, fs.all (A.lay c) = true → fvs.map (·.1) = fs.map A.fn → RepL A.toGx k ws (fvs.map (·.2)) →
    (putFs f fs).all (A.lay c) = true ∧ (putF (A.fn f) v fvs).map (·.1) = (putFs f fs).map A.fn ∧ RepL A.toGx k (putVs f x fs ws) ((putF (A.fn f) v fvs).map (·.2))
  | [], ws, [], _, _, r => by
    refine ⟨?_, rfl, RepL.one rx⟩
    simp only [putFs, List.all_cons, List.all_nil, Bool.and_true]; exact hf
  | [], ws, _ :: _, _, e, _ => by simp at e
  | g :: fs, ws, [], _, e, _ => by simp at e
  | g :: fs, [], (n, v') :: fvs, _, _, r => by
    simp [RepL] at r
  | g :: fs, w :: ws, (n, v') :: fvs, ha, e, r => by
    simp only [List.map_cons, List.cons.injEq] at e
    simp only [List.map_cons, RepL, List.cons.injEq] at r
    obtain ⟨v0, r0, ⟨rfl, rfl⟩, h1, h2⟩ := r
    simp only [List.all_cons, Bool.and_eq_true] at ha
    by_cases z : f = g
    · subst z
      simp only [putFs, putVs, putF, if_pos, e.1, List.map_cons, List.all_cons, Bool.and_eq_true, if_true]
      refine ⟨ha, by rw [e.2], ?_⟩
      simp only [RepL]
      exact ⟨v, _, rfl, rx, h2⟩
    · have z2 : ¬ n = A.fn f := fun q => z (F.inj c f g hf ha.1 (q.symm.trans e.1))
      obtain ⟨i1, i2, i3⟩ := put_rep F hf rx ha.2 e.2 h2
      simp only [putFs, putVs, putF, if_neg z, if_neg z2, List.map_cons, List.all_cons, Bool.and_eq_true]
      refine ⟨⟨ha.1, i1⟩, by rw [i2, e.1], ?_⟩
      simp only [RepL]
      exact ⟨v', _, rfl, h1, i3⟩
theorem ws_setF (x : XOk A N sc X) (F : FldOk A) {f : Nat} {nm : Str} (hn : A.fn f = nm) (ho : WE A X a ea) (hv : WE A X b eb) {tp : Pos} : WSt A X (.Assign [.Attribute a nm tp] b pos) (sSetF A ea f eb) := fun wx tk po =>
  PS_imp (ps_fld (ho wx tk) (hv wx tk) swaps_attr) fun D σ H ⟨k, sw, h, hs, hh, d⟩ => by
    refine ⟨k, sw, h, hs, hh, (DenS.bind (rp := Rep A.toGx) hs d).imp fun v H1 ⟨k1, w1, h1, n1, hh1, r1, hs1, d1⟩ => ?_⟩
    refine ⟨k1, sw, h1, hs1, hh1, (DenS.bind (rp := Rep A.toGx) hs1 d1).imp fun o H2 ⟨k2, w2, h2, n2, hh2, r2, hs2, d2⟩ => ?_⟩
    split at d2
    · rename_i h4 e
      unfold fSetF at e
      split at e
      · rename_i ad
        split at e
        · rename_i c fs vs ho
          split at e
          · rename_i hl
            cases e
            obtain ⟨p1, e1, em, C, dx, fvs, ⟨ec, ea⟩, eH, ek, rr⟩ := ref_at hh2 r2 ho
            subst hn
            have lf : fvs.length = fs.length := by
              have := congrArg List.length ek
              simpa using this
            refine ⟨p1, C, dx, fvs, e1, eH, by rw [x.hK]; exact F.cls c C f ec hl.1, by rw [x.hK]; exact F.na c C f ec hl.1, by rw [lf]; omega, ?_⟩
            obtain ⟨_, od⟩ := hh2.ob _ _ _ ho em
            obtain ⟨oF, oM⟩ := od (by intro z; cases z)
            obtain ⟨i1, i2, i3⟩ := put_rep F hl.1 (r1.mono n2.le) ea ek rr
            exact d2 σ k2 _ (Nxt.put hh2 em) (hh2.put em oF ⟨C, dx, _, ⟨ec, i1⟩, upd_same, i2, i3⟩ trivial) hs2
          · cases e
        · cases e
      · cases e
    · exact d2.elim
end
end KW

set_option Elab.async false
set_option linter.all false
set_option maxRecDepth 100000
set_option maxHeartbeats 4000000
/-! loops, comprehensions, methods of lists -/
namespace KW
open PySem L2

def srcOk (src : Option Nat) (ws : List W) (h : WH) : Bool := match src with
  | none => true
  | some a => decide (h[a]? = some (.lst ws))
/-- an iterator over these items (of the logical list at src, as long as it stands) -/
structure Walks (G : Gx) (J : It) (k0 : Ka) (H0 : Hp) (ws : List W) (src : Option Nat) : Prop where
  go : ∀ i k H h, Nxt k0 H0 k H → HRep G k H h → srcOk src ws h = true → i < ws.length → J.go i H
  stop : ∀ k H h, Nxt k0 H0 k H → HRep G k H h → srcOk src ws h = true → J.stop ws.length H
  yld : ∀ i k H h x H' w, Nxt k0 H0 k H → HRep G k H h → srcOk src ws h = true → ws[i]? = some w → J.yld i H x H' → ∃ k', Nxt k H k' H' ∧ HRep G k' H' h ∧ Rep G k' w x
abbrev EI := WS → WH → R (List W × Option Nat)
def DenI (G : Gx) (wx : WX) (k : Ka) (H : Hp) (σ : St) (r : R (List W × Option Nat)) (Q : It → Hp → Prop) : Prop := match r with
  | .ok u h' => ∀ J k' H', Nxt k H k' H' → HRep G k' H' h' → Walks G J k' H' u.1 u.2 → Q J H'
  | .exc c fs vs h' => ∀ C d k' H', Nxt k H k' H' → HRep G k' H' h' → XRep G k' H' c fs vs C d → wx (.ref C) d σ H'
  | .no => False
theorem DenI.nxt {G : Gx} {wx : WX} {k k1 : Ka} {H H1 : Hp} {σ : St} {r : R (List W × Option Nat)} {Q : It → Hp → Prop} (n : Nxt k H k1 H1) (h : DenI G wx k H σ r Q) : DenI G wx k1 H1 σ r Q := by
  cases r with
  | ok u h' => exact fun J k' H' n' => h J k' H' (n.trans n')
  | exc c fs vs h' => exact fun C d k' H' n' => h C d k' H' (n.trans n')
  | no => exact h
theorem DenI.bind {α β : Type} {G : Gx} {rp : Ka → α → β → Prop} {wx : WX} {k : Ka} {H : Hp} {σ : St} {r : R α} {f : α → WH → R (List W × Option Nat)} {Q : It → Hp → Prop} (h : DenI G wx k H σ (r.bind f) Q) :
    Den G rp wx k H σ r fun v H' => ∃ k' w h', Nxt k H k' H' ∧ HRep G k' H' h' ∧ rp k' w v ∧ DenI G wx k' H' σ (f w h') Q := by
  cases r with
  | ok w h' => exact fun v k' H' n x r => ⟨k', w, h', n, x, r, DenI.nxt n h⟩
  | exc c fs vs h' => exact h
  | no => exact h
def TIx (G : Gx) (wx : WX) (ev : EI) : TI := fun σ H Q => ∃ k sw h, SRep G k sw σ ∧ HRep G k H h ∧ DenI G wx k H σ (ev sw h) Q
def WI (A : Ax) (X : Cx) (tg e : Expr) (ev : EI) : Prop := ∀ wx, Takes X wx → PI X tg e (TIx A.toGx wx ev)
theorem PI_imp {X : Cx} {tg e : Expr} {t t' : TI} (h : PI X tg e t) (i : ∀ σ H Q, t' σ H Q → t σ H Q) : PI X tg e t' := ⟨fun pins s σ H Q I q => h.run pins s σ H Q I (i σ H Q q)⟩
theorem PI_or {X : Cx} {tg e : Expr} {t t' : TI} (h : PI X tg e t) (h' : PI X tg e t') : PI X tg e (fun σ H R => t σ H R ∨ t' σ H R) := ⟨fun pins s σ H Q I q => q.elim (h.run pins s σ H Q I) (h'.run pins s σ H Q I)⟩

theorem eqbs_iff {a b : List W} : W.eqbs a b = true ↔ a = b := ⟨W.eqbs_eq, fun e => e ▸ W.eqbs_refl a⟩
section
variable {G : Gx} {k : Ka} {H : Hp} {h : WH} {p : Addr} {ws : List W} {vs : List V}
/-- a frozen list, or a logical one that stands -/
theorem walks_lst (hf : k.F p = some (.lst vs)) (r : RepL G k ws vs) : Walks G (Itl G.K p) k H ws none where
  go := fun i k' H' h' n x _ hi => ⟨vs, vs[i]'(by rw [r.length]; exact hi), SqL.of (x.sub _ _ (n.le.F _ _ hf)), by simp⟩
  stop := fun k' H' h' n x _ => ⟨vs, SqL.of (x.sub _ _ (n.le.F _ _ hf)), by rw [r.length]; exact Nat.le_refl _⟩
  yld := fun i k' H' h' x H2 w n hx _ e y => by
    obtain ⟨e1, y⟩ := y
    subst e1
    have e2 := y vs (SqL.of (hx.sub _ _ (n.le.F _ _ hf)))
    obtain ⟨v, e3, r3⟩ := (r.mono n.le).get e
    rw [e2] at e3; cases e3
    exact ⟨k', .refl _ _, hx, r3⟩
theorem walks_ref {a : Nat} (hm : k.mu[a]? = some p) : Walks G (Itl G.K p) k H ws (some a) := by
  have at_ : ∀ {k' : Ka} {H' : Hp} {h' : WH}, Nxt k H k' H' → HRep G k' H' h' → srcOk (some a) ws h' = true → ∃ vs, H' p = some (.lst vs) ∧ RepL G k' ws vs := fun {k' H' h'} n x s => by
    have ho : h'[a]? = some (.lst ws) := by simpa [srcOk] using s
    exact (x.ob a _ p ho (prefix_get n.le.mu hm)).1
  refine ⟨fun i k' H' h' n x s hi => ?_, fun k' H' h' n x s => ?_, fun i k' H' h' x H2 w n hx s e y => ?_⟩
  · obtain ⟨vs, e, r⟩ := at_ n x s
    exact ⟨vs, vs[i]'(by rw [r.length]; exact hi), SqL.of e, by simp⟩
  · obtain ⟨vs, e, r⟩ := at_ n x s
    exact ⟨vs, SqL.of e, by rw [r.length]; exact Nat.le_refl _⟩
  · obtain ⟨vs, e1, r⟩ := at_ n hx s
    obtain ⟨e2, y⟩ := y
    subst e2
    obtain ⟨v, e3, r3⟩ := r.get e
    rw [y vs (SqL.of e1)] at e3; cases e3
    exact ⟨k', .refl _ _, hx, r3⟩
theorem walks_tup (hf : SqT G.K k.F p vs) (r : RepL G k ws vs) (inj : ∀ {H' : Hp} {xs : List V}, SqT G.K H' p vs → SqT G.K H' p xs → xs = vs) : Walks G (Itt G.K p) k H ws none where
  go := fun i k' H' h' n x _ hi => ⟨vs, vs[i]'(by rw [r.length]; exact hi), Ka.Le.seqT x.sub (Ka.Le.seqT n.le.F hf), by simp⟩
  stop := fun k' H' h' n x _ => ⟨vs, Ka.Le.seqT x.sub (Ka.Le.seqT n.le.F hf), by rw [r.length]; exact Nat.le_refl _⟩
  yld := fun i k' H' h' x H2 w n hx _ e y => by
    obtain ⟨e1, y⟩ := y
    subst e1
    have e2 := y vs (Ka.Le.seqT hx.sub (Ka.Le.seqT n.le.F hf))
    obtain ⟨v, e3, r3⟩ := (r.mono n.le).get e
    rw [e2] at e3; cases e3
    exact ⟨k', .refl _ _, hx, r3⟩
def rngW (lo : Int) (n : Nat) : List W := (List.range n).map fun i => .int (lo + (i : Nat))
theorem walks_rng {lo : Int} {n : Nat} : Walks G (Itr lo n) k H (rngW lo n) none where
  go := fun i k' H' h' _ x _ hi => by
    show i < n
    simpa [rngW] using hi
  stop := fun k' H' h' _ x _ => by simp [rngW, Itr]
  yld := fun i k' H' h' x H2 w _ hx _ e y => by
    obtain ⟨e1, y⟩ := y
    subst e1; subst y
    refine ⟨k', .refl _ _, hx, ?_⟩
    have hi : i < n := by
      have := (List.getElem?_eq_some_iff.mp e).1
      simpa [rngW] using this
    simp only [rngW, List.getElem?_map, List.getElem?_range hi, Option.map_some, Option.some.injEq] at e
    subst e
    simp only [Rep]
end

section
variable {A : Ax} {X : Cx} {N : List Str} {sc : Scope} {Φ : Fns} {n : Nat} {a b c e tg : Expr} {ea eb ec : EV} {aa : EA} {p pos apos : Pos} {es : List Expr}
/-- over a list or a tuple -/
def iSeq (a : EV) : EI := fun sw h => (a sw h).bind fun w h1 => match w with
  | .tup ws => .ok (ws, none) h1
  | .lst ws => .ok (ws, none) h1
  | .ref r => (match h1[r]? with | some (.lst ws) => .ok (ws, some r) h1 | _ => .no)
  | _ => .no
theorem wi_seq (hK : X.K = A.K) (ha : WE A X a ea) : WI A X tg a (iSeq ea) := fun wx tk =>
  PI_imp (PI_or (pi_list (ha wx tk)) (pi_tup (ha wx tk))) fun σ H Q ⟨k, sw, h, hs, hh, d⟩ => by
    have d0 := DenI.bind (rp := Rep A.toGx) d
    cases er : ea sw h with
    | no => rw [er] at d0; exact d0.elim
    | exc c fs vs h1 => rw [er] at d0; exact .inl ⟨k, sw, h, hs, hh, by rw [er]; exact d0⟩
    | ok w h1 =>
      have d1 : DenI A.toGx wx k H σ (iSeq ea sw h) Q := d
      unfold iSeq at d1
      rw [er] at d1
      dsimp only [R.bind] at d1
      have E : ∀ {Q' : VK}, (∀ v k' H', Nxt k H k' H' → HRep A.toGx k' H' h1 → Rep A.toGx k' w v → Q' v H') → TEx A.toGx wx ea σ H Q' := fun q => ⟨k, sw, h, hs, hh, by rw [er]; exact q⟩
      rw [hK]
      cases w <;> dsimp only at d1 <;> first | exact d1.elim | skip
      · refine .inr (E fun v k' H' n x r => ?_)
        simp only [Rep] at r
        obtain ⟨p, vs, rfl, q, r⟩ := r
        refine ⟨p, rfl, ⟨vs, Ka.Le.seqT x.sub q⟩, d1 _ k' H' n x ⟨fun i k2 H2 h2 n2 x2 _ hi => ?_, fun k2 H2 h2 n2 x2 _ => ?_, fun i k2 H2 h2 y H3 w n2 x2 _ e yy => ?_⟩⟩
        · exact ⟨vs, vs[i]'(by rw [r.length]; exact hi), Ka.Le.seqT x2.sub (Ka.Le.seqT n2.le.F q), by simp⟩
        · exact ⟨vs, Ka.Le.seqT x2.sub (Ka.Le.seqT n2.le.F q), by rw [r.length]; exact Nat.le_refl _⟩
        · obtain ⟨e1, yy⟩ := yy
          subst e1
          have e2 := yy vs (Ka.Le.seqT x2.sub (Ka.Le.seqT n2.le.F q))
          obtain ⟨v, e3, r3⟩ := (r.mono n2.le).get e
          rw [e2] at e3; cases e3
          exact ⟨k2, .refl _ _, x2, r3⟩
      · refine .inl (E fun v k' H' n x r => ?_)
        simp only [Rep] at r
        obtain ⟨p, vs, rfl, q, r⟩ := r
        exact ⟨p, rfl, ⟨vs, SqL.of (x.sub _ _ q)⟩, d1 _ k' H' n x (walks_lst q r)⟩
      · rename_i ad
        refine .inl (E fun v k' H' n x r => ?_)
        cases ho : h1[ad]? with
        | none => rw [ho] at d1; exact d1.elim
        | some ob =>
          rw [ho] at d1
          cases ob <;> dsimp only at d1 <;> first | exact d1.elim | skip
          obtain ⟨p, rfl, em, vs, eH, rr⟩ := ref_at x r ho
          exact ⟨p, rfl, ⟨vs, SqL.of eH⟩, d1 _ k' H' n x (walks_ref em)⟩
/-- over range(a), range(a, b) -/
def iRg1 (a : EA) : EI := fun sw h => (a sw h).bind fun ws h1 => match ws with | [.int j] => if -lim ≤ j ∧ j ≤ lim then .ok (rngW 0 j.toNat, none) h1 else .no | _ => .no
def iRg2 (a : EA) : EI := fun sw h => (a sw h).bind fun ws h1 => match ws with | [.int i, .int j] => if -lim ≤ i ∧ i ≤ lim ∧ -lim ≤ j ∧ j ≤ lim then .ok (rngW i (j - i).toNat, none) h1 else .no | _ => .no
theorem TIx.args {G : Gx} {wx : WX} {ev : EA} {f : List W → WH → R (List W × Option Nat)} {σ : St} {H : Hp} {Q : It → Hp → Prop} (t : TIx G wx (fun sw h => (ev sw h).bind f) σ H Q) :
    TAx G wx ev σ H fun vs H1 => ∃ k1 ws h1, HRep G k1 H1 h1 ∧ RepL G k1 ws vs ∧ DenI G wx k1 H1 σ (f ws h1) Q := by
  obtain ⟨k, sw, h, hs, hh, d⟩ := t
  exact ⟨k, sw, h, hs, hh, (DenI.bind (rp := RepL G) d).imp fun vs H1 ⟨k1, ws, h1, n1, x1, r1, d1⟩ => ⟨k1, ws, h1, x1, r1, d1⟩⟩
theorem lim62 {j : Int} (h1 : -lim ≤ j) (h2 : j ≤ lim) : -(2 ^ 62) ≤ j ∧ j < 2 ^ 62 := by
  have : (lim : Int) = 1000000 := rfl
  omega
theorem wi_rg1 (x : XOk A N sc X) (hs : sc.names.lookup ("range" : Str) = some .globalImplicit) (hg : A.gt.lookup ("range" : Str) = some .blt) (ha : WA A X [a] aa) (h3 : nonStar a = true) : WI A X tg (.Call (.Name "range" p) [a] [] pos) (iRg1 aa) := fun wx tk =>
  PI_imp (pi_range1 (gl_of x hs) (x.glob.blt _ hg) (ha wx tk) (star_ok h3)) fun σ H Q t => by
    obtain ⟨k, sw, h, hs, hh, d⟩ := TIx.args t
    refine ⟨k, sw, h, hs, hh, d.imp fun vs H1 ⟨k1, ws, h1, x1, r1, d1⟩ => ?_⟩
    split at d1
    · split at d1
      · rename_i hl
        obtain ⟨v, rfl, r2⟩ := rep1 r1
        simp only [Rep] at r2
        subst r2
        obtain ⟨l1, l2⟩ := lim62 hl.1 hl.2
        exact ⟨_, rfl, l1, l2, d1 _ k1 H1 (.refl _ _) x1 walks_rng⟩
      · exact d1.elim
    · exact d1.elim
theorem wi_rg2 (x : XOk A N sc X) (hs : sc.names.lookup ("range" : Str) = some .globalImplicit) (hg : A.gt.lookup ("range" : Str) = some .blt) (ha : WA A X [a, b] aa) (h3 : [a, b].all nonStar = true) : WI A X tg (.Call (.Name "range" p) [a, b] [] pos) (iRg2 aa) := fun wx tk => by
  simp only [List.all_cons, List.all_nil, Bool.and_eq_true] at h3
  refine PI_imp (pi_range2 (gl_of x hs) (x.glob.blt _ hg) (ha wx tk) (by rw [star_ok h3.1, star_ok h3.2.1]; rfl) (by rw [star_ok h3.2.1]; rfl)) fun σ H Q t => ?_
  obtain ⟨k, sw, h, hs, hh, d⟩ := TIx.args t
  refine ⟨k, sw, h, hs, hh, d.imp fun vs H1 ⟨k1, ws, h1, x1, r1, d1⟩ => ?_⟩
  split at d1
  · split at d1
    · rename_i hl
      obtain ⟨v, v2, rfl, r2, r3⟩ := rep2 r1
      simp only [Rep] at r2 r3
      subst r2; subst r3
      obtain ⟨l1, l2⟩ := lim62 hl.1 hl.2.1
      obtain ⟨l3, l4⟩ := lim62 hl.2.2.1 hl.2.2.2
      exact ⟨_, _, rfl, ⟨l1, l2, l3, l4⟩, d1 _ k1 H1 (.refl _ _) x1 walks_rng⟩
    · exact d1.elim
  · exact d1.elim

/-! ### for -/
def forL (src : Option Nat) (ws0 : List W) (t : W → WS → Option WS) (body : EW) : List W → WS → WH → RS
  | [], sw, h => if srcOk src ws0 h then .ok (.next sw) h else .no
  | w :: rest, sw, h => if srcOk src ws0 h then (match t w sw with
      | none => .no
      | some sw1 => match body sw1 h with
        | .ok (.next s) h' => forL src ws0 t body rest s h'
        | .ok (.cont s) h' => forL src ws0 t body rest s h'
        | .ok (.brk s) h' => .ok (.next s) h'
        | .ok (.ret w) h' => .ok (.ret w) h'
        | .exc s c fs vs h' => .exc s c fs vs h'
        | .no => .no) else .no
def sFor (it : EI) (t : Tg) (body : EW) : EW := fun sw h => (it sw h).st sw fun x h1 => forL x.2 x.1 (tgW t) body x.1 sw h1
theorem ws_for (hc : X.calm = true) {t : Tg} {it : EI} {body : EW} {bd : List Stmt} {iter : Expr} (hi : WI A X tg iter it) (hg : WG A X tg t) (hb : WSs A X bd body) (hs : ∀ x, foldedSetIterable iter X.env x = pure x) : WSt A X (.For tg iter bd [] pos) (sFor it t body) := fun wx tk po =>
  PS_imp (ps_for po hc (hi wx tk) hg (hb wx tk po) hs) fun D σ H ⟨k, sw, h, hs, hh, d⟩ => by
    refine ⟨k, sw, h, hs, hh, ?_⟩
    unfold sFor at d
    cases er : it sw h with
    | no => rw [er] at d; exact d
    | exc c fs vs h' => rw [er] at d; exact fun C d' k' H' n x xr => d σ C d' k' H' n x (hs.mono n.le) xr
    | ok u h1 =>
      obtain ⟨ws, src⟩ := u
      rw [er] at d
      dsimp only [R.st] at d
      intro J k1 H1 n1 x1 wk
      refine ⟨fun i m σ2 H2 => m = ws.length - i ∧ i ≤ ws.length ∧ ∃ k2 sw2 h2, Nxt k1 H1 k2 H2 ∧ HRep A.toGx k2 H2 h2 ∧ SRep A.toGx k2 sw2 σ2 ∧ DenS A.toGx wx k2 H2 (forL src ws (tgW t) body (ws.drop i) sw2 h2) D,
        ⟨ws.length, rfl, Nat.zero_le _, k1, sw, h1, .refl _ _, x1, hs.mono n1.le, by simpa using d.nxt n1⟩, ?_⟩
      rintro i m σ2 H2 ⟨rfl, hi, k2, sw2, h2, n2, x2, s2, d2⟩
      by_cases hlt : i < ws.length
      · have ed : ws.drop i = ws[i] :: ws.drop (i + 1) := List.drop_eq_getElem_cons hlt
        rw [ed] at d2
        unfold forL at d2
        split at d2
        · rename_i so
          refine .inr ⟨wk.go i k2 H2 h2 n2 x2 so hlt, fun σ' H' => ∃ k' sw' h', Nxt k1 H1 k' H' ∧ HRep A.toGx k' H' h' ∧ SRep A.toGx k' sw' σ' ∧ DenS A.toGx wx k' H' (forL src ws (tgW t) body (ws.drop (i + 1)) sw' h') D,
            fun σ' H' q => ⟨ws.length - (i + 1), by omega, rfl, hlt, q⟩, fun x H3 y => ?_⟩
          obtain ⟨k3, n3, x3, r3⟩ := wk.yld i k2 H2 h2 x H3 ws[i] n2 x2 so (by simp) y
          split at d2
          · exact d2.elim
          · rename_i sw3 et
            refine ⟨k3, sw2, h2, ws[i], sw3, s2.mono n3.le, x3, r3, et, fun σ3 s3 _ => ⟨k3, sw3, h2, s3, x3, ?_⟩⟩
            have d3 := d2.nxt n3
            cases eb : body sw3 h2 with
            | no => rw [eb] at d3; exact d3
            | exc s c fs vs h' => rw [eb] at d3; exact d3
            | ok f h' =>
              rw [eb] at d3
              cases f with
              | next s => exact fun σ4 k4 H4 n4 x4 s4 => ⟨k4, s, h', (n2.trans n3).trans n4, x4, s4, d3.nxt n4⟩
              | cont s => exact fun σ4 k4 H4 n4 x4 s4 => ⟨k4, s, h', (n2.trans n3).trans n4, x4, s4, d3.nxt n4⟩
              | brk s => exact d3
              | ret w => exact d3
        · exact d2.elim
      · have ei : i = ws.length := by omega
        subst ei
        rw [List.drop_length] at d2
        unfold forL at d2
        split at d2
        · rename_i so
          exact .inl ⟨wk.stop k2 H2 h2 n2 x2 so, d2 σ2 k2 H2 (.refl _ _) x2 s2⟩
        · exact d2.elim

/-! ### while -/
def whlL (c : EB) (body : EW) : Nat → WS → WH → RS
  | 0, _, _ => .no
  | n + 1, sw, h => (c sw h).st sw fun b h1 => if b then (match body sw h1 with
      | .ok (.next s) h' => whlL c body n s h'
      | .ok (.cont s) h' => whlL c body n s h'
      | .ok (.brk s) h' => .ok (.next s) h'
      | .ok (.ret w) h' => .ok (.ret w) h'
      | .exc s c fs vs h' => .exc s c fs vs h'
      | .no => .no) else .ok (.next sw) h1
theorem ws_whl {c : Expr} {tc : EB} {body : EW} {bd : List Stmt} {fuel : Nat} (hc : WT A X c tc) (hb : WSs A X bd body) : WSt A X (.While c bd [] pos) (whlL tc body fuel) := fun wx tk po =>
  PS_imp (ps_while po (hc wx tk) (hb wx tk po)) fun D σ H ⟨k, sw, h, hs, hh, d⟩ => by
    refine ⟨fun m σ2 H2 => ∃ k2 sw2 h2, HRep A.toGx k2 H2 h2 ∧ SRep A.toGx k2 sw2 σ2 ∧ DenS A.toGx wx k2 H2 (whlL tc body m sw2 h2) D, ⟨fuel, k, sw, h, hh, hs, d⟩, ?_⟩
    rintro m σ2 H2 ⟨k2, sw2, h2, x2, s2, d2⟩
    cases m with
    | zero => exact d2.elim
    | succ m =>
      unfold whlL at d2
      refine ⟨k2, sw2, h2, s2, x2, (DenS.bind (rp := fun _ a b => a = b) s2 d2).imp fun c H3 ⟨k3, w, h3, n3, x3, e, s3, d3⟩ => ?_⟩
      subst e
      cases w with
      | true =>
        rw [if_pos rfl] at d3 ⊢
        refine ⟨fun σ' H' => ∃ k' sw' h', HRep A.toGx k' H' h' ∧ SRep A.toGx k' sw' σ' ∧ DenS A.toGx wx k' H' (whlL tc body m sw' h') D, fun σ' H' q => ⟨m, Nat.lt_succ_self _, q⟩, k3, sw2, h3, s3, x3, ?_⟩
        cases eb : body sw2 h3 with
        | no => rw [eb] at d3; exact d3
        | exc s c fs vs h' => rw [eb] at d3; exact d3
        | ok f h' =>
          rw [eb] at d3
          cases f with
          | next s => exact fun σ4 k4 H4 n4 x4 s4 => ⟨k4, s, h', x4, s4, d3.nxt n4⟩
          | cont s => exact fun σ4 k4 H4 n4 x4 s4 => ⟨k4, s, h', x4, s4, d3.nxt n4⟩
          | brk s => exact d3
          | ret w => exact d3
      | false =>
        rw [if_neg (by decide)] at d3 ⊢
        exact d3 σ2 k3 H3 (.refl _ _) x3 s3

/-! ### comprehensions -/
def wipeW (sw : WS) : List Nat → WS
  | [] => sw
  | v :: vs => (wipeW sw vs).set v none
theorem SRep.wipe {G : Gx} {k : Ka} {sw : WS} {σ : St} (h : SRep G k sw σ) : ∀ vs : List Nat, SRep G k (wipeW sw vs) (L2.wipe σ vs)
  | [] => h
  | v :: vs => by unfold wipeW L2.wipe; exact (SRep.wipe h vs).unset v
theorem wipe_off {σ σ' : St} : ∀ {vs : List Nat}, Off vs (L2.wipe σ vs) σ' → L2.wipe σ' vs = L2.wipe σ vs := by
  intro vs h
  apply List.ext_getElem?
  intro j
  by_cases hj : j ∈ vs
  · have key : ∀ (τ : St) (us : List Nat), j ∈ us → (L2.wipe τ us)[j]? = if j < τ.length then some none else none := by
      intro τ us
      induction us with
      | nil => intro h; cases h
      | cons u us ih =>
        intro hm
        unfold L2.wipe
        rw [List.getElem?_set]
        by_cases e : u = j
        · rw [if_pos e]
          simp only [L2.wipe_length, e]
        · rw [if_neg e]
          exact ih (by rcases List.mem_cons.mp hm with z | z; exact absurd z.symm e; exact z)
    rw [key σ' vs hj, key σ vs hj, h.1, L2.wipe_length]
  · rw [L2.wipe_out hj, h.2 j hj]
def compL (src : Option Nat) (ws0 : List W) (t : W → WS → Option WS) (cond : EB) (elt : EV) (sw : WS) : List W → List W → WH → R (List W)
  | [], acc, h => if srcOk src ws0 h then .ok acc h else .no
  | w :: rest, acc, h => if srcOk src ws0 h then (match t w sw with
      | none => .no
      | some sw1 => match cond sw1 h with
        | .ok true h1 => (match elt sw1 h1 with
          | .ok y h2 => if acc.length < lim then compL src ws0 t cond elt sw rest (acc ++ [y]) h2 else .no
          | _ => .no)
        | .ok false h1 => compL src ws0 t cond elt sw rest acc h1
        | _ => .no) else .no
def dComp (m : Bool) (it : EI) (t : Tg) (cond : EB) (elt : EV) (own : List Nat) : EV := fun sw h => (it sw h).bind fun x h1 => (compL x.2 x.1 (tgW t) cond elt (wipeW sw own) x.1 [] h1).bind fun ws h2 => newL m ws h2

/-! an object that is tracked and not ours: written, taken over -/
theorem HRep.off {G : Gx} {k : Ka} {H : Hp} {h : WH} {D : Addr} {o : HO} (x : HRep G k H h) (hF : k.F D = none) (hm : D ∉ k.mu) : HRep G k (upd H D o) h where
  sub := fun a u e => by
    have z : a ≠ D := fun z => by rw [z, hF] at e; cases e
    rw [upd_ne z]; exact x.sub a u e
  len := x.len
  nd := x.nd
  trk := fun a ha => by
    have z : a ≠ D := fun z => hm (by rw [← z]; exact ha)
    rw [upd_ne z]; exact x.trk a ha
  ob := fun i u q e1 e2 => by
    obtain ⟨r, n⟩ := x.ob i u q e1 e2
    have z : q ≠ D := fun z => hm (z ▸ List.mem_of_getElem? e2)
    refine ⟨r.mono (.refl k) (upd_ne z), fun d => ?_⟩
    obtain ⟨n1, n2⟩ := n d
    exact ⟨n1, by rw [upd_ne z]; exact n2⟩
theorem Nxt.off {k k1 : Ka} {H H1 : Hp} {D : Addr} {o : HO} (n : Nxt k H k1 H1) (h0 : H D = none) : Nxt k H k1 (upd H1 D o) where
  le := n.le
  oth := fun a ha na => by
    have z : a ≠ D := fun z => ha (by rw [z]; exact h0)
    rw [upd_ne z]; exact n.oth a ha na
  fro := n.fro
  new := n.new
  trk := fun a ha => by
    have z : a ≠ D := fun z => ha (by rw [z]; exact h0)
    rw [upd_ne z]; exact n.trk a ha
theorem HRep.adoptF {G : Gx} {k : Ka} {H : Hp} {h : WH} {D : Addr} {o : HO} (x : HRep G k H h) (hF : k.F D = none) (hm : D ∉ k.mu) (hD : H D = some o) : HRep G (k.froz D o) H h where
  sub := fun a u e => by
    by_cases z : a = D
    · subst z
      have e' : upd k.F a o a = some u := e
      rw [upd_same] at e'; cases e'; exact hD
    · have e' : upd k.F D o a = some u := e
      rw [upd_ne z] at e'; exact x.sub a u e'
  len := x.len
  nd := x.nd
  trk := x.trk
  ob := fun i u q e1 e2 => by
    obtain ⟨r, n⟩ := x.ob i u q e1 e2
    have z : q ≠ D := fun z => hm (z ▸ List.mem_of_getElem? e2)
    refine ⟨r.mono (le_froz hF) rfl, fun d => ?_⟩
    obtain ⟨n1, n2⟩ := n d
    exact ⟨(upd_ne z).trans n1, n2⟩
theorem Nxt.adoptF {k k1 : Ka} {H H1 : Hp} {D : Addr} {o : HO} (n : Nxt k H k1 H1) (h0 : H D = none) (hF : k1.F D = none) : Nxt k H (k1.froz D o) H1 where
  le := n.le.trans (le_froz hF)
  oth := n.oth
  fro := fun a u e => by
    by_cases z : a = D
    · subst z; exact .inr (.inl h0)
    · have e' : upd k1.F D o a = some u := e
      rw [upd_ne z] at e'; exact n.fro a u e'
  new := n.new
  trk := n.trk
theorem HRep.adoptM {G : Gx} {k : Ka} {H : Hp} {h : WH} {D : Addr} {ob : Ob} (x : HRep G k H h) (hF : k.F D = none) (hm : D ∉ k.mu) (r : ORep G (k.more D) H D ob) (m : Mut (H D)) (ht : H D ≠ none) : HRep G (k.more D) H (h ++ [ob]) where
  sub := x.sub
  len := by show (k.mu ++ [D]).length = _; simp [x.len]
  nd := by
    show (k.mu ++ [D]).Nodup
    rw [List.nodup_append]
    refine ⟨x.nd, by simp, fun a ha b hb => ?_⟩
    simp at hb; subst hb
    exact fun z => hm (z ▸ ha)
  trk := fun a ha => by
    have ha' : a ∈ k.mu ++ [D] := ha
    rcases List.mem_append.mp ha' with ha | ha
    · exact x.trk a ha
    · simp at ha; subst ha; exact ht
  ob := fun i u q e1 e2 => by
    have e2' : (k.mu ++ [D])[i]? = some q := e2
    by_cases hi : i < h.length
    · rw [List.getElem?_append_left hi] at e1
      rw [List.getElem?_append_left (by rw [x.len]; exact hi)] at e2'
      obtain ⟨r', n⟩ := x.ob i u q e1 e2'
      exact ⟨r'.mono le_more rfl, n⟩
    · rw [List.getElem?_append_right (by omega)] at e1
      rw [List.getElem?_append_right (by rw [x.len]; omega)] at e2'
      have hi0 : i - h.length = 0 := by
        have := (List.getElem?_eq_some_iff.mp e1).1
        simp at this; omega
      rw [hi0] at e1
      rw [x.len, hi0] at e2'
      simp at e1 e2'
      subst e1; subst e2'
      exact ⟨r, fun _ => ⟨hF, m⟩⟩
theorem Nxt.adoptM {k k1 : Ka} {H H1 : Hp} {D : Addr} (n : Nxt k H k1 H1) (h0 : H D = none) : Nxt k H (k1.more D) H1 where
  le := n.le.trans le_more
  oth := n.oth
  fro := n.fro
  new := fun a ha => by
    have ha' : a ∈ k1.mu ++ [D] := ha
    rcases List.mem_append.mp ha' with ha | ha
    · exact n.new a ha
    · simp at ha; subst ha; exact .inr h0
  trk := n.trk
theorem comp_core {m : Bool} {it : EI} {t : Tg} {cond : EB} {elt : EV} {own : List Nat} {wx : WX} (hsub : ∀ i ∈ t.slots, i ∈ own) {σ : St} {H : Hp} {Q : VK} (tt : TEx A.toGx wx (dComp m it t cond elt own) σ H Q) :
    tLc (TIx A.toGx wx it) (TGx A.toGx t.slots (tgW t)) (TTx A.toGx (fun _ _ _ _ => False) cond) (TEx A.toGx (fun _ _ _ _ => False) elt) own σ H Q := by
  obtain ⟨k, sw, h, hs, hh, d⟩ := tt
  refine ⟨k, sw, h, hs, hh, ?_⟩
  unfold dComp at d
  cases er : it sw h with
  | no => rw [er] at d; exact d
  | exc c fs vs h' => rw [er] at d; exact d
  | ok u h1 =>
    obtain ⟨ws, src⟩ := u
    rw [er] at d
    dsimp only [R.bind] at d
    intro J k1 H1 n1 x1 wk D hD
    have d1 := d.nxt n1
    have n0 : Nxt k1 H1 k1 (upd H1 D (.lst [])) := Nxt.other hD
    have hDF : k1.F D = none := x1.noF hD
    have hDm : D ∉ k1.mu := x1.noMu hD
    refine ⟨fun i m' H2 => m' = ws.length - i ∧ i ≤ ws.length ∧ ∃ k2 h2 acc va, Nxt k1 H1 k2 H2 ∧ k2.F D = none ∧ D ∉ k2.mu ∧ HRep A.toGx k2 H2 h2 ∧ H2 D = some (.lst va) ∧ RepL A.toGx k2 acc va ∧
        Den A.toGx (Rep A.toGx) wx k1 H1 σ ((compL src ws (tgW t) cond elt (wipeW sw own) (ws.drop i) acc h2).bind fun us h3 => newL m us h3) Q,
      ⟨ws.length, rfl, Nat.zero_le _, k1, h1, [], [], n0, hDF, hDm, x1.other hD, upd_same, by simp only [RepL], by rw [List.drop_zero]; exact d1⟩, ?_⟩
    rintro i m' H2 ⟨rfl, hi, k2, h2, acc, va, n2, f2, m2, x2, eD, ra, d2⟩
    by_cases hlt : i < ws.length
    · have ed : ws.drop i = ws[i] :: ws.drop (i + 1) := List.drop_eq_getElem_cons hlt
      rw [ed] at d2
      unfold compL at d2
      split at d2
      · rename_i so
        refine .inr ⟨wk.go i k2 H2 h2 n2 x2 so hlt, fun H' => ∃ k' h' acc' va', Nxt k1 H1 k' H' ∧ k'.F D = none ∧ D ∉ k'.mu ∧ HRep A.toGx k' H' h' ∧ H' D = some (.lst va') ∧ RepL A.toGx k' acc' va' ∧
            Den A.toGx (Rep A.toGx) wx k1 H1 σ ((compL src ws (tgW t) cond elt (wipeW sw own) (ws.drop (i + 1)) acc' h').bind fun us h3 => newL m us h3) Q,
          fun H' q => ⟨ws.length - (i + 1), by omega, rfl, hlt, q⟩, fun x H3 y => ?_⟩
        obtain ⟨k3, n3, x3, r3⟩ := wk.yld i k2 H2 h2 x H3 ws[i] n2 x2 so (by simp) y
        -- what a later state keeps of D
        have keepD : ∀ {ka : Ka} {Ha : Hp} {kb : Ka} {Hb : Hp}, Nxt ka Ha kb Hb → ka.F D = none → D ∉ ka.mu → Ha D = some (.lst va) → kb.F D = none ∧ D ∉ kb.mu ∧ Hb D = some (.lst va) := fun {ka Ha kb Hb} nn fa ma ea => by
          have hne : Ha D ≠ none := by rw [ea]; simp
          refine ⟨?_, fun z => (nn.new D z).elim ma hne, (nn.oth D hne ma).trans ea⟩
          cases q : kb.F D with
          | none => rfl
          | some o =>
            rcases nn.fro D o q with z | z | z
            · rw [fa] at z; cases z
            · exact absurd z hne
            · exact absurd z ma
        obtain ⟨f3, m3, eD3⟩ := keepD n3 f2 m2 eD
        split at d2
        · exact d2.elim
        · rename_i sw1 et
          have s3 : SRep A.toGx k3 (wipeW sw own) (L2.wipe σ own) := ((hs.mono n1.le).mono (n2.le.trans n3.le)).wipe own
          refine ⟨k3, wipeW sw own, h2, ws[i], sw1, s3, x3, r3, et, fun σ3 hs3 o3 => ⟨wipe_off ⟨o3.1, fun j hj => o3.2 j fun z => hj (hsub j z)⟩, k3, sw1, h2, hs3, x3, ?_⟩⟩
          cases ec : cond sw1 h2 with
          | no => rw [ec] at d2; exact d2.elim
          | exc c fs vs h' => rw [ec] at d2; exact d2.elim
          | ok b hc =>
            rw [ec] at d2
            intro b' k4 H4 n4 x4 eb
            subst eb
            obtain ⟨f4, m4, eD4⟩ := keepD n4 f3 m3 eD3
            cases b with
            | false =>
              rw [if_neg (by decide)]
              exact ⟨k4, hc, acc, va, (n2.trans n3).trans n4, f4, m4, x4, eD4, (ra.mono n3.le).mono n4.le, d2⟩
            | true =>
              rw [if_pos rfl]
              refine ⟨k4, sw1, hc, hs3.mono n4.le, x4, ?_⟩
              dsimp only at d2
              cases ee : elt sw1 hc with
              | no => rw [ee] at d2; exact d2.elim
              | exc c fs vs h' => rw [ee] at d2; exact d2.elim
              | ok y he =>
                rw [ee] at d2
                dsimp only at d2
                intro v k5 H5 n5 x5 r5
                obtain ⟨f5, m5, eD5⟩ := keepD n5 f4 m4 eD4
                split at d2
                · rename_i hl
                  have ra5 := ((ra.mono n3.le).mono n4.le).mono n5.le
                  have lv : va.length = acc.length := ra.length
                  exact ⟨va, eD5, by rw [lv]; exact Nat.lt_of_lt_of_le hl (lim_le (Nat.le_refl _)), k5, he, acc ++ [y], va ++ [v], (((n2.trans n3).trans n4).trans n5).off hD, f5, m5, x5.off f5 m5, upd_same, ra5.append (RepL.one r5), d2⟩
                · exact d2.elim
      · exact d2.elim
    · have ei : i = ws.length := by omega
      subst ei
      rw [List.drop_length] at d2
      unfold compL at d2
      split at d2
      · rename_i so
        refine .inl ⟨wk.stop k2 H2 h2 n2 x2 so, ?_⟩
        dsimp only [R.bind] at d2
        unfold newL at d2
        split at d2
        · refine d2 (.ref D) (k2.more D) H2 (n2.adoptM hD) (x2.adoptM f2 m2 ⟨va, eD, ra.mono le_more⟩ (by rw [eD]; trivial) (by rw [eD]; simp)) ?_
          simp only [Rep]
          refine ⟨D, rfl, ?_⟩
          show (k2.mu ++ [D])[h2.length]? = some D
          rw [← x2.len]; simp
        · refine d2 (.ref D) (k2.froz D (.lst va)) H2 (n2.adoptF hD f2) (x2.adoptF f2 m2 eD) ?_
          simp only [Rep]
          exact ⟨D, va, rfl, upd_same, ra.mono (le_froz f2)⟩
      · exact d2.elim
def WPT (A : Ax) (X : Cx) (ifs : List Expr) (ev : EB) : Prop := ∀ wx, Takes X wx → PTs X ifs (TTx A.toGx wx ev)
def bYes : EB := fun _ h => .ok true h
theorem wpt_nil : WPT A X [] bYes := fun wx tk => ⟨fun pins s σ H Q I t => by
  obtain ⟨k, sw, h, hs, hh, d⟩ := t
  exact (pts_nil (X := X)).run pins s σ H Q I (d true k H (.refl _ _) hh rfl)⟩
theorem wpt_one {tc : EB} (h : WT A X c tc) : WPT A X [c] tc := fun wx tk => pts_one (h wx tk)
section
variable {elt iter : Expr} {ifs : List Expr} {scope : Scope} {own : List (Str × Nat)} {it : EI} {t : Tg} {cond : EB} {ev : EV} {m : Bool}
theorem we_comp (x : XOk A N sc X) (hi : WI A X tg iter it) (ok : BlkOk N sc scope own) (hsub : ∀ i ∈ t.slots, i ∈ own.map (·.2))
    (hg : ∀ (s : Shared) (H : Hp) (C : Addr) (cl : List (Str × Addr)) (fp : List Addr), WG A (X.blk s H scope (compEnvC scope cl C X.env) fp) tg t)
    (ht : ∀ (s : Shared) (H : Hp) (C : Addr) (cl : List (Str × Addr)) (fp : List Addr), WPT A (X.blk s H scope (compEnvC scope cl C X.env) fp) ifs cond)
    (he : ∀ (s : Shared) (H : Hp) (C : Addr) (cl : List (Str × Addr)) (fp : List Addr), WE A (X.blk s H scope (compEnvC scope cl C X.env) fp) elt ev) (hs : ∀ x, foldedSetIterable iter X.env x = pure x) :
    WE A X (.ListComp elt [⟨tg, iter, ifs, 0⟩] scope pos) (dComp m it t cond ev (own.map (·.2))) := fun wx tk =>
  PE_imp (pe_lc x.calm (by rw [x.hN]; exact x.nd) (hi wx tk) (by rw [x.hN, x.hsc]; exact ok) hg (fun s H C cl fp => ht s H C cl fp _ takes0) (fun s H C cl fp => he s H C cl fp _ takes0) hs) fun σ H Q t => comp_core hsub t
theorem ws_setc (x : XOk A N sc X) {i : Nat} {y : Str} {py spos : Pos} (hN : N[i]? = some y) (hyl : sc.names.lookup y = some .local) (hsw : swapsWith (.ListComp elt [⟨tg, iter, ifs, 0⟩] scope pos) (some (.Name y py)) spos.line X.env = pure true) (hi : WI A X tg iter it) (ok : BlkOk N sc scope own) (hsub : ∀ i ∈ t.slots, i ∈ own.map (·.2))
    (hg : ∀ (s : Shared) (H : Hp) (C : Addr) (cl : List (Str × Addr)) (fp : List Addr), WG A (X.blk s H scope (compEnvC scope cl C X.env) fp) tg t)
    (ht : ∀ (s : Shared) (H : Hp) (C : Addr) (cl : List (Str × Addr)) (fp : List Addr), WPT A (X.blk s H scope (compEnvC scope cl C X.env) fp) ifs cond)
    (he : ∀ (s : Shared) (H : Hp) (C : Addr) (cl : List (Str × Addr)) (fp : List Addr), WE A (X.blk s H scope (compEnvC scope cl C X.env) fp) elt ev) (hs : ∀ x, foldedSetIterable iter X.env x = pure x) :
    WSt A X (.Assign [.Name y py] (.ListComp elt [⟨tg, iter, ifs, 0⟩] scope pos) spos) (sSet i (dComp m it t cond ev (own.map (·.2)))) := fun wx tk po =>
  PS_imp (ps_setLc (i := i) x.calm (by rw [x.hN]; exact x.nd) (by rw [x.hN]; exact hN) (by rw [x.hsc]; exact hyl) hsw (hi wx tk) (by rw [x.hN, x.hsc]; exact ok) hg (fun s H C cl fp => ht s H C cl fp _ takes0) (fun s H C cl fp => he s H C cl fp _ takes0) hs) fun D σ H ⟨k, sw, h, hs', hh, d⟩ => by
    refine comp_core (m := m) hsub (Q := _) ⟨k, sw, h, hs', hh, (DenS.bind (rp := Rep A.toGx) hs' d).imp fun v H1 ⟨k1, w, h1, n1, hh1, r1, hs1, d1⟩ => ?_⟩
    exact d1 _ k1 H1 (.refl _ _) hh1 (hs1.set i r1)
/-- the block's own surroundings -/
theorem XOk.blk (x : XOk A N sc X) {s : Shared} {H : Hp} {C : Addr} {cl : List (Str × Addr)} {fp : List Addr} : XOk A N (relS scope sc) (X.blk s H scope (compEnvC scope cl C X.env) fp) where
  hK := x.hK
  hN := x.hN
  nd := x.nd
  hsc := by rw [← x.hsc]; rfl
  calm := x.calm
  glob := x.glob
  un := x.un
theorem COk.blk (C' : COk A Φ n X) {s : Shared} {H : Hp} {C : Addr} {cl : List (Str × Addr)} {fp : List Addr} : COk A Φ n (X.blk s H scope (compEnvC scope cl C X.env) fp) where
  room := C'.room
  fn := C'.fn
  mt := C'.mt
  ini := C'.ini
end
end
end KW

set_option Elab.async false
set_option linter.all false
set_option maxRecDepth 100000
set_option maxHeartbeats 4000000
/-! what is not run; isinstance; range by three; signs of a text; methods of built-ins; try that runs through -/
namespace KW
open PySem L2
section
variable {A : Ax} {X : Cx} {N : List Str} {sc : Scope} {Φ : Fns} {n : Nat} {a b c e tg o : Expr} {ea eb ec : EV} {aa : EA} {p p2 pos apos : Pos} {es : List Expr}

theorem lim_lt {n : Nat} (h : n < lim) : n < sizeLine := Nat.lt_of_lt_of_le h (lim_le (Nat.le_refl _))
/-! ### not run -/
def dNo : EV := fun _ _ => .no
def sNo : EW := fun _ _ => .no
theorem we_no : WE A X e dNo := fun wx tk => ⟨fun pins s σ H Q I ⟨_, _, _, _, _, d⟩ => d.elim⟩
theorem ws_no {st : Stmt} : WSt A X st sNo := fun wx tk po => ⟨fun pins s σ H D I ⟨_, _, _, _, _, d⟩ => d.elim⟩

/-- what the body does where it raises nothing -/
def sThru (s : EW) : EW := fun sw h => match s sw h with | .exc .. => .no | r => r

/-! ### isinstance(x, T), T built in -/
def tyW (h : WH) : W → Option String
  | .non => some "NoneType"
  | .bl _ => some "bool"
  | .int _ => some "int"
  | .str _ => some "str"
  | .tup _ => some "tuple"
  | .lst _ => some "list"
  | .ref r => (match h[r]? with | some (.lst _) => some "list" | _ => none)
  | _ => none
def dIsT (T : String) (a : EV) : EV := fun sw h => (a sw h).bind fun w h1 => match (tyW h1 w).bind fun t => kitB t T with | some b => .ok (.bl b) h1 | none => .no
theorem tyW_ok {G : Gx} {k : Ka} {H : Hp} {h : WH} {w : W} {v : V} {t : String} (x : HRep G k H h) (r : Rep G k w v) (e : tyW h w = some t) : TyX G.K H v (.type t) := by
  cases w <;> simp only [tyW, Option.some.injEq, reduceCtorEq] at e
  · subst e; simp only [Rep] at r; subst r; exact .base .non
  · subst e; simp only [Rep] at r; subst r; exact .base (.bl _)
  · subst e; simp only [Rep] at r; subst r; exact .base (.int _)
  · subst e; simp only [Rep] at r; subst r; exact .base (.str _)
  · subst e
    obtain ⟨p, vs, rfl, q, _⟩ := tupAt x r
    rcases q with (q | ⟨o, q⟩) | ⟨o, its, n, q, c, _⟩
    · exact .base (.tup q)
    · exact .fTuple q
    · exact .kTuple q c
  · subst e
    simp only [Rep] at r
    obtain ⟨p, vs, rfl, q, _⟩ := r
    exact .base (.lst (x.sub _ _ q))
  · split at e
    · cases e
      rename_i ho
      obtain ⟨p, rfl, em, vs, eH, rr⟩ := ref_at x r ho
      exact .base (.lst eH)
    · cases e
theorem we_isT (x : XOk A N sc X) {T : Str} {id : String} (ha : WE A X a ea) (hs : sc.names.lookup ("isinstance" : Str) = some .globalImplicit) (hg : A.gt.lookup ("isinstance" : Str) = some .blt)
    (hs2 : sc.names.lookup T = some .globalImplicit) (hg2 : A.gt.lookup T = some .blt) (hv : bootBuiltins T = some (.type id)) (hn : T ≠ ("__name__" : Str)) (hd : (T == ("__debug__" : Str)) = false) (h3 : nonStar a = true) :
    WE A X (.Call (.Name "isinstance" p) [a, .Name T p2] [] pos) (dIsT id ea) := fun wx tk =>
  PE_imp (pe_callB call_isi (gl_of x hs) (x.glob.blt _ hg) (by rfl) (pa_cons (ha wx tk) (pa_cons (pe_bltn (v := .ty id) (gl_of x hs2) (x.glob.blt _ hg2) hv rfl hn hd) pa_nil rfl) (star_ok h3)) (by decide +kernel) (by decide +kernel) (star_ok h3) (by rfl)) fun σ H Q t => by
    obtain ⟨k, sw, h, hs, hh, d⟩ := TEx.bind t
    refine ⟨k, sw, h, hs, hh, d.imp fun v H1 ⟨k1, sw1, w, h1, hs1, hh1, r, d1⟩ => ?_⟩
    split at d1
    · rename_i b e
      obtain ⟨t, e1, e2⟩ := Option.bind_eq_some_iff.mp e
      exact ⟨v, .ty id, .type t, .type id, b, rfl, .ty id, x.hK ▸ tyW_ok hh1 r e1, kit_ty e2, d1 _ k1 H1 (.refl _ _) hh1 (by simp only [Rep])⟩
    · exact d1.elim

/-! ### range(a, b, c) -/
def rngC (lo c : Int) (n : Nat) : List W := (List.range n).map fun i => .int (lo + (i : Nat) * c)
theorem walks_rngC {G : Gx} {k : Ka} {H : Hp} {lo c : Int} {n : Nat} : Walks G (Itc lo c n) k H (rngC lo c n) none where
  go := fun i k' H' h' _ x _ hi => by
    show i < n
    simpa [rngC] using hi
  stop := fun k' H' h' _ x _ => by simp [rngC, Itc]
  yld := fun i k' H' h' x H2 w _ hx _ e y => by
    obtain ⟨e1, y⟩ := y
    subst e1; subst y
    refine ⟨k', .refl _ _, hx, ?_⟩
    have hi : i < n := by
      have := (List.getElem?_eq_some_iff.mp e).1
      simpa [rngC] using this
    simp only [rngC, List.getElem?_map, List.getElem?_range hi, Option.map_some, Option.some.injEq] at e
    subst e
    simp only [Rep]
/-- how many -/
def cntC (i j c : Int) : Nat := (Builtin.Range.rangeSize i j c).toNat
def iRg3 (a : EA) : EI := fun sw h => (a sw h).bind fun ws h1 => match ws with
  | [.int i, .int j, .int c] => if c ≠ 0 ∧ c.natAbs < 1073741824 ∧ Builtin.Range.small i j c = true ∧ 0 ≤ Builtin.Range.rangeSize i j c then .ok (rngC i c (cntC i j c), none) h1 else .no
  | _ => .no
theorem wi_rg3 (x : XOk A N sc X) (hs : sc.names.lookup ("range" : Str) = some .globalImplicit) (hg : A.gt.lookup ("range" : Str) = some .blt) (ha : WA A X [a, b, c] aa) (h3 : [a, b, c].all nonStar = true) : WI A X tg (.Call (.Name "range" p) [a, b, c] [] pos) (iRg3 aa) := fun wx tk => by
  simp only [List.all_cons, List.all_nil, Bool.and_eq_true] at h3
  refine PI_imp (pi_range3 (gl_of x hs) (x.glob.blt _ hg) (ha wx tk) (star_ok h3.1) (by rw [star_ok h3.2.1, star_ok h3.2.2.1]; rfl)) fun σ H Q t => ?_
  obtain ⟨k, sw, h, hs, hh, d⟩ := TIx.args t
  refine ⟨k, sw, h, hs, hh, d.imp fun vs H1 ⟨k1, ws, h1, x1, r1, d1⟩ => ?_⟩
  split at d1
  · split at d1
    · rename_i i j c hl
      simp only [RepL] at r1
      obtain ⟨v, _, rfl, e1, v2, _, rfl, e2, v3, _, rfl, e3, rfl⟩ := r1
      simp only [Rep] at e1 e2 e3
      subst e1; subst e2; subst e3
      exact ⟨i, j, c, _, rfl, ⟨hl.1, hl.2.1, hl.2.2.1, (Int.toNat_of_nonneg hl.2.2.2).symm⟩, d1 _ k1 H1 (.refl _ _) x1 walks_rngC⟩
    · exact d1.elim
  · exact d1.elim

/-! ### the signs of a text -/
def signs (x : Str) : List W := x.cps.toList.map fun c => .str ⟨#[c]⟩
theorem walks_str {G : Gx} {k : Ka} {H : Hp} {x : Str} : Walks G (Its x) k H (signs x) none where
  go := fun i k' H' h' _ y _ hi => by
    show i < x.cps.size
    simpa [signs] using hi
  stop := fun k' H' h' _ y _ => by simp [signs, Its]
  yld := fun i k' H' h' y H2 w _ hx _ e z => by
    obtain ⟨e1, c, e2, rfl⟩ := z
    subst e1
    refine ⟨k', .refl _ _, hx, ?_⟩
    rw [signs, List.getElem?_map, Array.getElem?_toList, e2] at e
    cases e
    simp only [Rep]
def iStrW (a : EV) : EI := fun sw h => (a sw h).bind fun w h1 => match w with | .str x => .ok (signs x, none) h1 | _ => .no
theorem wi_str (ha : WE A X a ea) : WI A X tg a (iStrW ea) := fun wx tk =>
  PI_imp (pi_str (ha wx tk)) fun σ H Q ⟨k, sw, h, hs, hh, d⟩ => by
    refine ⟨k, sw, h, hs, hh, (DenI.bind (rp := Rep A.toGx) d).imp fun v H1 ⟨k1, w, h1, n1, x1, r1, d1⟩ => ?_⟩
    split at d1
    · simp only [Rep] at r1
      exact ⟨_, r1, d1 _ k1 H1 (.refl _ _) x1 walks_str⟩
    · exact d1.elim

/-! ### methods of built-in types -/
/-- a method: what it gives of the object and the arguments -/
abbrev FM := W → List W → WH → R W
def MetW (A : Ax) (X : Cx) (T : String) (r : V → List V → Hp → VK → Prop) (f : FM) : Prop :=
  ∀ (wx : WX) (k k0 : Ka) (H0 H : Hp) (σ : St) (h0 h : WH) (w : W) (ws : List W) (v : V) (vs : List V) (Q : VK), Nxt k0 H0 k H → HRep A.toGx k0 H0 h0 → Rep A.toGx k0 w v → HRep A.toGx k H h → Rep A.toGx k w v → RepL A.toGx k ws vs →
    Den A.toGx (Rep A.toGx) wx k H σ (f w ws h) Q → r v vs H Q
/-- is it of the type? -/
def tyIs (T : String) (h : WH) : W → Bool
  | .str _ => T == "str"
  | .lst _ => T == "list"
  | .ref r => (match h[r]? with | some (.lst _) => T == "list" | _ => false)
  | _ => false
theorem tyIs_ok {G : Gx} {T : String} {k : Ka} {H : Hp} {h : WH} {w : W} {v : V} (x : HRep G k H h) (r : Rep G k w v) (e : tyIs T h w = true) : tyV G.K T v H := by
  cases w <;> simp only [tyIs, Bool.false_eq_true, beq_iff_eq] at e
  · simp only [Rep] at r; subst r; exact e
  · simp only [Rep] at r
    obtain ⟨p, vs, rfl, q, _⟩ := r
    exact .inl ⟨e, vs, SqL.of (x.sub _ _ q)⟩
  · split at e
    · rename_i ho
      obtain ⟨p, rfl, em, vs, eH, rr⟩ := ref_at x r ho
      exact .inl ⟨beq_iff_eq.mp e, vs, SqL.of eH⟩
    · cases e
def dBM (T : String) (f : FM) (o : EV) (a : EA) : EV := fun sw h => (o sw h).bind fun w h1 => if tyIs T h1 w then (a sw h1).bind fun ws h2 => f w ws h2 else .no
theorem few_ok {es : List Expr} {env : Env} {cpos : Pos} (h : es.all nonStar = true) (hl : es.length < 29) : ((backTo cpos (starEach es env)).all (fun x => !x.1) && (backToKw cpos (keywordEach [] env)).all (fun x => x.1.isSome)
      && decide (es.length + ([] : List Keyword).length + (if ([] : List Keyword).isEmpty then 0 else 1) < 30)) = true := by
  have q : ∀ {es : List Expr}, es.all nonStar = true → (backTo cpos (starEach es env)).all (fun x => !x.1) = true := by
    intro es h
    have := stars_any (pos := cpos) (env := env) h
    rw [List.all_eq_not_any_not]
    simp only [Bool.not_not]
    rw [this]; rfl
  rw [q h]
  simp only [Bool.true_and, List.length_nil, Nat.add_zero, Bool.and_eq_true]
  exact ⟨rfl, decide_eq_true (by simp; omega)⟩
theorem we_bm (hK : X.K = A.K) {T id : String} {name : Str} {r : V → List V → Hp → VK → Prop} {f : FM} (pa : PlainAttrs T) (slot : Slot T name id) (hty : typeOf (.builtin id) = pure (.type "method_descriptor")) (hm : MtR X id r) (hf : MetW A X T r f)
    (ho : WE A X o ea) (ha : WA A X (e :: es) aa) (h0 : notCall0 o = true) (h3 : (e :: es).all nonStar = true) (hl : (e :: es).length < 29) (hline : (apos.endLine == pos.line) = true) :
    WE A X (.Call (.Attribute o name apos) (e :: es) [] pos) (dBM T f ea aa) := fun wx tk => by
  have h3' := h3
  simp only [List.all_cons, Bool.and_eq_true] at h3
  refine PE_imp (pe_bm pa slot hty hm (ho wx tk) (ha wx tk) (attrBase h0) (few_ok h3' hl) hline (star_ok h3.1) (stars_any h3.2)) fun σ H Q t => ?_
  obtain ⟨k, sw, h, hs, hh, d⟩ := TEx.bind t
  refine ⟨k, sw, h, hs, hh, d.imp fun v H1 ⟨k1, sw1, w, h1, hs1, hh1, r1, d1⟩ => ?_⟩
  split at d1
  · rename_i et
    refine ⟨hK ▸ tyIs_ok hh1 r1 et, ?_⟩
    obtain ⟨k2, sw2, h2, s2, x2, d2⟩ := TAx.bind (σ := σ) (H := H1) (Q := Q) (wx := wx) (G := A.toGx) (a := aa) (f := fun _ ws h2 => f w ws h2) ⟨k1, sw1, h1, hs1, hh1, d1⟩
    exact ⟨k1, sw1, h1, hs1, hh1, (Den.bind (rp := RepL A.toGx) d1).imp fun vs H2 ⟨k3, ws, h3, n3, x3, r3, d3⟩ => hf wx k3 k1 H1 H2 σ h1 h3 w ws v vs Q n3 hh1 r1 x3 (r1.mono n3.le) r3 d3⟩
  · exact d1.elim
theorem we_bm0 (hK : X.K = A.K) {T id : String} {name : Str} {r : V → List V → Hp → VK → Prop} {f : FM} (pa : PlainAttrs T) (slot : Slot T name id) (hty : typeOf (.builtin id) = pure (.type "method_descriptor")) (hm : MtR X id r) (hf : MetW A X T r f)
    (ho : WE A X o ea) (h0 : notCall0 o = true) (hline : (apos.endLine == pos.line) = true) :
    WE A X (.Call (.Attribute o name apos) [] [] pos) (dBM T f ea aNil) := fun wx tk => by
  refine PE_imp (pe_bm0 pa slot hty hm (ho wx tk) (attrBase h0) hline) fun σ H Q t => ?_
  obtain ⟨k, sw, h, hs, hh, d⟩ := TEx.bind t
  refine ⟨k, sw, h, hs, hh, d.imp fun v H1 ⟨k1, sw1, w, h1, hs1, hh1, r1, d1⟩ => ?_⟩
  split at d1
  · rename_i et
    exact ⟨hK ▸ tyIs_ok hh1 r1 et, hf wx k1 k1 H1 H1 σ h1 h1 w [] v [] Q (.refl _ _) hh1 r1 hh1 r1 (by simp only [RepL]) d1⟩
  · exact d1.elim

def fAppend : FM := fun w ws h => match w, ws with
  | .ref r, [x] => (match h[r]? with | some (.lst us) => if us.length < lim then .ok .non (h.set r (.lst (us ++ [x]))) else .no | _ => .no)
  | _, _ => .no
theorem RepL.snoc {G : Gx} {k : Ka} : ∀ {ws : List W} {vs : List V} {w : W} {v : V}, RepL G k ws vs → Rep G k w v → RepL G k (ws ++ [w]) (vs ++ [v]) := fun h r => h.append (RepL.one r)
theorem mw_append : MetW A X "list" rAppend fAppend := by
  intro wx k k0 H0 H σ h0 h w ws v vs Q n x0 r0 x r rs d
  unfold fAppend at d
  split at d
  · rename_i r1 y
    split at d
    · rename_i us ho
      split at d
      · rename_i hl
        obtain ⟨z, rfl, rz⟩ := rep1 rs
        obtain ⟨p1, rfl, em, xs, eH, rr⟩ := ref_at x r ho
        obtain ⟨_, od⟩ := x.ob _ _ _ ho em
        obtain ⟨oF, oM⟩ := od (by intro z; cases z)
        refine ⟨p1, xs, z, rfl, rfl, eH, by rw [rr.length]; exact lim_lt hl, ?_⟩
        exact d .non k _ (Nxt.put x em) (x.put em oF ⟨_, upd_same, rr.snoc rz⟩ trivial) (by simp only [Rep])
      · exact d.elim
    · exact d.elim
  · exact d.elim

def fExtend : FM := fun w ws h => match w, ws with
  | .ref r, [y] => (match h[r]?, lstOf h y with | some (.lst us), some zs => if us.length + zs.length ≤ lim then .ok .non (h.set r (.lst (us ++ zs))) else .no | _, _ => .no)
  | _, _ => .no
theorem mw_extend : MetW A X "list" rExtend fExtend := by
  intro wx k k0 H0 H σ h0 h w ws v vs Q n x0 r0 x r rs d
  unfold fExtend at d
  split at d
  · rename_i r1 y
    split at d
    · rename_i us zs ho ez
      split at d
      · rename_i hl
        obtain ⟨z, rfl, rz⟩ := rep1 rs
        obtain ⟨p1, rfl, em, xs, eH, rr⟩ := ref_at x r ho
        obtain ⟨p2, ys, rfl, q2, r2⟩ := listAt x rz ez
        obtain ⟨_, od⟩ := x.ob _ _ _ ho em
        obtain ⟨oF, oM⟩ := od (by intro z; cases z)
        refine ⟨p1, p2, xs, ys, rfl, rfl, eH, q2, by rw [rr.length, r2.length]; exact lim_le hl, ?_⟩
        exact d .non k _ (Nxt.put x em) (x.put em oF ⟨_, upd_same, rr.append r2⟩ trivial) (by simp only [Rep])
      · exact d.elim
    · exact d.elim
  · exact d.elim
def fPop : FM := fun w ws h => match w, ws with
  | .ref r, [] => (match h[r]? with | some (.lst us) => (match us[us.length - 1]? with | some x => .ok x (h.set r (.lst us.dropLast)) | none => .no) | _ => .no)
  | _, _ => .no
theorem RepL.dropLast {G : Gx} {k : Ka} {ws : List W} {vs : List V} (h : RepL G k ws vs) : RepL G k ws.dropLast vs.dropLast := by
  rw [List.dropLast_eq_take, List.dropLast_eq_take, h.length]; exact h.take _
theorem mw_pop : MetW A X "list" rPop fPop := by
  intro wx k k0 H0 H σ h0 h w ws v vs Q n x0 r0 x r rs d
  unfold fPop at d
  split at d
  · rename_i r1
    split at d
    · rename_i us ho
      split at d
      · rename_i y ey
        simp only [RepL] at rs
        subst rs
        obtain ⟨p1, rfl, em, xs, eH, rr⟩ := ref_at x r ho
        obtain ⟨_, od⟩ := x.ob _ _ _ ho em
        obtain ⟨oF, oM⟩ := od (by intro z; cases z)
        obtain ⟨u, e1, ru⟩ := rr.get ey
        refine ⟨p1, xs, u, rfl, rfl, eH, by rw [rr.length]; exact e1, ?_⟩
        exact d u k _ (Nxt.put x em) (x.put em oF ⟨_, upd_same, rr.dropLast⟩ trivial) ru
      · exact d.elim
    · exact d.elim
  · exact d.elim
def fPopAt : FM := fun w ws h => match w, ws with
  | .ref r, [.int i] => (match h[r]? with
    | some (.lst us) => if -(2 ^ 63) ≤ i ∧ i < 2 ^ 63 then (match seqIndex? i us.length with
      | some j => (match us[j]? with | some x => .ok x (h.set r (.lst (us.eraseIdx j))) | none => .no)
      | none => .no) else .no
    | _ => .no)
  | _, _ => .no
theorem mw_popAt : MetW A X "list" rPopAt fPopAt := by
  intro wx k k0 H0 H σ h0 h w ws v vs Q n x0 r0 x r rs d
  unfold fPopAt at d
  split at d
  · rename_i r1 i
    split at d
    · rename_i us ho
      split at d
      · rename_i hi
        split at d
        · rename_i j ej
          split at d
          · rename_i y ey
            obtain ⟨z, rfl, rz⟩ := rep1 rs
            simp only [Rep] at rz
            subst rz
            obtain ⟨p1, rfl, em, xs, eH, rr⟩ := ref_at x r ho
            obtain ⟨_, od⟩ := x.ob _ _ _ ho em
            obtain ⟨oF, oM⟩ := od (by intro z; cases z)
            obtain ⟨u, e1, ru⟩ := rr.get ey
            refine ⟨p1, xs, i, j, u, rfl, rfl, eH, hi.1, hi.2, by rw [rr.length]; exact ej, e1, ?_⟩
            exact d u k _ (Nxt.put x em) (x.put em oF ⟨_, upd_same, rr.eraseIdx j⟩ trivial) ru
          · exact d.elim
        · exact d.elim
      · exact d.elim
    · exact d.elim
  · exact d.elim
/-- texts of values -/
def strsOf : List W → Option (List Str)
  | [] => some []
  | .str s :: r => (strsOf r).map (s :: ·)
  | _ :: _ => none
theorem strs_rep {G : Gx} {k : Ka} : ∀ {ws : List W} {vs : List V} {ss : List Str}, RepL G k ws vs → strsOf ws = some ss → vs = ss.map V.str
  | [], vs, ss, r, e => by
    simp only [strsOf, Option.some.injEq] at e
    simp only [RepL] at r
    subst e; subst r; rfl
  | w :: ws, vs, ss, r, e => by
    cases w <;> simp only [strsOf, reduceCtorEq, Option.map_eq_some_iff] at e
    obtain ⟨ts, e1, rfl⟩ := e
    simp only [RepL] at r
    obtain ⟨v, vr, rfl, hv, h2⟩ := r
    simp only [Rep] at hv
    subst hv
    rw [strs_rep h2 e1]; rfl
def fJoin : FM := fun w ws h => match w, ws with
  | .str a, [y] => (match (seqOf h y).bind strsOf with | some ss => if (ss.map (·.length)).sum + ss.length * a.length ≤ lim then .ok (.str (Txt.join a ss)) h else .no | none => .no)
  | _, _ => .no
theorem mw_join (hK : X.K = A.K) : MetW A X "str" (fun x xs H Q => ∃ a p, ∃ ys : List Str, x = .str a ∧ xs = [.ref p] ∧ (SqL X.K H p (ys.map V.str) ∨ SqT X.K H p (ys.map V.str)) ∧
    (ys.map (·.length)).sum + ys.length * a.length ≤ 16777216 ∧ Q (.str (Txt.join a ys)) H) fJoin := by
  intro wx k k0 H0 H σ h0 h w ws v vs Q n x0 r0 x r rs d
  unfold fJoin at d
  split at d
  · split at d
    · rename_i ss e
      split at d
      · rename_i hl
        obtain ⟨us, e1, e2⟩ := Option.bind_eq_some_iff.mp e
        obtain ⟨z, rfl, rz⟩ := rep1 rs
        simp only [Rep] at r
        subst r
        obtain ⟨p, xs, rfl, q, r2⟩ := seqAt x rz e1
        cases strs_rep r2 e2
        refine ⟨_, p, ss, rfl, rfl, hK ▸ q, Nat.le_trans hl (by decide), den_val x (by simp only [Rep]) d⟩
      · exact d.elim
    · exact d.elim
  · exact d.elim
end
end KW

set_option Elab.async false
set_option linter.all false
set_option maxRecDepth 100000
set_option maxHeartbeats 4000000
/-! defs, the whole program, the law's end -/
namespace KW
open PySem L2

/-- a def, run: its slots laid, its result without what nothing names -/
def runF (slots np : Nat) (D : EW) (args : List W) (h : WH) : R W :=
  if args.length = np then (match D (args.map some ++ List.replicate (slots - np) none) h with
    | .ok (.ret w) h' => .ok w (gc h.length w h h')
    | .ok (.next _) h' => .ok .non (gc h.length .non h h')
    | .exc _ c fs vs h' => .exc c fs vs h'
    | _ => .no)
  else .no
/-- the program: how deep, which def -/
def sem (D : Fns → Nat → EW) (sl np : Nat → Nat) : Nat → Fns
  | 0 => fun _ _ _ => .no
  | k + 1 => fun f args h => runF (sl f) (np f) (D (sem D sl np k) f) args h

theorem srep_start {G : Gx} {k : Ka} {ws : List W} {vs : List V} {m : Nat} (r : RepL G k ws vs) : SRep G k (ws.map some ++ List.replicate m none) (vs.map some ++ List.replicate m none) := by
  refine ⟨by simp [r.length], fun i w e => ?_⟩
  have hi : i < ws.length := by
    by_cases z : i < ws.length
    · exact z
    · rw [List.getElem?_append_right (by simp; omega)] at e
      have := List.mem_of_getElem? e
      simp at this
  rw [List.getElem?_append_left (by simpa using hi), List.getElem?_map] at e
  have e2 : ws[i]? = some w := by
    cases h : ws[i]? with
    | none => rw [h] at e; cases e
    | some u => rw [h] at e; cases e; rfl
  obtain ⟨v, e1, rv⟩ := r.get e2
  refine ⟨v, ?_, rv⟩
  rw [List.getElem?_append_left (by rw [List.length_map, r.length]; exact hi), List.getElem?_map, e1]; rfl

structure FnF (A : Ax) (prog : Program) (w : World) (mg : Str → Option Value) (D : Fns → Nat → EW) (sl np : Nat → Nat) (f : Nat) (a : Addr) (fd : FuncData) (ps : List Str) : Prop where
  ex : ∃ x qual st N, Fun A.K x qual st a fd ∧ FnScope N ps (defScope st) ∧ N.length = sl f ∧ ps.length = np f ∧ ∀ (Φ : Fns) (n : Nat) (X : Cx), StOk A N (defScope st) X → COk A Φ n X → WSs A X (defBody st) (D Φ f)
  bi : Binds A.K fd ps []

structure PgOk (A : Ax) (prog : Program) (w : World) (mg : Str → Option Value) (D : Fns → Nat → EW) (sl np : Nat → Nat) (fd : Nat → FuncData) (ps : Nat → List Str) : Prop where
  glob : GlobOk A mg
  fns : ∀ f a, A.fa f = some a → FnF A prog w mg D sl np f a (fd f) (ps f)
  mt : ∀ c m f, A.mt c m = some f → ∃ C a, A.cl c = some C ∧ A.fa f = some a ∧ Meth A.K C (A.mn m) a ∧ Cls A.K C ∧ ∀ g, A.lay c g = true → A.fn g ≠ A.mn m
  ini : ∀ c f, A.ini c = some f → ∃ C a, A.cl c = some C ∧ A.fa f = some a ∧ Mk A.K C a

section
variable {A : Ax} {prog : Program} {w : World} {mg : Str → Option Value} {base : Heap} {D : Fns → Nat → EW} {sl np : Nat → Nat} {fd : Nat → FuncData} {ps : Nat → List Str}
theorem sem_ok (E : PgOk A prog w mg D sl np fd ps) : ∀ k f a, A.fa f = some a → FnOk prog w A.K mg base (L2.CX prog w) (2 * k) a (fd f) (ps f) (spF A.toGx (sem D sl np k f))
  | 0, f, a, hf => ⟨fun vs H Q _ ⟨_, _, _, _, _, d⟩ => d.elim, fun _ _ _ _ _ _ _ _ _ _ _ _ _ ⟨_, _, _, _, _, d⟩ => d.elim⟩
  | k + 1, f, a, hf => by
    obtain ⟨⟨x, qual, st, N, F, S, e1, e2, body⟩, _⟩ := E.fns f a hf
    have ih := sem_ok E k
    have e3 : 2 * (k + 1) = (2 * k + 1) + 1 := by omega
    rw [e3]
    refine F.okX S (fun vs H Q Ex ⟨k1, ws, h, r, x, d⟩ => ?_) fun cdv Ar outer s H vs Q Ex hr ⟨k1, ws, h, r, x, d⟩ => ?_
    · by_cases z : ws.length = np f
      · rw [r.length, z, e2]
      · simp only [sem, runF, if_neg z] at d
        exact d.elim
    · by_cases z : ws.length = np f
      · have X1 : StOk A N (defScope st) (cxOf (L2.CX prog w) prog w A.K mg base N qual (defScope st) a cdv Ar outer s H Ex) :=
          { hK := rfl, hN := rfl, nd := S.nd, hsc := rfl, calm := rfl, glob := E.glob, un := by have := hr.un; show (Ar.deeper _).units + 70 < _; omega, fn := fun _ => rfl }
        have C1 : COk A (sem D sl np k) (2 * k) (cxOf (L2.CX prog w) prog w A.K mg base N qual (defScope st) a cdv Ar outer s H Ex) :=
          { room := hr, fn := fun g b hb => ⟨fd g, ps g, ih g b hb, by obtain ⟨⟨_, _, _, _, F', _⟩, _⟩ := E.fns g b hb; exact F'.kp, (E.fns g b hb).bi⟩, mt := E.mt, ini := E.ini }
        have tk := L2.takes_of (X := cxOf (L2.CX prog w) prog w A.K mg base N qual (defScope st) a cdv Ar outer s H Ex) rfl rfl rfl rfl
        refine ⟨_, (body _ _ _ X1 C1) _ tk (L2.passes_of rfl), k1, ws.map some ++ List.replicate (sl f - np f) none, h, ?_, x, ?_⟩
        · show SRep A.toGx k1 (ws.map some ++ List.replicate (sl f - np f) none) (vs.map some ++ List.replicate (N.length - vs.length) none)
          rw [e1, r.length, z]
          exact srep_start r
        · simp only [sem, runF, if_pos z] at d
          cases er : D (sem D sl np k) f (ws.map some ++ List.replicate (sl f - np f) none) h with
          | no => rw [er] at d; exact d.elim
          | exc s' c fs us h' =>
            rw [er] at d
            exact fun σ' C dd k' H' n' x' _ xr => d C dd k' H' n' x' xr
          | ok fl h' =>
            rw [er] at d
            cases fl with
            | next s' =>
              intro σ' k' H' n' x' _
              obtain ⟨k2, n2, x2, r2⟩ := x.gc x' n' (w := .non) (v := .non) (by simp only [Rep])
              exact d _ k2 H' n2 x2 r2
            | ret u =>
              intro v k' H' n' x' rv
              obtain ⟨k2, n2, x2, r2⟩ := x.gc x' n' rv
              exact d _ k2 H' n2 x2 r2
            | brk s' => exact d.elim
            | cont s' => exact d.elim
      · simp only [sem, runF, if_neg z] at d
        exact d.elim
end

/-- what is asked of the law's def -/
def spL (K : PySem.W.Frag) : Sp := fun vs H Q E => ∃ (a : Addr) (ns : List Int), vs = [V.ref a] ∧ SqL K H a (ns.map V.int) ∧ ns.length ≤ 63 ∧ ∀ v H', v = .bl true → Q v H'
theorem spL_of {G : Gx} {φ : List W → WH → R W} (h : ∀ ns : List Int, ns.length ≤ 63 → ∃ h', φ [.scr ns] [] = .ok (.bl true) h') : ∀ vs H Q E, spL G.K vs H Q E → spF G φ vs H Q E := by
  rintro vs H Q E ⟨a, ns, rfl, q, hl, hq⟩
  obtain ⟨h', e⟩ := h ns hl
  refine ⟨⟨H, []⟩, [.scr ns], [], ?_, ⟨fun a o z => z, rfl, List.nodup_nil, fun a z => by simp at z, fun i o p e1 => by simp at e1⟩, ?_⟩
  · refine RepL.one ?_
    simp only [Rep]
    exact ⟨a, rfl, q⟩
  · rw [e]
    intro v k' H' _ _ r
    simp only [Rep] at r
    exact hq v H' r
theorem walk {l : PySem.W.OpenLaw} {q : Program} {loose : List Str} {XP : (Str → Option Value) → Heap → Prop} {YP : World → Heap → Prop} {d : DefRec} {K : Params → PySem.W.Frag} {x : Str} {k : Nat} (hn : l.most = some 63) (hdf : d.params.defaults = []) (hr : Room k callerA)
    (hY : ∀ (w : World) (h : Heap), YP w h → (K w.params).In h)
    (F : ∀ (w : World) (mg : Str → Option Value) (fa : Addr) (h : Heap), (K w.params).In h → h.Ns mainGlobals mg → mg d.name = some (.ref fa) →
      ∃ fd : FuncData, (∀ (s : Shared) (u : Value), BindsTo s fd ⟨[u], []⟩ [(x, u)]) ∧ ∀ base : Heap, (K w.params).In base → base.Ns mainGlobals mg → FnOk l.prog w (K w.params) mg base (L2.CX l.prog w) k fa fd [x] (spL (K w.params))) :
    PySem.W.WalkO q loose XP YP l.row.toRowW d [] (fun f vs => PySem.call f vs) :=
  L2.walk_of (n := 63) (k := k) (x := x) (CX := fun w => L2.CX l.prog w) (sp := fun w => spL (K w.params)) hn (by decide) hdf hr hY F (fun _ _ a ns hl _ hS => ⟨a, ns, rfl, hS, hl, fun _ _ e => e⟩)
    fun _ _ _ _ _ ⟨_, _, _, _, _, _, _, _, _, _, _, _, z⟩ => z
end KW

set_option Elab.async false
set_option linter.all false
set_option maxRecDepth 100000
set_option maxHeartbeats 4000000
/-! the rules as the printer names them: one look each -/
namespace KW
open PySem L2
def Gk.same : Gk → Gk → Bool
  | .fn a, .fn b => decide (a = b)
  | .cls a, .cls b => decide (a = b)
  | .cst a, .cst b => decide (a = b)
  | .blt, .blt => true
  | _, _ => false
theorem Gk.same_ok : ∀ {a b : Gk}, Gk.same a b = true → a = b
  | .fn a, .fn b, h => by rw [of_decide_eq_true h]
  | .cls a, .cls b, h => by rw [of_decide_eq_true h]
  | .cst a, .cst b, h => by rw [of_decide_eq_true h]
  | .blt, .blt, _ => rfl
  | .fn _, .cls _, h => by cases h
  | .fn _, .cst _, h => by cases h
  | .fn _, .blt, h => by cases h
  | .cls _, .fn _, h => by cases h
  | .cls _, .cst _, h => by cases h
  | .cls _, .blt, h => by cases h
  | .cst _, .fn _, h => by cases h
  | .cst _, .cls _, h => by cases h
  | .cst _, .blt, h => by cases h
  | .blt, .fn _, h => by cases h
  | .blt, .cls _, h => by cases h
  | .blt, .cst _, h => by cases h
def gtB (t : List (Str × Gk)) (n : Str) (g : Gk) : Bool := match t.lookup n with | some u => Gk.same u g | none => false
theorem gtB_ok {t : List (Str × Gk)} {n : Str} {g : Gk} (h : gtB t n g = true) : t.lookup n = some g := by
  unfold gtB at h
  split at h
  · rename_i u e
    rw [e, Gk.same_ok h]
  · cases h
/-- what a name of the code is -/
def varB (N : List Str) (sc : Scope) (i : Nat) (n : Str) : Bool := decide (N[i]? = some n) && (decide (sc.names.lookup n = some .local) || decide (sc.names.lookup n = some .cell) || decide (sc.names.lookup n = some .free)) && !(n == ("__debug__" : Str)) && !(n == ("__classdict__" : Str))
def locB (N : List Str) (sc : Scope) (i : Nat) (n : Str) : Bool := decide (N[i]? = some n) && (decide (sc.names.lookup n = some .local) || decide (sc.names.lookup n = some .cell))
def cmpB (N : List Str) (sc : Scope) (i : Nat) (n : Str) : Bool := decide (N[i]? = some n) && decide (sc.names.lookup n = some .local)
def gloB (sc : Scope) (n : Str) : Bool := decide (sc.names.lookup n = some .globalImplicit) && !(n == ("__debug__" : Str)) && !(n == ("__name__" : Str))
section
variable {A : Ax} {X : Cx} {N : List Str} {sc : Scope} {Φ : Fns} {n : Nat} {a b c e tg o : Expr} {ea eb ec : EV} {aa : EA} {p p2 pos apos : Pos} {es : List Expr}
theorem gloB_ok {nm : Str} (h : gloB sc nm = true) : sc.names.lookup nm = some .globalImplicit ∧ (nm == ("__debug__" : Str)) = false ∧ nm ≠ ("__name__" : Str) := by
  unfold gloB at h
  simp only [Bool.and_eq_true, decide_eq_true_eq, Bool.not_eq_true'] at h
  exact ⟨h.1.1, h.1.2, fun z => by rw [z] at h; simp at h⟩
theorem we_v (x : XOk A N sc X) (i : Nat) {nm : Str} (h : varB N sc i nm = true) : WE A X (.Name nm pos) (dVar i) := by
  unfold varB at h
  simp only [Bool.and_eq_true, decide_eq_true_eq, Bool.not_eq_true', Bool.or_eq_true] at h
  obtain ⟨⟨⟨h1, h2⟩, h3⟩, h4⟩ := h
  exact we_var x h1 (h2.elim (fun q => q.elim .inl fun q => .inr (.inl q)) fun q => .inr (.inr q)) h3 h4
theorem we_k (x : XOk A N sc X) {nm : Str} {w : W} (hg : A.gt.lookup nm = some (.cst w)) (h : gloB sc nm = true) : WE A X (.Name nm pos) (dC w) := we_cst x hg (gloB_ok h).1 (gloB_ok h).2.1
theorem wa_c (h1 : WE A X e ea) (h2 : WA A X es aa) (hs : nonStar e = true) : WA A X (e :: es) (aCons ea aa) := wa_cons h1 h2 (star_ok hs)
theorem we_f (x : XOk A N sc X) (C : COk A Φ n X) (f : Nat) {nm : Str} (hg : A.gt.lookup nm = some (.fn f)) (h : gloB sc nm = true) (ha : WA A X (e :: es) aa) (h3 : (e :: es).all nonStar = true) : WE A X (.Call (.Name nm p) (e :: es) [] pos) (dCall (Φ f) aa) :=
  we_call x C (gloB_ok h).1 hg (gloB_ok h).2.1 ha h3
theorem we_f0 (x : XOk A N sc X) (C : COk A Φ n X) (f : Nat) {nm : Str} (hg : A.gt.lookup nm = some (.fn f)) (h : gloB sc nm = true) : WE A X (.Call (.Name nm p) [] [] pos) (dCall (Φ f) aNil) := we_call0 x C (gloB_ok h).1 hg (gloB_ok h).2.1
theorem we_mk (x : XOk A N sc X) (C : COk A Φ n X) {c f : Nat} {nm : Str} (hi : A.ini c = some f) (hg : A.gt.lookup nm = some (.cls c)) (h : gloB sc nm = true) (ha : WA A X (e :: es) aa) (h3 : (e :: es).all nonStar = true) : WE A X (.Call (.Name nm p) (e :: es) [] pos) (dMake A Φ c aa) :=
  we_make x C hi (gloB_ok h).1 hg (gloB_ok h).2.1 ha h3
/-! built-ins -/
theorem bB (x : XOk A N sc X) {nm : Str} {id : String} {r : List V → Hp → VK → Prop} {f : List W → WH → R W} (hc : CallR X (.builtin id) r) (hf : CallW A X r f) (hv : bootBuiltins nm = some (.builtin id)) (hg : A.gt.lookup nm = some .blt) (h : gloB sc nm = true) (ha : WA A X (e :: es) aa) (h3 : (e :: es).all nonStar = true) :
    WE A X (.Call (.Name nm p) (e :: es) [] pos) (dBi f aa) := we_biB x hc hf (gloB_ok h).1 hg hv ha (gloB_ok h).2.2 (gloB_ok h).2.1 h3
theorem bT (x : XOk A N sc X) {nm : Str} {id : String} {r : List V → Hp → VK → Prop} {f : List W → WH → R W} (hc : CallR X (.type id) r) (hf : CallW A X r f) (hv : bootBuiltins nm = some (.type id)) (hg : A.gt.lookup nm = some .blt) (h : gloB sc nm = true) (ha : WA A X (e :: es) aa) (h3 : (e :: es).all nonStar = true) :
    WE A X (.Call (.Name nm p) (e :: es) [] pos) (dBi f aa) := we_biT x hc hf (gloB_ok h).1 hg hv ha (gloB_ok h).2.2 (gloB_ok h).2.1 h3
theorem b_len (x : XOk A N sc X) (hg : A.gt.lookup ("len" : Str) = some .blt) (h : gloB sc ("len" : Str) = true) (ha : WA A X (e :: es) aa) (h3 : (e :: es).all nonStar = true) : WE A X (.Call (.Name "len" p) (e :: es) [] pos) (dBi bLen aa) := bB x call_len (cw_len x.hK) (by rfl) hg h ha h3
theorem b_abs (x : XOk A N sc X) (hg : A.gt.lookup ("abs" : Str) = some .blt) (h : gloB sc ("abs" : Str) = true) (ha : WA A X (e :: es) aa) (h3 : (e :: es).all nonStar = true) : WE A X (.Call (.Name "abs" p) (e :: es) [] pos) (dBi bAbs aa) := bB x call_abs cw_abs (by rfl) hg h ha h3
theorem b_max (x : XOk A N sc X) (hg : A.gt.lookup ("max" : Str) = some .blt) (h : gloB sc ("max" : Str) = true) (ha : WA A X (e :: es) aa) (h3 : (e :: es).all nonStar = true) : WE A X (.Call (.Name "max" p) (e :: es) [] pos) (dBi bMax2 aa) := bB x (call_max2 x.calm) cw_max2 (by rfl) hg h ha h3
theorem b_min (x : XOk A N sc X) (hg : A.gt.lookup ("min" : Str) = some .blt) (h : gloB sc ("min" : Str) = true) (ha : WA A X (e :: es) aa) (h3 : (e :: es).all nonStar = true) : WE A X (.Call (.Name "min" p) (e :: es) [] pos) (dBi bMin2 aa) := bB x (call_min2 x.calm) cw_min2 (by rfl) hg h ha h3
theorem b_int (x : XOk A N sc X) (hg : A.gt.lookup ("int" : Str) = some .blt) (h : gloB sc ("int" : Str) = true) (ha : WA A X (e :: es) aa) (h3 : (e :: es).all nonStar = true) : WE A X (.Call (.Name "int" p) (e :: es) [] pos) (dBi bInt aa) := bT x call_int1 cw_int (by rfl) hg h ha h3
theorem b_list (x : XOk A N sc X) (m : Bool) (hg : A.gt.lookup ("list" : Str) = some .blt) (h : gloB sc ("list" : Str) = true) (ha : WA A X (e :: es) aa) (h3 : (e :: es).all nonStar = true) : WE A X (.Call (.Name "list" p) (e :: es) [] pos) (dBi (bList m) aa) := bT x call_list_of (cw_list x.hK) (by rfl) hg h ha h3
theorem b_tuple (x : XOk A N sc X) (hg : A.gt.lookup ("tuple" : Str) = some .blt) (h : gloB sc ("tuple" : Str) = true) (ha : WA A X (e :: es) aa) (h3 : (e :: es).all nonStar = true) : WE A X (.Call (.Name "tuple" p) (e :: es) [] pos) (dBi bTup aa) := bT x call_tuple_of (cw_tup x.hK) (by rfl) hg h ha h3
theorem b_all (x : XOk A N sc X) (hg : A.gt.lookup ("all" : Str) = some .blt) (h : gloB sc ("all" : Str) = true) (ha : WA A X (e :: es) aa) (h3 : (e :: es).all nonStar = true) : WE A X (.Call (.Name "all" p) (e :: es) [] pos) (dBi bAll aa) := bB x (cr_all x.calm) (cw_all x.hK) (by rfl) hg h ha h3
theorem b_any (x : XOk A N sc X) (hg : A.gt.lookup ("any" : Str) = some .blt) (h : gloB sc ("any" : Str) = true) (ha : WA A X (e :: es) aa) (h3 : (e :: es).all nonStar = true) : WE A X (.Call (.Name "any" p) (e :: es) [] pos) (dBi bAny aa) := bB x (cr_any x.calm) (cw_any x.hK) (by rfl) hg h ha h3
theorem b_sum (x : XOk A N sc X) (hg : A.gt.lookup ("sum" : Str) = some .blt) (h : gloB sc ("sum" : Str) = true) (ha : WA A X (e :: es) aa) (h3 : (e :: es).all nonStar = true) : WE A X (.Call (.Name "sum" p) (e :: es) [] pos) (dBi bSum aa) := bB x (cr_sum x.calm) (cw_sum x.hK) (by rfl) hg h ha h3
theorem b_isT (x : XOk A N sc X) {T : Str} {id : String} (hv : bootBuiltins T = some (.type id)) (hg : A.gt.lookup ("isinstance" : Str) = some .blt) (h : gloB sc ("isinstance" : Str) = true) (hg2 : A.gt.lookup T = some .blt) (h2 : gloB sc T = true) (ha : WE A X a ea) (h3 : nonStar a = true) :
    WE A X (.Call (.Name "isinstance" p) [a, .Name T p2] [] pos) (dIsT id ea) := we_isT x ha (gloB_ok h).1 hg (gloB_ok h2).1 hg2 hv (gloB_ok h2).2.2 (gloB_ok h2).2.1 h3
theorem m_append (x : XOk A N sc X) (ho : WE A X o ea) (ha : WA A X (e :: es) aa) (h0 : notCall0 o = true) (h3 : (e :: es).all nonStar = true) (hl : (e :: es).length < 29) (hline : (apos.endLine == pos.line) = true) : WE A X (.Call (.Attribute o "append" apos) (e :: es) [] pos) (dBM "list" fAppend ea aa) :=
  we_bm x.hK PySem.F.plainAttrs_list PySem.F.slot_list_append PySem.F.type_list_append mt_append mw_append ho ha h0 h3 hl hline
theorem m_extend (x : XOk A N sc X) (ho : WE A X o ea) (ha : WA A X (e :: es) aa) (h0 : notCall0 o = true) (h3 : (e :: es).all nonStar = true) (hl : (e :: es).length < 29) (hline : (apos.endLine == pos.line) = true) : WE A X (.Call (.Attribute o "extend" apos) (e :: es) [] pos) (dBM "list" fExtend ea aa) :=
  we_bm x.hK PySem.F.plainAttrs_list PySem.F.slot_list_extend PySem.F.type_list_extend mt_extend mw_extend ho ha h0 h3 hl hline
theorem m_popAt (x : XOk A N sc X) (ho : WE A X o ea) (ha : WA A X (e :: es) aa) (h0 : notCall0 o = true) (h3 : (e :: es).all nonStar = true) (hl : (e :: es).length < 29) (hline : (apos.endLine == pos.line) = true) : WE A X (.Call (.Attribute o "pop" apos) (e :: es) [] pos) (dBM "list" fPopAt ea aa) :=
  we_bm x.hK PySem.F.plainAttrs_list PySem.F.slot_list_pop PySem.F.type_list_pop mt_popAt mw_popAt ho ha h0 h3 hl hline
theorem m_pop (x : XOk A N sc X) (ho : WE A X o ea) (h0 : notCall0 o = true) (hline : (apos.endLine == pos.line) = true) : WE A X (.Call (.Attribute o "pop" apos) [] [] pos) (dBM "list" fPop ea aNil) :=
  we_bm0 x.hK PySem.F.plainAttrs_list PySem.F.slot_list_pop PySem.F.type_list_pop mt_pop mw_pop ho h0 hline
theorem m_join (x : XOk A N sc X) (ho : WE A X o ea) (ha : WA A X (e :: es) aa) (h0 : notCall0 o = true) (h3 : (e :: es).all nonStar = true) (hl : (e :: es).length < 29) (hline : (apos.endLine == pos.line) = true) : WE A X (.Call (.Attribute o "join" apos) (e :: es) [] pos) (dBM "str" fJoin ea aa) :=
  we_bm x.hK PySem.F.plainAttrs_str PySem.F.slot_str_join PySem.F.type_str_join mt_join (mw_join x.hK) ho ha h0 h3 hl hline
/-! ranges -/
theorem i_rg1 (x : XOk A N sc X) (hg : A.gt.lookup ("range" : Str) = some .blt) (h : gloB sc ("range" : Str) = true) (ha : WA A X [a] aa) (h3 : nonStar a = true) : WI A X tg (.Call (.Name "range" p) [a] [] pos) (iRg1 aa) := wi_rg1 x (gloB_ok h).1 hg ha h3
theorem i_rg2 (x : XOk A N sc X) (hg : A.gt.lookup ("range" : Str) = some .blt) (h : gloB sc ("range" : Str) = true) (ha : WA A X [a, b] aa) (h3 : [a, b].all nonStar = true) : WI A X tg (.Call (.Name "range" p) [a, b] [] pos) (iRg2 aa) := wi_rg2 x (gloB_ok h).1 hg ha h3
theorem i_rg3 (x : XOk A N sc X) (hg : A.gt.lookup ("range" : Str) = some .blt) (h : gloB sc ("range" : Str) = true) (ha : WA A X [a, b, c] aa) (h3 : [a, b, c].all nonStar = true) : WI A X tg (.Call (.Name "range" p) [a, b, c] [] pos) (iRg3 aa) := wi_rg3 x (gloB_ok h).1 hg ha h3
/-- list, tuple or text -/
def iAny (a : EV) : EI := fun sw h => (a sw h).bind fun w h1 => match w with
  | .str x => .ok (signs x, none) h1
  | .tup ws => .ok (ws, none) h1
  | .lst ws => .ok (ws, none) h1
  | .ref r => (match h1[r]? with | some (.lst ws) => .ok (ws, some r) h1 | _ => .no)
  | _ => .no
theorem i_any (x : XOk A N sc X) (ha : WE A X a ea) : WI A X tg a (iAny ea) := fun wx tk =>
  PI_imp (PI_or (wi_seq (tg := tg) x.hK ha wx tk) (wi_str (tg := tg) ha wx tk)) fun σ H Q ⟨k, sw, h, hs, hh, d⟩ => by
    by_cases z : ∃ s h1, ea sw h = .ok (.str s) h1
    · obtain ⟨s, h1, e⟩ := z
      refine .inr ⟨k, sw, h, hs, hh, ?_⟩
      have q : iAny ea sw h = iStrW ea sw h := by unfold iAny iStrW; rw [e]; rfl
      rw [← q]; exact d
    · refine .inl ⟨k, sw, h, hs, hh, ?_⟩
      have q : iAny ea sw h = iSeq ea sw h := by
        unfold iAny iSeq
        cases e : ea sw h with
        | ok w h1 => cases w <;> first | rfl | exact absurd ⟨_, _, e⟩ z
        | exc => rfl
        | no => rfl
      rw [← q]; exact d
/-! targets, comprehensions, statements -/
theorem g_nm (x : StOk A N sc X) (i : Nat) {y : Str} (h : locB N sc i y = true) : WG A X (.Name y pos) (.nm i) := by
  unfold locB at h
  simp only [Bool.and_eq_true, decide_eq_true_eq, Bool.or_eq_true] at h
  exact wg_nm x.toXOk h.1 h.2 (.inl (x.fn y))
theorem g_cm (x : XOk A N sc X) (i : Nat) {y : Str} (h : cmpB N sc i y = true) : WG A X (.Name y pos) (.nm i) := by
  unfold cmpB at h
  simp only [Bool.and_eq_true, decide_eq_true_eq] at h
  exact wg_nm x h.1 (.inl h.2) (.inr h.2)
theorem gs_c {t : Tg} {ts : List Tg} (h1 : WG A X e t) (h2 : WGs A X es ts) (hs : nonStar e = true) : WGs A X (e :: es) (t :: ts) := wgs_cons h1 h2 (assignEach_cons hs)
theorem s_set (x : StOk A N sc X) (i : Nat) {y : Str} {py : Pos} (h : locB N sc i y = true) (ha : WE A X a ea) (hc : notComp a = true) : WSt A X (.Assign [.Name y py] a pos) (sSet i ea) := by
  unfold locB at h
  simp only [Bool.and_eq_true, decide_eq_true_eq, Bool.or_eq_true] at h
  exact ws_set x h.1 h.2 ha hc
theorem s_par (x : StOk A N sc X) (i j : Nat) {y z : Str} {px py pt pt2 : Pos} {kt k2 : Nat} (h : (cmpB N sc i y && cmpB N sc j z && !(i == j)) = true) (ha : WA A X [a, b] aa)
    (hw : swappedStores [.Tuple [.Name y px, .Name z py] kt pt] (.Tuple [a, b] k2 pt2) X.env = pure (some [y, z])) (hs : swapsWithSole [.Tuple [.Name y px, .Name z py] kt pt] (.Tuple [a, b] k2 pt2) pos.line X.env = pure false) :
    WSt A X (.Assign [.Tuple [.Name y px, .Name z py] kt pt] (.Tuple [a, b] k2 pt2) pos) (sPar i j aa) := by
  unfold cmpB at h
  simp only [Bool.and_eq_true, decide_eq_true_eq, Bool.not_eq_true', beq_eq_false_iff_ne] at h
  exact ws_par x.toXOk h.1.1.1 h.1.2.1 h.2 h.1.1.2 h.1.2.2 ha hw hs
theorem XOk.u64 (x : XOk A N sc X) : X.A.units + 64 < cLine := by have := x.un; omega
theorem XOk.u65 (x : XOk A N sc X) : X.A.units + 65 < cLine := by have := x.un; omega
theorem StOk.nox (x : StOk A N sc X) : StOk A N sc X.nox := { hK := x.hK, hN := x.hN, nd := x.nd, hsc := x.hsc, calm := x.calm, glob := x.glob, un := x.un, fn := x.fn }
theorem COk.nox (C : COk A Φ n X) : COk A Φ n X.nox := { room := C.room, fn := C.fn, mt := C.mt, ini := C.ini }
theorem s_thru {body : List Stmt} {h₀ : ExceptHandler} {hs : List ExceptHandler} {s : EW} (hb : WSs A X.nox body s) : WSt A X (.Try body (h₀ :: hs) [] [] pos) (sThru s) := fun wx tk po =>
  PS_imp (ps_try_thru0 (hb _ takes0 PassesOwn.never)) fun D σ H ⟨k, sw, h, hs', hh, d⟩ => by
    refine ⟨k, sw, h, hs', hh, ?_⟩
    unfold sThru at d
    cases e : s sw h with
    | ok f h1 => rw [e] at d; cases f <;> exact d
    | exc => rw [e] at d; exact d.elim
    | no => rw [e] at d; exact d.elim
/-! stores of a pair, by the scope alone -/
def envS (X : Cx) (sc : Scope) : Env := { X.env with scope := sc }
theorem swapped_env {ts : List Expr} {v : Expr} {env env' : Env} (h : env.scope = env'.scope) : swappedStores ts v env = swappedStores ts v env' := by
  have k : env.kindOf = env'.kindOf := by
    funext y
    unfold Env.kindOf
    rw [h]
  have b : env.blockKind = env'.blockKind := by
    unfold Env.blockKind
    rw [h]
  unfold swappedStores
  rw [k, b]
theorem s_par2 (x : StOk A N sc X) (i j : Nat) {y z : Str} {px py pt pt2 : Pos} {kt k2 : Nat} (h : (cmpB N sc i y && cmpB N sc j z && !(i == j)) = true) (ha : WA A X [a, b] aa)
    (hw : swappedStores [.Tuple [.Name y px, .Name z py] kt pt] (.Tuple [a, b] k2 pt2) (envS X sc) = pure (some [y, z])) (hs : swapsWithSole [.Tuple [.Name y px, .Name z py] kt pt] (.Tuple [a, b] k2 pt2) pos.line X.env = pure false) :
    WSt A X (.Assign [.Tuple [.Name y px, .Name z py] kt pt] (.Tuple [a, b] k2 pt2) pos) (sPar i j aa) := s_par x i j h ha ((swapped_env x.hsc).trans hw) hs
theorem s_asgT (x : StOk A N sc X) {t : Tg} {k2 : Nat} {pt2 : Pos} (hg : WG A X tg t) (ha : WE A X (.Tuple es k2 pt2) ea) (hs : swapsWithSole [tg] (.Tuple es k2 pt2) pos.line X.env = pure false) (hw : swappedStores [tg] (.Tuple es k2 pt2) (envS X sc) = pure none) (h1 : (assignEach [tg] X.env).map (·.2) = [assign tg X.env]) :
    WSt A X (.Assign [tg] (.Tuple es k2 pt2) pos) (sTg (tgW t) ea) := ws_asg hg ha hs ((swapped_env x.hsc).trans hw) h1
/-! the same by tables -/
def mkT (ini : Nat → Option Nat) (val : Nat → Bool) (Φ : Fns) (c : Nat) (ws : List W) (h : WH) : R W := match ini c with
  | none => .no
  | some f => (Φ f (.ref h.length :: ws) (h ++ [.ins c [] []])).bind fun v h2 => match v with
    | .non => if val c then (match h2[h.length]? with
        | some (.ins c' fs vs) => .ok (.ins c' fs vs) (gc h.length (.ins c' fs vs) h (h2.set h.length .dead))
        | _ => .no) else .ok (.ref h.length) h2
    | _ => .no
def dMk (ini : Nat → Option Nat) (val : Nat → Bool) (Φ : Fns) (c : Nat) (a : EA) : EV := fun sw h => (a sw h).bind (mkT ini val Φ c)
theorem we_mkT (x : XOk A N sc X) (C : COk A Φ n X) {c f : Nat} {nm : Str} (hi : A.ini c = some f) (hg : A.gt.lookup nm = some (.cls c)) (h : gloB sc nm = true) (ha : WA A X (e :: es) aa) (h3 : (e :: es).all nonStar = true) : WE A X (.Call (.Name nm p) (e :: es) [] pos) (dMk A.ini A.val Φ c aa) :=
  we_mk x C hi hg h ha h3
def dMt (mt : Nat → Nat → Option Nat) (Φ : Fns) (m : Nat) (o : EV) (a : EA) : EV := fun sw h => (o sw h).bind fun x h1 => match insOf h1 x with
  | some (c, _, _) => (match mt c m with | some f => (a sw h1).bind fun ws h2 => Φ f (x :: ws) h2 | none => .no)
  | none => .no
theorem we_mtT (x : XOk A N sc X) (C : COk A Φ n X) {m : Nat} {nm : Str} (hn : A.mn m = nm) (ho : WE A X a ea) (ha : WA A X (e :: es) aa) (h3 : (e :: es).all nonStar = true) {pl : Sem Bool}
    (ht : eval (.Call (.Attribute a nm apos) (e :: es) [] pos) X.env = (do
      let ov ← eval a X.env
      standAt apos.atName
      let (f, first) ← holding [ov] (getMethod ov nm pl)
      callWith pos f first (backTo pos (starEach (e :: es) X.env)) (backToKw pos (keywordEach [] X.env)))) :
    WE A X (.Call (.Attribute a nm apos) (e :: es) [] pos) (dMt A.mt Φ m ea aa) := we_meth x C hn ho ha h3 ht
theorem we_mtT0 (x : XOk A N sc X) (C : COk A Φ n X) {m : Nat} {nm : Str} (hn : A.mn m = nm) (ho : WE A X a ea) {pl : Sem Bool}
    (ht : eval (.Call (.Attribute a nm apos) [] [] pos) X.env = (do
      let ov ← eval a X.env
      standAt apos.atName
      let (f, first) ← holding [ov] (getMethod ov nm pl)
      callWith pos f first (backTo pos (starEach [] X.env)) (backToKw pos (keywordEach [] X.env)))) :
    WE A X (.Call (.Attribute a nm apos) [] [] pos) (dMt A.mt Φ m ea aNil) := we_meth0 x C hn ho ht
def fStF (lay : Nat → Nat → Bool) (o : W) (f : Nat) (v : W) (h : WH) : Option WH := match o with
  | .ref a => match h[a]? with
    | some (.ins c fs vs) => if lay c f = true ∧ fs.length < 900 then some (h.set a (.ins c (putFs f fs) (putVs f v fs vs))) else none
    | _ => none
  | _ => none
def sStF (lay : Nat → Nat → Bool) (o : EV) (f : Nat) (v : EV) : EW := fun sw h => (v sw h).st sw fun x h1 => (o sw h1).st sw fun y h2 => match fStF lay y f x h2 with | some h4 => .ok (.next sw) h4 | none => .no
theorem s_stF (x : XOk A N sc X) (F : FldOk A) {f : Nat} {nm : Str} (hn : A.fn f = nm) (ho : WE A X a ea) (hv : WE A X b eb) {tp : Pos} : WSt A X (.Assign [.Attribute a nm tp] b pos) (sStF A.lay ea f eb) := ws_setF x F hn ho hv
end
end KW

set_option Elab.async false
set_option linter.all false
set_option maxRecDepth 100000
set_option maxHeartbeats 4000000
/-! enumerate over a tuple or a list -/
namespace KW
open PySem L2 PySem.Spec PyProof.Rows
/-- enumerate over a tuple -/
def ItU (K : PySem.W.Frag) (a : Addr) : It :=
  ⟨fun i H => ∃ (xs : List V) (x : V), SqT K H a xs ∧ xs[i]? = some x, fun i H v H' => ∃ T x, v = .ref T ∧ H T = none ∧ H' = upd H T (.tup [.int (i : Nat), x]) ∧ ∀ xs, SqT K H a xs → xs[i]? = some x, fun i H => ∃ xs : List V, SqT K H a xs ∧ xs.length = i⟩
theorem turn_enumT {P : Program} {w : World} {K : PySem.W.Frag} {elts : List Expr} {kk : Nat} {tpos : Pos} (a e it : Addr) :
    Turn P w K (.Tuple elts kk tpos) (ItU K a) [e, it] e (fun i h => (∃ old, IsEnum h e it ((i : Nat) : Int) old) ∧ h.IsTupleIter it a i ∧ e ≠ it ∧ a ≠ it ∧ a ≠ e) where
  mem := by simp
  obj := by
    rintro i h ⟨⟨old, he⟩, ⟨o, ho, hc, hd⟩, _⟩ b hb
    rcases List.mem_cons.mp hb with z | z
    · rw [z]; exact ⟨_, he, fun v q => nomatch q⟩
    · rw [List.mem_singleton.mp z]
      exact ⟨o, ho, fun v q => by rw [hd] at q; cases q⟩
  keep := by
    rintro i h h' ⟨⟨old, he⟩, hi, hn⟩ k
    exact ⟨⟨old, k e (List.mem_cons_self ..) _ he⟩, hi.at fun o q => k it (by simp) o q, hn⟩
  item := by
    intro X hP hw hK hc i pins s σ H E I hf st hg
    subst hP; subst hw; subst hK
    obtain ⟨⟨old, he⟩, hit, hn1, hn2, hn3⟩ := st
    obtain ⟨xs, x, hq, hx⟩ := hg
    obtain ⟨its, rv, p, _⟩ := I.tuple hq
    obtain ⟨u, hu, ru⟩ := rv.get hx
    have hu' : its.toArray[i]? = some u := by simpa using hu
    have hlt : i < its.toArray.size := (Array.getElem?_eq_some_iff.mp hu').1
    have le1 : e < s.heap.objs.size := Heap.lt_size he
    have le2 : it < s.heap.objs.size := by obtain ⟨_, q, _⟩ := hit; exact Heap.lt_size q
    have hh : X.A.in1.handled = none := by simp [I.ok.hd hc]
    have D := Draws.tuple (prog := X.prog) (w := X.w) hh it a hn2 its.toArray
    refine wpAny_pyNext_enum_itemC D he ⟨hit, p⟩ hlt hn1 (by simp [hn1, hn3.symm]) fun y h' tk hy ho hst hT hsz hk => ?_
    have ey : y = u := Option.some.inj (hy.symm.trans hu')
    subst ey
    refine ⟨_, rfl, wpAny_letOwnedTupleGo_enum (s := { s with heap := h', toks := tk + 1 }) ho fun h2 he2 sb => ?_⟩
    have hT2 : h2.get? s.heap.objs.size = some { cls := .type "tuple", data := .seq #[.int i tk, y] } := (sb.2 _ (Nat.ne_of_gt le1)).trans hT
    have ob : ObjOk X.prog X.w (upd H s.heap.objs.size (.tup [.int (i : Nat), x])) h2 s.heap.objs.size (.tup [.int (i : Nat), x]) :=
      ⟨by show 2 ≤ sizeLine; decide, [.int i tk, y], .cons ⟨_, rfl⟩ (.cons ru .nil), ⟨_, hT2, rfl, _, rfl⟩⟩
    have I2 : Inv X pins σ (upd H s.heap.objs.size (.tup [.int (i : Nat), x])) { s with heap := h2, toks := tk + 1 } :=
      I.turnedNew (ch := [e, it]) (fun b o hb q => (sb.2 b fun z => hb (by simp [z])).trans (hk b o (fun z => hb (by simp [z])) (fun z => hb (by simp [z])) q)) hf (Nat.le_refl _) ob
    refine ⟨.ref s.heap.objs.size, _, I2, rfl, ⟨_, x, rfl, I.hok.fresh (Nat.le_refl _), rfl, fun ys hy => by rw [I.tuple_inj hy hq]; exact hx⟩, ⟨⟨y, ?_⟩, ?_, hn1, hn2, hn3⟩, fun b hb => ?_⟩
    · rw [show ((i + 1 : Nat) : Int) = (i : Int) + 1 from by omega]
      exact he2
    · exact hst.1.at fun o q => (sb.2 it hn1.symm).trans q
    · have lb : b < s.heap.objs.size := by
        rcases List.mem_cons.mp hb with z | z
        · exact z ▸ le1
        · exact List.mem_singleton.mp z ▸ le2
      rw [upd_ne (Nat.ne_of_lt lb)]
      exact (hf b hb).1
  done := by
    intro X hP hw hK hc i pins s σ H E I hf st hg
    subst hP; subst hw; subst hK
    obtain ⟨⟨old, he⟩, hit, hn1, hn2, hn3⟩ := st
    obtain ⟨xs, hq, hx⟩ := hg
    obtain ⟨its, rv, p, _⟩ := I.tuple hq
    obtain ⟨f0, f1, f2, f3, f4, f5⟩ := hf it (by simp)
    have ln : its.toArray.size = i := by rw [List.size_toArray, ← rv.length]; exact hx
    have hh : X.A.in1.handled = none := by simp [I.ok.hd hc]
    have D := Draws.tuple (prog := X.prog) (w := X.w) hh it a hn2 its.toArray
    exact wpAny_pyNext_enum_endD D he ⟨ln ▸ hit, p⟩ fun h' eb => ⟨rfl, I.turned (t' := s.toks) (fun b o hb q => eb b o hb q) f0 f1 f3 f4 f5⟩
  self := fun A i s Q E st h => let ⟨⟨_, he⟩, _⟩ := st; wpAny_pyIter_enum he h

/-- enumerate(t): its two new cells -/
theorem meets_enumT (l : Addr) (items : Array Value) :
    Meets (Builtin.«enumerate.__new__» ⟨[.type "enumerate", .ref l], []⟩) (fun _ R s => s.heap.IsTuple l items ∧
      R (.ok (.ret (.ref (s.heap.objs.size + 1)))) { s with heap := (s.heap.push { cls := .type "tuple_iterator", data := .fields #[.ref l, .int 0 0] }).push { cls := .type "enumerate", data := .fields #[.none, .bool false, .ref s.heap.objs.size, rawInt 0, .none, .none] } }) :=
  .of_wp fun prog w A R s h => by
    obtain ⟨hp, g, d, tk, os⟩ := s
    obtain ⟨ht, h⟩ := h
    have hsub := sub_enumerate
    have hz : (hp.push { cls := .type "tuple_iterator", data := .fields #[.ref l, .int 0 0] }).objs.size = hp.objs.size + 1 := Heap.size_push ..
    have q1 : ∀ {A' : Around} {E : Value → Shared → Prop} {Q : Value → Shared → Prop}, Q (.ref hp.objs.size) ⟨hp.push { cls := .type "tuple_iterator", data := .fields #[.ref l, .int 0 0] }, g, d, tk, os⟩ → wpAny (model prog w) A' (pyIter (.ref l)) Q E ⟨hp, g, d, tk, os⟩ :=
      fun q => wpAny_pyIter_tuple (s := ⟨hp, g, d, tk, os⟩) ht q
    wp_walk using q1
    refine wpAny_stack_any fun st => wpAny_pure ?_
    split
    · rename_i c _ _ _ _ _
      cases (c == Value.type "enumerate")
      · wp_walk using q1
        exact ⟨_, rfl, hz ▸ h⟩
      · wp_walk using q1
        exact ⟨_, rfl, hz ▸ h⟩
    · wp_walk using q1
      exact ⟨_, rfl, hz ▸ h⟩
theorem call_enumT {prog : Program} {w : World} {A : Around} {E : Value → Shared → Prop} {s : Shared} {l : Addr} {items : Array Value} {Q : Value → Shared → Prop} (hL : s.heap.IsTuple l items)
    (h : ∀ h', IsEnum h' (s.heap.objs.size + 1) s.heap.objs.size 0 .none → h'.IsTupleIter s.heap.objs.size l 0 → (∀ b o, s.heap.get? b = some o → h'.get? b = some o) → Q (.ref (s.heap.objs.size + 1)) { s with heap := h' }) :
    wpAny (model prog w) A (call (.type "enumerate") [.ref l]) Q E s := by
  refine callType_new F.called_enumerate (by decide) (F.typeCall_enumerate_1 _) (F.newCall_enumerate_1 _) (fun obj => F.args_object_init_2 obj _) F.entry_enumerate_new (meets_enumT l items) ⟨hL, ?_⟩
  have hz : (s.heap.push { cls := .type "tuple_iterator", data := .fields #[.ref l, .int 0 0] }).objs.size = s.heap.objs.size + 1 := Heap.size_push ..
  have he := Heap.get?_push_size (s.heap.push { cls := .type "tuple_iterator", data := .fields #[.ref l, .int 0 0] }) (o := { cls := .type "enumerate", data := .fields #[.none, .bool false, .ref s.heap.objs.size, rawInt 0, .none, .none] }) rfl
  rw [hz] at he
  exact ⟨⟨_, he, rfl⟩, h _ he ⟨_, Heap.get?_push_of_some _ (Heap.get?_push_size _ rfl), rfl, rfl⟩ fun b o x => Heap.get?_push_of_some _ (Heap.get?_push_of_some _ x)⟩
def iEnumT (K : PySem.W.Frag) (ta : TA) : TI := fun σ H R => ta σ H fun vs H1 => ∃ a xs, vs = [.ref a] ∧ SqT K H1 a xs ∧ R (ItU K a) H1
theorem pi_enumT {X : Cx} {e : Expr} {ta : TA} {p pos tpos : Pos} {elts : List Expr} {kk : Nat} (hg : Gl X "enumerate") (hm : X.mg "enumerate" = none) (ha : PA X [e] ta) (hs : starEach [e] X.env = [(false, eval e X.env)]) :
    PI X (.Tuple elts kk tpos) (.Call (.Name "enumerate" p) [e] [] pos) (iEnumT X.K ta) := by
  refine ⟨fun pins s σ H R I h => ?_⟩
  refine Call_ (ld_blt I hg hm boot_enumerate (PyProof.Rows.callWith_type1 (thn (ha.run pos pins s σ H _ I h) fun us s1 ⟨vs, H1, I1, r1, a, xs, ex, hq, q⟩ => ?_) hs rfl))
  subst ex
  obtain ⟨u, rfl, ru⟩ := r1.one
  cases ru
  obtain ⟨its, rv, pl, hz⟩ := I1.tuple hq
  have la : a < s1.heap.objs.size := by obtain ⟨_, q, _⟩ := pl; exact Heap.lt_size q
  refine call_enumT pl fun h' he hit hk => wpAny_pyIter_enum he ?_
  have I2 : Inv X pins σ H1 { s1 with heap := h' } := I1.kept (t' := s1.toks) hk
  refine ⟨s1.heap.objs.size + 1, [s1.heap.objs.size + 1, s1.heap.objs.size], _, _, H1, rfl, I2, turn_enumT a (s1.heap.objs.size + 1) s1.heap.objs.size, ⟨⟨.none, he⟩, hit, Nat.succ_ne_self _, Nat.ne_of_lt la, Nat.ne_of_lt (Nat.lt_succ_of_lt la)⟩, fun b hb => ?_, q⟩
  have hle : s1.heap.objs.size ≤ b := by
    rcases List.mem_cons.mp hb with z | z
    · rw [z]; exact Nat.le_succ _
    · rw [List.mem_singleton.mp z]; exact Nat.le_refl _
  exact I1.fpOk hle (I1.hok.fresh hle)

/-! ### as values -/
def enumW (ws : List W) : List W := ws.zipIdx.map fun p => .tup [.int (p.2 : Nat), p.1]
theorem enumW_get {ws : List W} {i : Nat} {w : W} (h : (enumW ws)[i]? = some w) : ∃ x, ws[i]? = some x ∧ w = .tup [.int (i : Nat), x] := by
  simp only [enumW, List.getElem?_map, List.getElem?_zipIdx, Option.map_map, Option.map_eq_some_iff] at h
  obtain ⟨x, e, rfl⟩ := h
  exact ⟨x, e, by simp⟩
theorem enumW_len {ws : List W} : (enumW ws).length = ws.length := by simp [enumW]
theorem pair_new {G : Gx} {k : Ka} {H : Hp} {h : WH} {T : Addr} {i : Int} {w : W} {v : V} (x : HRep G k H h) (hT : H T = none) (r : Rep G k w v) :
    ∃ k', Nxt k H k' (upd H T (.tup [.int i, v])) ∧ HRep G k' (upd H T (.tup [.int i, v])) h ∧ Rep G k' (.tup [.int i, w]) (.ref T) := by
  refine ⟨k.froz T (.tup [.int i, v]), Nxt.froz x hT, x.froz hT, ?_⟩
  simp only [Rep]
  refine ⟨T, _, rfl, .inl (.inl upd_same), ?_⟩
  simp only [RepL]
  exact ⟨_, _, rfl, by simp only [Rep], _, _, rfl, r.mono (Nxt.froz x hT (o := .tup [.int i, v])).le, rfl⟩
theorem walks_enumT {G : Gx} {k : Ka} {H : Hp} {p : Addr} {ws : List W} {vs : List V} (q : SqT G.K k.F p vs) (r : RepL G k ws vs) : Walks G (ItU G.K p) k H (enumW ws) none where
  go := fun i k2 H2 h2 n2 x2 _ hi => by
    rw [enumW_len] at hi
    exact ⟨vs, vs[i]'(by rw [r.length]; exact hi), Ka.Le.seqT x2.sub (Ka.Le.seqT n2.le.F q), by simp⟩
  stop := fun k2 H2 h2 n2 x2 _ => ⟨vs, Ka.Le.seqT x2.sub (Ka.Le.seqT n2.le.F q), by rw [r.length, enumW_len]⟩
  yld := fun i k2 H2 h2 y H3 w n2 x2 _ e yy => by
    obtain ⟨T, v, rfl, hT, rfl, yy⟩ := yy
    obtain ⟨x, e2, rfl⟩ := enumW_get e
    obtain ⟨v2, e3, r3⟩ := (r.mono n2.le).get e2
    have e4 := yy vs (Ka.Le.seqT x2.sub (Ka.Le.seqT n2.le.F q))
    rw [e3] at e4; cases e4
    exact pair_new x2 hT r3
theorem walks_enumF {G : Gx} {k : Ka} {H : Hp} {p : Addr} {ws : List W} {vs : List V} (q : k.F p = some (.lst vs)) (r : RepL G k ws vs) : Walks G (Ite G.K p) k H (enumW ws) none where
  go := fun i k2 H2 h2 n2 x2 _ hi => by
    rw [enumW_len] at hi
    exact ⟨vs, vs[i]'(by rw [r.length]; exact hi), SqL.of (x2.sub _ _ (n2.le.F _ _ q)), by simp⟩
  stop := fun k2 H2 h2 n2 x2 _ => ⟨vs, SqL.of (x2.sub _ _ (n2.le.F _ _ q)), by rw [r.length, enumW_len]; exact Nat.le_refl _⟩
  yld := fun i k2 H2 h2 y H3 w n2 x2 _ e yy => by
    obtain ⟨T, v, rfl, hT, rfl, yy⟩ := yy
    obtain ⟨x, e2, rfl⟩ := enumW_get e
    obtain ⟨v2, e3, r3⟩ := (r.mono n2.le).get e2
    have e4 := yy vs (SqL.of (x2.sub _ _ (n2.le.F _ _ q)))
    rw [e3] at e4; cases e4
    exact pair_new x2 hT r3
/-- over enumerate(a tuple or a frozen list) -/
def iEnumW (a : EV) : EI := fun sw h => (a sw h).bind fun w h1 => match w with
  | .tup ws => .ok (enumW ws, none) h1
  | .lst ws => .ok (enumW ws, none) h1
  | _ => .no
section
variable {A : Ax} {X : Cx} {N : List Str} {sc : Scope} {a : Expr} {ea : EV} {p pos tpos : Pos} {elts : List Expr} {kk : Nat}
theorem i_enum (x : XOk A N sc X) (hg : A.gt.lookup ("enumerate" : Str) = some .blt) (h : gloB sc ("enumerate" : Str) = true) (ha : WE A X a ea) (h3 : nonStar a = true) : WI A X (.Tuple elts kk tpos) (.Call (.Name "enumerate" p) [a] [] pos) (iEnumW ea) := fun wx tk =>
  PI_imp (PI_or (pi_enum (gl_of x (gloB_ok h).1) (x.glob.blt _ hg) (pa_cons (ha wx tk) pa_nil (star_ok h3)) (star_ok h3)) (pi_enumT (gl_of x (gloB_ok h).1) (x.glob.blt _ hg) (pa_cons (ha wx tk) pa_nil (star_ok h3)) (star_ok h3))) fun σ H Q ⟨k, sw, h, hs, hh, d⟩ => by
    have d0 := DenI.bind (rp := Rep A.toGx) d
    have d1 : DenI A.toGx wx k H σ (iEnumW ea sw h) Q := d
    unfold iEnumW at d1
    cases er : ea sw h with
    | no => rw [er] at d0; exact d0.elim
    | exc c fs vs h1 => rw [er] at d0; exact .inl ⟨k, sw, h, hs, hh, by rw [er]; exact d0⟩
    | ok w h1 =>
      rw [er] at d1
      dsimp only [R.bind] at d1
      have E : ∀ {Q' : VK}, (∀ v k' H', Nxt k H k' H' → HRep A.toGx k' H' h1 → Rep A.toGx k' w v → Q' v H') → TEx A.toGx wx ea σ H Q' := fun q => ⟨k, sw, h, hs, hh, by rw [er]; exact q⟩
      rw [x.hK]
      cases w <;> dsimp only at d1 <;> first | exact d1.elim | skip
      · refine .inr (E fun v k' H' n x r => ?_)
        simp only [Rep] at r
        obtain ⟨p, vs, rfl, q, r⟩ := r
        exact ⟨p, vs, rfl, Ka.Le.seqT x.sub q, d1 _ k' H' n x (walks_enumT q r)⟩
      · refine .inl (E fun v k' H' n x r => ?_)
        simp only [Rep] at r
        obtain ⟨p, vs, rfl, q, r⟩ := r
        exact ⟨p, vs, rfl, SqL.of (x.sub _ _ q), d1 _ k' H' n x (walks_enumF q r)⟩
end
end KW

set_option Elab.async false
set_option linter.all false
set_option maxRecDepth 100000
set_option maxHeartbeats 4000000
/-! len(set(texts)) -/
namespace KW
open PySem L2 PySem.Spec PyProof.Rows
/-- the unlike ones, in order -/
def unlike (xs : List Str) : List Str := xs.foldl (fun acc x => if x ∈ acc then acc else acc ++ [x]) []
theorem unlike_snoc (xs : List Str) (x : Str) : unlike (xs ++ [x]) = if x ∈ unlike xs then unlike xs else unlike xs ++ [x] := by
  rw [unlike, List.foldl_append]; rfl
theorem mem_foldl (y : Str) : ∀ (xs acc : List Str), y ∈ xs.foldl (fun acc x => if x ∈ acc then acc else acc ++ [x]) acc ↔ y ∈ acc ∨ y ∈ xs
  | [], acc => by simp
  | x :: xs, acc => by
    rw [List.foldl_cons, mem_foldl y xs]
    split
    · rename_i h
      constructor
      · rintro (q | q)
        · exact .inl q
        · exact .inr (List.mem_cons_of_mem _ q)
      · rintro (q | q)
        · exact .inl q
        · rcases List.mem_cons.mp q with e | q
          · exact .inl (e ▸ h)
          · exact .inr q
    · simp [or_assoc]
theorem mem_unlike {y : Str} {xs : List Str} : y ∈ unlike xs ↔ y ∈ xs := by rw [unlike, mem_foldl]; simp
theorem unlike_len : ∀ (xs acc : List Str), (xs.foldl (fun acc x => if x ∈ acc then acc else acc ++ [x]) acc).length ≤ acc.length + xs.length
  | [], acc => by simp
  | x :: xs, acc => by
    rw [List.foldl_cons]
    have := unlike_len xs (if x ∈ acc then acc else acc ++ [x])
    by_cases z : x ∈ acc
    · simp only [if_pos z, List.length_cons] at this ⊢
      omega
    · simp only [if_neg z, List.length_cons, List.length_append, List.length_nil] at this ⊢
      omega
abbrev emptySet (led : Bool) : Obj := { cls := .type "set", dict := none, data := .set #[] 0 (.fresh 0 0 led) }
section
variable {prog : Program} {w : World} {A : Around} {R : Result → Shared → Prop} {I : Addr} {fp wr : List Addr} {G : Array GenState → Array GenState → Prop} {n : Nat} {P : Nat → Value → Prop} {St : Nat → Shared → Prop}
/-- what the set holds after i items -/
abbrev HasTo (prog : Program) (w : World) (h : Heap) (S : Addr) (xs : List Str) : Prop := h.SetOf (PySem.strKind prog w) S (fun k => decide (k ∈ xs)) (unlike xs).length
theorem HasTo.at {S : Addr} {xs : List Str} {h h' : Heap} (x : HasTo prog w h S xs) (k : ∀ o, h.get? S = some o → h'.get? S = some o) : HasTo prog w h' S xs := by
  obtain ⟨o, es, ep, t, ho, rest⟩ := x
  exact ⟨o, es, ep, t, k o ho, rest⟩
theorem fillTexts (W : WalksS prog w A.in1 I fp wr G n P St) (S : Addr) (hSf : S ∉ fp) (xs : List Str) (hsz : xs.length = n) (hn : n < 4000) (hval : ∀ i v, P i v → ∃ x t, xs[i]? = some x ∧ v = .str x t) :
    ∀ (k i : Nat) (s : Shared), n - i = k → i ≤ n → St i s → HasTo prog w s.heap S (xs.take i) → (∀ s', Moved (S :: wr) G s s' → HasTo prog w s'.heap S xs → R (.ok (.ret .none)) s') →
      codeAny (model prog w) A (.builtin "set.update.loop" ⟨[.ref S, .ref I], []⟩) R s := by
  have nw : S ∉ wr := fun q => hSf (W.sub _ q)
  have up : ∀ b ∈ wr, b ∈ S :: wr := fun b q => List.mem_cons_of_mem _ q
  intro k
  induction k with
  | zero =>
    intro i s e1 e2 st hS fin
    obtain rfl : i = n := Nat.le_antisymm e2 (Nat.le_of_sub_eq_zero e1)
    rw [List.take_of_length_le (Nat.le_of_eq hsz)] at hS
    refine codeAny_builtin F.entry_set_update_loop ?_
    rw [Around.under_plainId F.plain_set_update_loop _]
    refine wpAny_bind (W.done s _ _ st fun s1 mv => ?_)
    exact wpAny_pure (fin s1 (mv.mono up) (hS.at fun o q => mv.heap S o nw q))
  | succ k ih =>
    intro i s e1 e2 st hS fin
    have lt : i < n := by omega
    refine codeAny_builtin F.entry_set_update_loop ?_
    rw [Around.under_plainId F.plain_set_update_loop _]
    refine wpAny_bind (W.item i s _ _ lt st fun v s1 hv st1 mv => ?_)
    obtain ⟨x, t, ex, rfl⟩ := hval i v hv
    have hS1 : HasTo prog w s1.heap S (xs.take i) := hS.at fun o q => mv.heap S o nw q
    show wpAny _ A.in1 (holding [Value.str x t] (setAdd S (.str x t)) >>= _) _ _ s1
    refine wpAny_bind (wpAny_holding ?_)
    unfold setAdd
    have ln : (unlike (xs.take i)).length ≤ i := by
      have := unlike_len (xs.take i) []
      simp only [List.length_nil, Nat.zero_add, List.length_take] at this
      exact Nat.le_trans this (Nat.min_le_left ..)
    refine wpAny_holding (wpAny_bind ((PySem.strKind prog w).pyHash (k := x) (strKind_is _ _ _ _) ?_))
    refine wpAny_setAddHashed_of (knd := PySem.strKind prog w) (s := { s1 with toks := s1.toks + 1 }) (strKind_is _ _ _ _) rfl hS1 (by unfold scanBound; omega) fun h2 sb hS2 => ?_
    have e3 : xs.take (i + 1) = xs.take i ++ [x] := by rw [List.take_add_one, ex]; rfl
    have hS3 : HasTo prog w h2 S (xs.take (i + 1)) := by
      refine SetOf_congr hS2 (fun y => ?_) ?_
      · rw [e3]
        simp [List.mem_append]
      · rw [e3, unlike_snoc]
        by_cases z : x ∈ xs.take i
        · rw [if_pos (decide_eq_true z), if_pos (mem_unlike.mpr z)]
        · rw [if_neg (by simpa using z), if_neg (fun q => z (mem_unlike.mp q)), List.length_append]; rfl
    refine wpAny_pure ⟨plainId_quiet F.plain_set_update_loop _, ih (i + 1) _ (by omega) lt (W.frame _ s1 _ _ st1 (Nat.le_succ _) fun b hb o q => ?_) hS3 fun s2 mv2 hS4 => fin s2 ?_ hS4⟩
    · rw [sb.2 b fun z : b = S => hSf (z ▸ hb)]; exact q
    · refine Moved.trans W.gtrans ((mv.mono up).then_heap (Nat.le_succ _) fun b o hb q => ?_) mv2
      rw [sb.2 b fun z : b = S => hb (z ▸ List.mem_cons_self ..)]; exact q
end
section
variable {prog : Program} {w : World} {A : Around} {E : Value → Shared → Prop} {s : Shared}
theorem texts_at : ∀ {us : List Value} {xs : List Str} {i : Nat} {v : Value}, StrsAre us xs → us[i]? = some v → ∃ x t, xs[i]? = some x ∧ v = .str x t
  | _, _, i, v, .nil, h => by simp at h
  | _, _, 0, v, .cons n t hr, h => by
    simp only [List.getElem?_cons_zero, Option.some.injEq] at h
    exact ⟨_, t, rfl, h.symm⟩
  | _, _, i + 1, v, .cons n t hr, h => by
    rw [List.getElem?_cons_succ] at h ⊢
    exact texts_at hr h
theorem call_setT {l : Addr} {items : Array Value} {xs : List Str} {Q : Value → Shared → Prop} (hh : A.handled = none) (hl : s.heap.IsTuple l items) (hi : StrsAre items.toList xs) (hn : xs.length < 4000)
    (h : ∀ (h' : Heap) (tk : Nat), HasTo prog w h' s.heap.objs.size xs → (∀ b o, s.heap.get? b = some o → h'.get? b = some o) → Q (.ref s.heap.objs.size) { s with heap := h', toks := tk }) :
    wpAny (model prog w) A (call (.type "set") [.ref l]) Q E s := by
  obtain ⟨c, tl, hmro⟩ := F.called_set.mro
  have k1 := F.called_set.made
  have k2 := F.called_set.sub
  refine wpAny_call (codeAny_of_tree ?_)
  show wpAny _ _ (callAny (.type "set") _) _ _ _
  refine wpAny_pure ⟨Code.quiet_builtin _ (by decide +kernel), codeAny_builtin F.entry_type_call ?_⟩
  rw [Around.under_plain (weight_type_call_type "set" [.ref l] []) rfl]
  have k3 := F.called_set.notType
  have k4 := F.called_set.canCreate
  have k5 := F.typeCall_set_1 (.ref l)
  repeat (any_goals (first | assumption | wp_step))
  refine codeAny_mono (code_set_new_1 (.ref l) (E := E) (Q₁ := fun ob s1 => ∃ led : Bool, ob = .ref s.heap.objs.size ∧ s1 = { s with heap := s.heap.push (emptySet led) }) fun led => ⟨led, rfl, rfl⟩) fun r s1 hr => ?_
  cases r with
  | error e => exact hr
  | ok fl =>
    cases fl with
    | ret ob =>
      obtain ⟨led, rfl, rfl⟩ := hr
      have hS : (s.heap.push (emptySet led)).get? s.heap.objs.size = some (emptySet led) := Heap.get?_push_size _ rfl
      have hT : Shared.TypeIs { s with heap := s.heap.push (emptySet led) } (.ref s.heap.objs.size) "set" := ⟨_, hS, rfl⟩
      have k6 := F.called_set.init.lookup
      have k7 := F.called_set.init.bind (.ref s.heap.objs.size)
      repeat (any_goals (first | assumption | wp_step))
      refine codeAny_mono (codeAny_call_builtin (R := wants (fun r s2 => r = .none ∧ ∃ h' tk, s2 = { s with heap := h', toks := tk } ∧ HasTo prog w h' s.heap.objs.size xs ∧ (∀ b o, s.heap.get? b = some o → h'.get? b = some o)) E)
        F.called_set.init.plain F.entry_set_init (check_set_init_1 hT ?_)) fun r2 s2 hr2 => ?_
      · obtain ⟨⟨cl, dc, dt, sl⟩, ho, e1, nl, e2⟩ := hl
        simp only at e1 e2
        subst e1 e2
        have ho2 : (s.heap.push (emptySet led)).get? l = some { cls := .type "tuple", dict := dc, data := .seq items nl, slots := sl } := Heap.get?_push_of_some _ ho
        have k8 := F.sub_tuple_set
        have k9 := F.sub_tuple_frozenset
        have ne : (Value.type "tuple" == Value.type "dict") = false := by decide
        have hl2 : (s.heap.push (emptySet led)).IsTuple l items := ⟨_, ho2, rfl, nl, rfl⟩
        unfold Builtin.«set.__init__» noKeywords Builtin.Frozenset.updateFrom
        generalize hPI : pyIter = PI
        wp_walk
        subst hPI
        refine wpAny_pyIter_tuple hl2 (wpAny_bind (wpAny_runValue ?_))
        have lS : l < s.heap.objs.size := Heap.lt_size ho
        have hh3 : A.in1.in1.in1.handled = none := by simp [hh]
        have zz : (s.heap.push (emptySet led)).objs.size = s.heap.objs.size + 1 := Heap.size_push ..
        have nI : l ≠ (s.heap.push (emptySet led)).objs.size := by rw [zz]; exact Nat.ne_of_lt (Nat.lt_succ_of_lt lS)
        have nS : s.heap.objs.size ∉ [(s.heap.push (emptySet led)).objs.size, l] := by
          rw [zz]
          simp only [List.mem_cons, List.not_mem_nil, or_false, not_or]
          exact ⟨Nat.ne_of_lt (Nat.lt_succ_self _), Nat.ne_of_gt lS⟩
        have sz : xs.length = items.size := by rw [← StrsAre.len_eq hi, Array.length_toList]
        refine fillTexts ((Walks.tuple hh3 _ l nI items).toS) s.heap.objs.size nS xs sz (by omega) (fun i v hv => texts_at hi (by rw [Array.getElem?_toList]; exact hv)) (items.size - 0) 0 _ rfl (Nat.zero_le _)
          ⟨⟨_, Heap.get?_push_size _ rfl, rfl, rfl⟩, hl2.push _⟩ ?first ?last
        case first =>
          have g := Heap.get?_push_of_some { cls := .type "tuple_iterator", data := .fields #[.ref l, .int 0 0] } hS
          exact SetOf_congr ((setObjOf_fresh (knd := PySem.strKind prog w) led).setOf g (by unfold scanBound; omega)) (fun _ => by simp) (by simp [unlike])
        case last =>
          intro s3 mv hS3
          obtain ⟨h3, g3, d3, t3, o3⟩ := s3
          obtain rfl : g3 = s.gens := mv.gens
          obtain rfl : d3 = s.drawn := mv.drawn
          obtain rfl : o3 = s.os := mv.os
          show wpAny _ _ _ _ _ _
          refine wpAny_pure ?_
          show wpAny _ _ (ret Value.none) _ _ _
          refine wpAny_pure ⟨rfl, h3, t3, rfl, hS3, fun b o q => ?_⟩
          have lb := Heap.lt_size q
          refine mv.heap b o ?_ (Heap.get?_push_of_some _ (Heap.get?_push_of_some _ q))
          rw [zz]
          simp only [List.mem_cons, List.not_mem_nil, or_false, not_or]
          exact ⟨Nat.ne_of_lt lb, Nat.ne_of_lt (Nat.lt_succ_of_lt lb)⟩
      · cases r2 with
        | error e => exact hr2
        | ok f2 =>
          cases f2 with
          | ret r =>
            obtain ⟨rfl, h2, tk, rfl, hS2, hk2⟩ := hr2
            repeat (any_goals (first | assumption | wp_step))
            exact h _ _ hS2 hk2
          | _ => exact hr2.elim
    | _ => exact hr.elim
end
/-- len(set(t)), t a tuple of texts -/
def tLenSetT (K : PySem.W.Frag) (ta : TE) : TE := fun σ H Q => ta σ H fun x H1 => ∃ l, ∃ xs : List Str, x = .ref l ∧ SqT K H1 l (xs.map V.str) ∧ xs.length < 4000 ∧ Q (.int (unlike xs).length) H1
theorem pe_lenSetT {X : Cx} {a : Expr} {ta : TE} {p p2 q pos : Pos} (hc : X.calm = true) (hg : Gl X "len") (hm : X.mg "len" = none) (hg2 : Gl X "set") (hm2 : X.mg "set" = none) (ha : PE X a ta)
    (na : starEach [a] X.env = (false, eval a X.env) :: starEach [] X.env) : PE X (.Call (.Name "len" p) [.Call (.Name "set" p2) [a] [] q] [] pos) (tLenSetT X.K ta) := by
  refine ⟨fun pins s σ H Q I h => Call_ (ld_blt I hg hm boot_len ?_)⟩
  refine PyProof.Rows.callWith_builtin1 (PyProof.Rows.args_cons ?_ rfl) rfl rfl
  refine Call_ (ld_blt I hg2 hm2 boot_set ?_)
  refine PyProof.Rows.callWith_type1 (PyProof.Rows.args_cons (thn (ha.run pins s σ H _ I h) fun v s1 ⟨x, H1, I1, r1, l, xs, ex, hq, hn, q1⟩ => PyProof.Rows.args_nil ?_) na) na rfl
  subst ex
  cases r1
  obtain ⟨its, r, pl, hz⟩ := I1.tuple hq
  refine call_setT (I1.ok.hd hc) pl (by simpa using strsAre_of r) hn fun h' tk hS hk => PyProof.Rows.args_nil ?_
  obtain ⟨o, es, ep, t, ho, hex, hd, _, _, _, hf, ec⟩ := hS
  have I2 : Inv X pins σ H1 { s1 with heap := h', toks := tk } := I1.kept hk
  have ln := unlike_len xs []
  simp only [List.length_nil, Nat.zero_add] at ln
  have ec2 : es.size = (unlike xs).length := ec
  exact call_len_set ho hex hd hf (by rw [ec2]; have : (unlike xs).length < 4000 := Nat.lt_of_le_of_lt ln hn; omega) ⟨.int (unlike xs).length, H1, I2.tok _, ⟨_, by rw [ec2]⟩, q1⟩
def dLenSet (a : EV) : EV := fun sw h => (a sw h).bind fun w h1 => match w with
  | .tup ws => (match strsOf ws with | some ss => if ss.length < 4000 then .ok (.int (unlike ss).length) h1 else .no | none => .no)
  | _ => .no
section
variable {A : Ax} {X : Cx} {N : List Str} {sc : Scope} {a : Expr} {ea : EV} {p p2 q pos : Pos}
theorem b_lenSet (x : XOk A N sc X) (hg : A.gt.lookup ("len" : Str) = some .blt) (h : gloB sc ("len" : Str) = true) (hg2 : A.gt.lookup ("set" : Str) = some .blt) (h2 : gloB sc ("set" : Str) = true) (ha : WE A X a ea) (h3 : nonStar a = true) :
    WE A X (.Call (.Name "len" p) [.Call (.Name "set" p2) [a] [] q] [] pos) (dLenSet ea) := fun wx tk =>
  PE_imp (pe_lenSetT x.calm (gl_of x (gloB_ok h).1) (x.glob.blt _ hg) (gl_of x (gloB_ok h2).1) (x.glob.blt _ hg2) (ha wx tk) (star_ok h3)) fun σ H Q t => by
    obtain ⟨k, sw, h, hs, hh, d⟩ := TEx.bind t
    refine ⟨k, sw, h, hs, hh, d.imp fun v H1 ⟨k1, sw1, w, h1, hs1, hh1, r, d1⟩ => ?_⟩
    split at d1
    · split at d1
      · rename_i ss es
        split at d1
        · rename_i hn
          obtain ⟨l, vs, rfl, q, r2⟩ := tupAt hh1 r
          cases strs_rep r2 es
          exact ⟨l, ss, rfl, x.hK ▸ q, hn, d1 _ k1 H1 (.refl _ _) hh1 (by simp only [Rep])⟩
        · exact d1.elim
      · exact d1.elim
    · exact d1.elim
end
end KW

set_option Elab.async false
set_option linter.all false
set_option maxRecDepth 100000
set_option maxHeartbeats 4000000
/-! what the module's names hold, from a list -/
namespace KW
open PySem L2
def GE (A : Ax) (mg : Str → Option Value) (x : Str) : Gk → Prop
  | .fn f => ∃ a, A.fa f = some a ∧ mg x = some (.ref a)
  | .cls c => ∃ C, A.cl c = some C ∧ mg x = some (.ref C)
  | .cst w => ∃ u v, mg x = some u ∧ RelV v u ∧ ∀ k, Rep A.toGx k w v
  | .blt => mg x = none
def GEs (A : Ax) (mg : Str → Option Value) : List (Str × Gk) → Prop
  | [] => True
  | e :: r => GE A mg e.1 e.2 ∧ GEs A mg r
theorem GEs.at {A : Ax} {mg : Str → Option Value} {x : Str} {g : Gk} : ∀ {t : List (Str × Gk)}, GEs A mg t → t.lookup x = some g → GE A mg x g
  | [], _, h => by cases h
  | (y, u) :: r, ⟨h1, h2⟩, h => by
    rw [List.lookup_cons] at h
    split at h
    · rename_i e
      cases h
      rw [beq_iff_eq.mp e]; exact h1
    · exact GEs.at h2 h
theorem glob_of {A : Ax} {mg : Str → Option Value} (h : GEs A mg A.gt) : GlobOk A mg where
  fn := fun x f e => GEs.at h e
  cls := fun x c e => GEs.at h e
  cst := fun x w e => GEs.at h e
  blt := fun x e => GEs.at h e
theorem ge_str {A : Ax} {mg : Str → Option Value} {x s : Str} {t : Tok} (h : mg x = some (.str s t)) : GE A mg x (.cst (.str s)) := ⟨_, .str s, h, ⟨t, rfl⟩, fun _ => by simp only [Rep]⟩
theorem ge_int {A : Ax} {mg : Str → Option Value} {x : Str} {i : Int} {t : Tok} (h : mg x = some (.int i t)) : GE A mg x (.cst (.int i)) := ⟨_, .int i, h, ⟨t, rfl⟩, fun _ => by simp only [Rep]⟩
theorem ge_non {A : Ax} {mg : Str → Option Value} {x : Str} (h : mg x = some .none) : GE A mg x (.cst .non) := ⟨_, .non, h, rfl, fun _ => by simp only [Rep]⟩
theorem ge_bl {A : Ax} {mg : Str → Option Value} {x : Str} {b : Bool} (h : mg x = some (.bool b)) : GE A mg x (.cst (.bl b)) := ⟨_, .bl b, h, rfl, fun _ => by simp only [Rep]⟩
end KW

set_option Elab.async false
set_option linter.all false
set_option maxRecDepth 100000
set_option maxHeartbeats 4000000
/-! running the meanings by simp -/
namespace KW
open PySem L2
section
variable {α β : Type} {i j : Nat} {sw : WS} {h : WH} {w u : W} {a b c : EV} {ta tb : EB} {s r : EW} {m : Bool} {f g : W → W → WH → R W} {e : EA} {es : List W}
@[simp] theorem x_bind (x : α) (f : α → WH → R β) : (R.ok x h).bind f = f x h := rfl
@[simp] theorem x_bindN (f : α → WH → R β) : (R.no : R α).bind f = .no := rfl
@[simp] theorem x_bindX {c fs vs} (f : α → WH → R β) : (R.exc c fs vs h : R α).bind f = .exc c fs vs h := rfl
@[simp] theorem x_st (x : α) (f : α → WH → RS) : (R.ok x h).st sw f = f x h := rfl
@[simp] theorem x_stN (f : α → WH → RS) : (R.no : R α).st sw f = .no := rfl
@[simp] theorem x_stX {c fs vs} (f : α → WH → RS) : (R.exc c fs vs h : R α).st sw f = .exc sw c fs vs h := rfl
@[simp] theorem x_var : dVar i sw h = match sw[i]? with | some (some w) => .ok w h | _ => .no := rfl
@[simp] theorem x_c : dC w sw h = .ok w h := rfl
@[simp] theorem x_op : dOp f a b sw h = (a sw h).bind fun w h1 => (b sw h1).bind fun u h2 => f w u h2 := rfl
@[simp] theorem x_nil : aNil sw h = .ok [] h := rfl
@[simp] theorem x_cons : aCons a e sw h = (a sw h).bind fun w h1 => (e sw h1).bind fun ws h2 => .ok (w :: ws) h2 := rfl
@[simp] theorem x_tup : dTup e sw h = (e sw h).bind fun ws h1 => if ws.length ≤ lim then .ok (.tup ws) h1 else .no := rfl
@[simp] theorem x_lst : dLst m e sw h = (e sw h).bind fun ws h1 => if ws.length ≤ lim then newL m ws h1 else .no := rfl
@[simp] theorem x_newF : newL false es h = .ok (.lst es) h := rfl
@[simp] theorem x_newT : newL true es h = .ok (.ref h.length) (h ++ [.lst es]) := rfl
@[simp] theorem x_if : dIf ta a b sw h = (ta sw h).bind fun c h1 => if c then a sw h1 else b sw h1 := rfl
@[simp] theorem x_tst : dTst a sw h = (a sw h).bind fun w h1 => match w with | .bl b => .ok b h1 | _ => .no := rfl
@[simp] theorem x_tru : dTru a sw h = (a sw h).bind fun w h1 => match truW h1 w with | some b => .ok b h1 | none => .no := rfl
@[simp] theorem x_notT : dNotT ta sw h = (ta sw h).bind fun c h1 => .ok (!c) h1 := rfl
@[simp] theorem x_andT : dAndT ta tb sw h = (ta sw h).bind fun c h1 => if c then tb sw h1 else .ok false h1 := rfl
@[simp] theorem x_orT : dOrT ta tb sw h = (ta sw h).bind fun c h1 => if c then .ok true h1 else tb sw h1 := rfl
@[simp] theorem x_and : dAnd a b sw h = (a sw h).bind fun w h1 => match truW h1 w with | some true => b sw h1 | some false => .ok w h1 | none => .no := rfl
@[simp] theorem x_or : dOr a b sw h = (a sw h).bind fun w h1 => match truW h1 w with | some true => .ok w h1 | some false => b sw h1 | none => .no := rfl
@[simp] theorem x_not : dNot a sw h = (a sw h).bind fun w h1 => match truW h1 w with | some c => .ok (.bl (!c)) h1 | none => .no := rfl
@[simp] theorem x_neg : dNeg a sw h = (a sw h).bind fun w h1 => match w with | .int i => .ok (.int (-i)) h1 | _ => .no := rfl
@[simp] theorem x_chn : dChn f g a b c sw h = (a sw h).bind fun x h1 => (b sw h1).bind fun y h2 => (f x y h2).bind fun z h3 => match z with
  | .bl true => (c sw h3).bind fun u h4 => g y u h4 | .bl false => .ok (.bl false) h3 | _ => .no := rfl
@[simp] theorem x_call {φ : List W → WH → R W} : dCall φ e sw h = (e sw h).bind φ := rfl
@[simp] theorem x_bi {φ : List W → WH → R W} : dBi φ e sw h = (e sw h).bind φ := rfl
@[simp] theorem x_oNo : oNo sw h = .ok none h := rfl
@[simp] theorem x_oSome : oSome a sw h = (a sw h).bind fun w h1 => match w with | .int i => .ok (some i) h1 | _ => .no := rfl
@[simp] theorem x_sl {lo hi : EO} : dSl m a lo hi sw h = (a sw h).bind fun x h1 => (lo sw h1).bind fun l h2 => (hi sw h2).bind fun u h3 => fSl m x l u h3 := rfl
@[simp] theorem x_isT {T} : dIsT T a sw h = (a sw h).bind fun w h1 => match (tyW h1 w).bind fun t => kitB t T with | some b => .ok (.bl b) h1 | none => .no := rfl
@[simp] theorem x_bm {T} {F : FM} : dBM T F a e sw h = (a sw h).bind fun w h1 => if tyIs T h1 w then (e sw h1).bind fun ws h2 => F w ws h2 else .no := rfl
@[simp] theorem x_fld : dFld a i sw h = (a sw h).bind fun w h1 => match insOf h1 w with
  | some (_, fs, vs) => (match lookF i fs vs with | some x => .ok x h1 | none => .no) | none => .no := rfl
@[simp] theorem x_sNil : sNil sw h = .ok (.next sw) h := rfl
/-- one thing after another, as a function of the first one's result -/
def RS.seq (x : RS) (r : EW) : RS := match x with | .ok (.next sw1) h1 => r sw1 h1 | x => x
@[simp] theorem x_seq : sSeq s r sw h = (s sw h).seq r := rfl
@[simp] theorem q_next : (RS.ok (.next sw) h).seq r = r sw h := rfl
@[simp] theorem q_ret : (RS.ok (.ret w) h).seq r = .ok (.ret w) h := rfl
@[simp] theorem q_brk : (RS.ok (.brk sw) h).seq r = .ok (.brk sw) h := rfl
@[simp] theorem q_cont : (RS.ok (.cont sw) h).seq r = .ok (.cont sw) h := rfl
@[simp] theorem q_no : RS.no.seq r = .no := rfl
@[simp] theorem q_exc {c fs vs} : (RS.exc sw c fs vs h).seq r = .exc sw c fs vs h := rfl
@[simp] theorem x_set : sSet i a sw h = (a sw h).st sw fun w h1 => .ok (.next (sw.set i (some w))) h1 := rfl
@[simp] theorem x_par : sPar i j e sw h = (e sw h).st sw fun ws h1 => match ws with | [w, u] => .ok (.next ((sw.set i (some w)).set j (some u))) h1 | _ => .no := rfl
@[simp] theorem x_tg {t : W → WS → Option WS} : sTg t a sw h = (a sw h).st sw fun w h1 => match t w sw with | some sw' => .ok (.next sw') h1 | none => .no := rfl
@[simp] theorem x_sexpr : sExpr a sw h = (a sw h).st sw fun _ h1 => .ok (.next sw) h1 := rfl
@[simp] theorem x_ret : sRet a sw h = (a sw h).st sw fun w h1 => .ok (.ret w) h1 := rfl
@[simp] theorem x_sif : sIf ta s r sw h = (ta sw h).st sw fun c h1 => if c then s sw h1 else r sw h1 := rfl
@[simp] theorem x_setI : sSetI a b c sw h = (c sw h).st sw fun x h1 => (a sw h1).st sw fun y h2 => (b sw h2).st sw fun z h3 => match fSetI y z x h3 with | some h4 => .ok (.next sw) h4 | none => .no := rfl
@[simp] theorem x_stF {lay} : sStF lay a i b sw h = (b sw h).st sw fun x h1 => (a sw h1).st sw fun y h2 => match fStF lay y i x h2 with | some h4 => .ok (.next sw) h4 | none => .no := rfl
@[simp] theorem x_for {it : EI} {t : Tg} : sFor it t s sw h = (it sw h).st sw fun x h1 => forL x.2 x.1 (tgW t) s x.1 sw h1 := rfl
@[simp] theorem x_thru : sThru s sw h = match s sw h with | .exc .. => .no | r => r := rfl
@[simp] theorem x_any : iAny a sw h = (a sw h).bind fun w h1 => match w with
  | .str x => .ok (signs x, none) h1 | .tup ws => .ok (ws, none) h1 | .lst ws => .ok (ws, none) h1
  | .ref r => (match h1[r]? with | some (.lst ws) => .ok (ws, some r) h1 | _ => .no) | _ => .no := rfl
@[simp] theorem x_enum : iEnumW a sw h = (a sw h).bind fun w h1 => match w with | .tup ws => .ok (enumW ws, none) h1 | .lst ws => .ok (enumW ws, none) h1 | _ => .no := rfl
@[simp] theorem x_rg1 : iRg1 e sw h = (e sw h).bind fun ws h1 => match ws with | [.int j] => if -lim ≤ j ∧ j ≤ lim then .ok (rngW 0 j.toNat, none) h1 else .no | _ => .no := rfl
@[simp] theorem x_comp {it : EI} {t : Tg} {cd : EB} {own : List Nat} : dComp m it t cd a own sw h = (it sw h).bind fun x h1 => (compL x.2 x.1 (tgW t) cd a (wipeW sw own) x.1 [] h1).bind fun ws h2 => newL m ws h2 := rfl
@[simp] theorem x_yes : bYes sw h = .ok true h := rfl
/-! the operators on numbers and texts -/
@[simp] theorem f_add {i j : Int} : fAdd m (.int i) (.int j) h = .ok (.int (i + j)) h := rfl
@[simp] theorem f_sub {i j : Int} : fSub (.int i) (.int j) h = .ok (.int (i - j)) h := rfl
/-- small enough -/
def mulB (i j : Int) : Bool := decide (i.natAbs.log2 + j.natAbs.log2 < 1000000)
def divB (j : Int) : Bool := decide (0 < j ∧ j.natAbs.log2 < 9000)
def powB (i j : Int) : Bool := decide (0 ≤ j ∧ (i.natAbs.log2 + 1) * j.toNat ≤ 1000000)
@[simp] theorem f_mul {i j : Int} : fMul m (.int i) (.int j) h = if mulB i j then .ok (.int (i * j)) h else .no := by simp [fMul, mulB]
@[simp] theorem f_div {i j : Int} : fDiv (.int i) (.int j) h = if divB j then .ok (.int (i / j)) h else .no := by simp [fDiv, divB]
@[simp] theorem f_pow {i j : Int} : fPow (.int i) (.int j) h = if powB i j then .ok (.int (i ^ j.toNat)) h else .no := by simp [fPow, powB]
@[simp] theorem f_mod {i j : Int} : fMod (.int i) (.int j) h = if 0 < j then .ok (.int (i % j)) h else .no := rfl
@[simp] theorem f_int {p : Int → Int → Bool} {i j : Int} : fInt p (.int i) (.int j) h = .ok (.bl (p i j)) h := rfl
@[simp] theorem f_ixT {ws : List W} {i : Int} : fIx (.tup ws) (.int i) h = match atI ws i with | some w => .ok w h | none => .no := rfl
@[simp] theorem f_ixL {ws : List W} {i : Int} : fIx (.lst ws) (.int i) h = match atI ws i with | some w => .ok w h | none => .no := rfl
theorem f_ixR {r : Nat} {ws : List W} {i : Int} (e : h[r]? = some (.lst ws)) : fIx (.ref r) (.int i) h = match atI ws i with | some w => .ok w h | none => .no := by
  have q : seqOf h (.ref r) = some ws := by simp [seqOf, lstOf, e]
  unfold fIx
  simp only [q]
  try (cases atI ws i <;> rfl)
@[simp] theorem at0 (x : α) (xs : List α) : atI (x :: xs) 0 = some x := by
  simp [atI, ixN]
@[simp] theorem at1 (x y : α) (xs : List α) : atI (x :: y :: xs) 1 = some y := by
  have : (1 : Int) < ((x :: y :: xs).length : Nat) := by simp only [List.length_cons]; omega
  rw [atI, ixN, if_pos (by decide), if_pos this]; rfl
@[simp] theorem at2 (x y z : α) (xs : List α) : atI (x :: y :: z :: xs) 2 = some z := by
  have : (2 : Int) < ((x :: y :: z :: xs).length : Nat) := by simp only [List.length_cons]; omega
  rw [atI, ixN, if_pos (by decide), if_pos this]; rfl
theorem atN {xs : List α} {i : Int} (h0 : 0 ≤ i) (h1 : i < xs.length) : atI xs i = some (xs[i.toNat]'(by omega)) := by
  rw [atI, ixN, if_pos h0, if_pos h1]
  exact List.getElem?_eq_getElem _
theorem atLast {xs : List α} {x : α} : atI (xs ++ [x]) (-1) = some x := atI_last xs x
theorem setI_ok {r : Nat} {ws : List W} {v : W} (e : h[r]? = some (.lst ws)) {n : Nat} {i : Int} (hi : ixN ws.length i = some n) : fSetI (.ref r) (.int i) v h = some (h.set r (.lst (ws.set n v))) := by
  simp [fSetI, e, hi]
theorem get_same {r : Nat} {x y : Ob} (e : h[r]? = some y) : (h.set r x)[r]? = some x := by
  rw [List.getElem?_set_self (List.getElem?_eq_some_iff.mp e).1]
/-! what a call leaves of the heap -/
theorem gc_len {h h' : WH} (e : h'.length = h.length) : gc h.length w h h' = h' := by
  unfold gc
  split
  · exact List.take_of_length_le (by omega)
  · rfl
@[simp] theorem gc_set {r : Nat} {o : Ob} : gc h.length w h (h.set r o) = h.set r o := gc_len (by simp)
@[simp] theorem gc_self : gc h.length w h h = h := gc_len rfl
theorem gc_drop {h h1 e : WH} (el : h1.length = h.length) (hw : w.lt h.length = true) (ho : ∀ i, i < h.length → h1[i]? = h[i]? ∨ ∃ o, h1[i]? = some o ∧ o.lt h.length = true) : gc h.length w h (h1 ++ e) = h1 := by
  unfold gc
  rw [if_pos]
  · rw [← el]; simp
  · simp only [Bool.and_eq_true, List.all_eq_true, List.mem_range, Bool.or_eq_true, decide_eq_true_eq]
    refine ⟨hw, fun i hi => ?_⟩
    have q : (h1 ++ e)[i]? = h1[i]? := List.getElem?_append_left (by omega)
    rw [q]
    rcases ho i hi with z | ⟨o, z, z2⟩
    · exact .inl z
    · rw [z]; exact .inr z2
theorem lg {i : Int} (n : Nat) (h : i.natAbs < 2 ^ n) (hn : 0 < n) : i.natAbs.log2 < n := by
  by_cases z : i.natAbs = 0
  · rw [z]; simpa using hn
  · exact (Nat.log2_lt z).mpr h
theorem lg0 {i : Int} (n : Nat) (h : i.natAbs < 2 ^ n) : i.natAbs.log2 ≤ n := by
  by_cases z : i.natAbs = 0
  · rw [z]; simp
  · exact Nat.le_of_lt ((Nat.log2_lt z).mpr h)
theorem mulB_of {i j : Int} (n : Nat) (hi : i.natAbs < 2 ^ n) (hj : j.natAbs < 2 ^ n) (hn : n < 400000) : mulB i j = true := by
  have := lg0 n hi
  have := lg0 n hj
  exact decide_eq_true (by omega)
theorem divB_of {j : Int} (h0 : 0 < j) (hj : j < 2 ^ 100) : divB j = true := decide_eq_true ⟨h0, by have := lg0 (i := j) 100 (by omega); omega⟩
theorem powB5 {i : Int} (n : Nat) (hi : i.natAbs < 2 ^ n) (hn : n < 100000) : powB i 5 = true := decide_eq_true ⟨by decide, by have := lg0 n hi; show (_ + 1) * 5 ≤ _; omega⟩
theorem atMem {xs : List α} {i : Int} (h0 : 0 ≤ i) (h1 : i < xs.length) : ∃ x, x ∈ xs ∧ atI xs i = some x := ⟨_, List.getElem_mem _, atN h0 h1⟩
/-! loops by what stands at each turn -/
theorem forL_go {src : Option Nat} {ws0 : List W} {t : W → WS → Option WS} {body : EW} (P : Nat → WS → WH → Prop) {n : Nat} :
    ∀ (items : List W) (i : Nat) (sw : WS) (h : WH), i + items.length = n → P i sw h → (∀ i sw h, i ≤ n → P i sw h → srcOk src ws0 h = true) →
      (∀ j w sw h, items[j]? = some w → P (i + j) sw h → ∃ sw1 sw2 h2, t w sw = some sw1 ∧ (body sw1 h = .ok (.next sw2) h2 ∨ body sw1 h = .ok (.cont sw2) h2) ∧ P (i + j + 1) sw2 h2) → ∃ sw' h', forL src ws0 t body items sw h = .ok (.next sw') h' ∧ P n sw' h'
  | [], i, sw, h, e, p, hs, _ => by
    obtain rfl : i = n := by simpa using e
    exact ⟨sw, h, by unfold forL; rw [if_pos (hs i sw h (Nat.le_refl _) p)], p⟩
  | w :: rest, i, sw, h, e, p, hs, st => by
    obtain ⟨sw1, sw2, h2, e1, e2, p2⟩ := st 0 w sw h rfl p
    have e' : i + 1 + rest.length = n := by simp only [List.length_cons] at e; omega
    obtain ⟨sw', h', e3, p3⟩ := forL_go (src := src) (ws0 := ws0) (t := t) (body := body) P rest (i + 1) sw2 h2 e' p2 hs fun j u s g ej pj => by
      have := st (j + 1) u s g (by simpa using ej) (by rw [show i + (j + 1) = i + 1 + j from by omega]; exact pj)
      rw [show i + (j + 1) = i + 1 + j from by omega] at this
      exact this
    refine ⟨sw', h', ?_, p3⟩
    unfold forL
    rw [if_pos (hs i sw h (by omega) p), e1]
    rcases e2 with e2 | e2
    · simp only [e2]; exact e3
    · simp only [e2]; exact e3
theorem forL_run {src : Option Nat} {ws0 : List W} {t : W → WS → Option WS} {body : EW} {items : List W} {sw : WS} {h : WH} (P : Nat → WS → WH → Prop) (p0 : P 0 sw h) (hs : ∀ i sw h, i ≤ items.length → P i sw h → srcOk src ws0 h = true)
    (st : ∀ i w sw h, items[i]? = some w → P i sw h → ∃ sw1 sw2 h2, t w sw = some sw1 ∧ (body sw1 h = .ok (.next sw2) h2 ∨ body sw1 h = .ok (.cont sw2) h2) ∧ P (i + 1) sw2 h2) :
    ∃ sw' h', forL src ws0 t body items sw h = .ok (.next sw') h' ∧ P items.length sw' h' :=
  forL_go P items 0 sw h (by simp) p0 hs fun j w s g e p => by
    rw [Nat.zero_add] at p ⊢
    exact st j w s g e p
theorem compL_go {src : Option Nat} {ws0 : List W} {t : W → WS → Option WS} {cond : EB} {elt : EV} {sw : WS} (P : Nat → List W → WH → Prop) {n : Nat} :
    ∀ (items : List W) (i : Nat) (acc : List W) (h : WH), i + items.length = n → P i acc h → (∀ i acc h, i ≤ n → P i acc h → srcOk src ws0 h = true) →
      (∀ j w acc h, items[j]? = some w → P (i + j) acc h → ∃ sw1 h1, t w sw = some sw1 ∧ ((cond sw1 h = .ok false h1 ∧ P (i + j + 1) acc h1) ∨ ∃ y h2, cond sw1 h = .ok true h1 ∧ elt sw1 h1 = .ok y h2 ∧ acc.length < lim ∧ P (i + j + 1) (acc ++ [y]) h2)) →
      ∃ acc' h', compL src ws0 t cond elt sw items acc h = .ok acc' h' ∧ P n acc' h'
  | [], i, acc, h, e, p, hs, _ => by
    obtain rfl : i = n := by simpa using e
    exact ⟨acc, h, by unfold compL; rw [if_pos (hs i acc h (Nat.le_refl _) p)], p⟩
  | w :: rest, i, acc, h, e, p, hs, st => by
    have e' : i + 1 + rest.length = n := by simp only [List.length_cons] at e; omega
    have st' : ∀ j u a g, rest[j]? = some u → P (i + 1 + j) a g → ∃ sw1 h1, t u sw = some sw1 ∧ ((cond sw1 g = .ok false h1 ∧ P (i + 1 + j + 1) a h1) ∨ ∃ y h2, cond sw1 g = .ok true h1 ∧ elt sw1 h1 = .ok y h2 ∧ a.length < lim ∧ P (i + 1 + j + 1) (a ++ [y]) h2) := fun j u a g ej pj => by
      have := st (j + 1) u a g (by simpa using ej) (by rw [show i + (j + 1) = i + 1 + j from by omega]; exact pj)
      rw [show i + (j + 1) = i + 1 + j from by omega] at this
      exact this
    obtain ⟨sw1, h1, e1, e2⟩ := st 0 w acc h rfl p
    unfold compL
    rw [if_pos (hs i acc h (by omega) p), e1]
    rcases e2 with ⟨e2, p2⟩ | ⟨y, h2, e2, e3, hl, p2⟩
    · simp only [e2]
      exact compL_go P rest (i + 1) acc h1 e' p2 hs st'
    · simp only [e2, e3, if_pos hl]
      exact compL_go P rest (i + 1) (acc ++ [y]) h2 e' p2 hs st'
theorem compL_run {src : Option Nat} {ws0 : List W} {t : W → WS → Option WS} {cond : EB} {elt : EV} {sw : WS} {items : List W} {h : WH} (P : Nat → List W → WH → Prop) (p0 : P 0 [] h) (hs : ∀ i acc h, i ≤ items.length → P i acc h → srcOk src ws0 h = true)
    (st : ∀ i w acc h, items[i]? = some w → P i acc h → ∃ sw1 h1, t w sw = some sw1 ∧ ((cond sw1 h = .ok false h1 ∧ P (i + 1) acc h1) ∨ ∃ y h2, cond sw1 h = .ok true h1 ∧ elt sw1 h1 = .ok y h2 ∧ acc.length < lim ∧ P (i + 1) (acc ++ [y]) h2)) :
    ∃ acc' h', compL src ws0 t cond elt sw items [] h = .ok acc' h' ∧ P items.length acc' h' :=
  compL_go P items 0 [] h (by simp) p0 hs fun j w s g e p => by
    rw [Nat.zero_add] at p ⊢
    exact st j w s g e p
/-- a comprehension that changes nothing: a map -/
theorem compL_map {ws0 : List W} {t : W → WS → Option WS} {elt : EV} {sw : WS} {h : WH} (f : W → W) : ∀ (items acc : List W), (∀ w ∈ items, ∃ sw1, t w sw = some sw1 ∧ elt sw1 h = .ok (f w) h) → acc.length + items.length ≤ lim → compL none ws0 t bYes elt sw items acc h = .ok (acc ++ items.map f) h
  | [], acc, _, _ => by unfold compL; simp [srcOk]
  | w :: rest, acc, st, hl => by
    obtain ⟨sw1, e1, e2⟩ := st w (List.mem_cons_self ..)
    simp only [List.length_cons] at hl
    unfold compL
    have q : srcOk none ws0 h = true := rfl
    rw [if_pos q, e1]
    simp only [x_yes, e2]
    rw [if_pos (by omega), compL_map f rest (acc ++ [f w]) (fun u hu => st u (List.mem_cons_of_mem _ hu)) (by simp only [List.length_append, List.length_singleton]; omega)]
    simp
end
end KW

set_option Elab.async false
set_option linter.all false
set_option maxRecDepth 100000
set_option maxHeartbeats 4000000
namespace KW.P
open PySem L2 KW
def top (i : Nat) : Stmt := PySem.Challenge.pw_knockamid_k15_whole_talks_cut_and_joined.main.body.getD i (.Pass ⟨0, 0, 0, 0⟩)
def gtab : List (Str × Gk) := [(("ANSWER" : Str), .cst (.str ("answer" : Str))),
  (("ASK" : Str), .cst (.str ("ask" : Str))),
  (("Face" : Str), .cls 0),
  (("KNOCK" : Str), .cst (.str ("knock" : Str))),
  (("LETTERS" : Str), .cst (.str ("abcdefghijklmnopqrstuvwxyz" : Str))),
  (("MAIN" : Str), .cst (.str ("main" : Str))),
  (("MOST_DOORS" : Str), .cst (.int (5))),
  (("MOST_SIGNS" : Str), .cst (.int (6))),
  (("MOST_SIZE" : Str), .cst (.int (4))),
  (("MOST_STRANGERS" : Str), .cst (.int (4))),
  (("TELL" : Str), .cst (.str ("tell" : Str))),
  (("_law_face" : Str), .fn 16),
  (("_law_hand" : Str), .fn 12),
  (("_law_move" : Str), .fn 17),
  (("_law_names" : Str), .fn 15),
  (("_law_of" : Str), .fn 14),
  (("_law_reply" : Str), .fn 18),
  (("_law_right" : Str), .fn 22),
  (("_law_shut" : Str), .fn 20),
  (("_law_steps_right" : Str), .fn 21),
  (("_law_take" : Str), .fn 13),
  (("_law_talk" : Str), .fn 19),
  (("abs" : Str), .blt),
  (("all" : Str), .blt),
  (("are_names" : Str), .fn 10),
  (("are_unlike" : Str), .fn 9),
  (("bool" : Str), .blt),
  (("enumerate" : Str), .blt),
  (("gone_through" : Str), .fn 3),
  (("int" : Str), .blt),
  (("is_name" : Str), .fn 8),
  (("is_one_of" : Str), .fn 1),
  (("is_talk" : Str), .fn 4),
  (("is_whole_faces" : Str), .fn 7),
  (("is_whole_talks" : Str), .fn 5),
  (("is_worth" : Str), .fn 0),
  (("isinstance" : Str), .blt),
  (("len" : Str), .blt),
  (("max" : Str), .blt),
  (("min" : Str), .blt),
  (("opened" : Str), .fn 6),
  (("range" : Str), .blt),
  (("set" : Str), .blt),
  (("str" : Str), .blt),
  (("tuple" : Str), .blt),
  (("word_of" : Str), .fn 2)]
def fnmT (i : Nat) : Str := (["size", "doors", "strangers"] : List Str).getD i "_"
def mnT (i : Nat) : Str := ([] : List Str).getD i "_"
def layT : Nat → Nat → Bool
  | 0, 0 => true
  | 0, 1 => true
  | 0, 2 => true
  | _, _ => false
def iniT : Nat → Option Nat
  | 0 => some 11
  | _ => none
def mtT : Nat → Nat → Option Nat

  | _, _ => none
def valT : Nat → Bool
  | 0 => true
  | _ => false
abbrev AA (K : PySem.W.Frag) (a c : Nat → Option Addr) : Ax := { K := K, cl := c, fn := fnmT, lay := layT, gt := gtab, fa := a, mt := mtT, mn := mnT, ini := iniT, val := valT }
section
variable {K : PySem.W.Frag} {a c : Nat → Option Addr} {X : Cx} {Φ : Fns} {n : Nat}
theorem g_ANSWER : (AA K a c).gt.lookup ("ANSWER" : Str) = some (.cst (.str ("answer" : Str))) := gtB_ok (t := gtab) (by decide +kernel)
theorem g_ASK : (AA K a c).gt.lookup ("ASK" : Str) = some (.cst (.str ("ask" : Str))) := gtB_ok (t := gtab) (by decide +kernel)
theorem g_Face : (AA K a c).gt.lookup ("Face" : Str) = some (.cls 0) := gtB_ok (t := gtab) (by decide +kernel)
theorem g_KNOCK : (AA K a c).gt.lookup ("KNOCK" : Str) = some (.cst (.str ("knock" : Str))) := gtB_ok (t := gtab) (by decide +kernel)
theorem g_LETTERS : (AA K a c).gt.lookup ("LETTERS" : Str) = some (.cst (.str ("abcdefghijklmnopqrstuvwxyz" : Str))) := gtB_ok (t := gtab) (by decide +kernel)
theorem g_MAIN : (AA K a c).gt.lookup ("MAIN" : Str) = some (.cst (.str ("main" : Str))) := gtB_ok (t := gtab) (by decide +kernel)
theorem g_MOST_DOORS : (AA K a c).gt.lookup ("MOST_DOORS" : Str) = some (.cst (.int (5))) := gtB_ok (t := gtab) (by decide +kernel)
theorem g_MOST_SIGNS : (AA K a c).gt.lookup ("MOST_SIGNS" : Str) = some (.cst (.int (6))) := gtB_ok (t := gtab) (by decide +kernel)
theorem g_MOST_SIZE : (AA K a c).gt.lookup ("MOST_SIZE" : Str) = some (.cst (.int (4))) := gtB_ok (t := gtab) (by decide +kernel)
theorem g_MOST_STRANGERS : (AA K a c).gt.lookup ("MOST_STRANGERS" : Str) = some (.cst (.int (4))) := gtB_ok (t := gtab) (by decide +kernel)
theorem g_TELL : (AA K a c).gt.lookup ("TELL" : Str) = some (.cst (.str ("tell" : Str))) := gtB_ok (t := gtab) (by decide +kernel)
theorem g__law_face : (AA K a c).gt.lookup ("_law_face" : Str) = some (.fn 16) := gtB_ok (t := gtab) (by decide +kernel)
theorem g__law_hand : (AA K a c).gt.lookup ("_law_hand" : Str) = some (.fn 12) := gtB_ok (t := gtab) (by decide +kernel)
theorem g__law_move : (AA K a c).gt.lookup ("_law_move" : Str) = some (.fn 17) := gtB_ok (t := gtab) (by decide +kernel)
theorem g__law_names : (AA K a c).gt.lookup ("_law_names" : Str) = some (.fn 15) := gtB_ok (t := gtab) (by decide +kernel)
theorem g__law_of : (AA K a c).gt.lookup ("_law_of" : Str) = some (.fn 14) := gtB_ok (t := gtab) (by decide +kernel)
theorem g__law_reply : (AA K a c).gt.lookup ("_law_reply" : Str) = some (.fn 18) := gtB_ok (t := gtab) (by decide +kernel)
theorem g__law_right : (AA K a c).gt.lookup ("_law_right" : Str) = some (.fn 22) := gtB_ok (t := gtab) (by decide +kernel)
theorem g__law_shut : (AA K a c).gt.lookup ("_law_shut" : Str) = some (.fn 20) := gtB_ok (t := gtab) (by decide +kernel)
theorem g__law_steps_right : (AA K a c).gt.lookup ("_law_steps_right" : Str) = some (.fn 21) := gtB_ok (t := gtab) (by decide +kernel)
theorem g__law_take : (AA K a c).gt.lookup ("_law_take" : Str) = some (.fn 13) := gtB_ok (t := gtab) (by decide +kernel)
theorem g__law_talk : (AA K a c).gt.lookup ("_law_talk" : Str) = some (.fn 19) := gtB_ok (t := gtab) (by decide +kernel)
theorem g_abs : (AA K a c).gt.lookup ("abs" : Str) = some (.blt) := gtB_ok (t := gtab) (by decide +kernel)
theorem g_all : (AA K a c).gt.lookup ("all" : Str) = some (.blt) := gtB_ok (t := gtab) (by decide +kernel)
theorem g_are_names : (AA K a c).gt.lookup ("are_names" : Str) = some (.fn 10) := gtB_ok (t := gtab) (by decide +kernel)
theorem g_are_unlike : (AA K a c).gt.lookup ("are_unlike" : Str) = some (.fn 9) := gtB_ok (t := gtab) (by decide +kernel)
theorem g_bool : (AA K a c).gt.lookup ("bool" : Str) = some (.blt) := gtB_ok (t := gtab) (by decide +kernel)
theorem g_enumerate : (AA K a c).gt.lookup ("enumerate" : Str) = some (.blt) := gtB_ok (t := gtab) (by decide +kernel)
theorem g_gone_through : (AA K a c).gt.lookup ("gone_through" : Str) = some (.fn 3) := gtB_ok (t := gtab) (by decide +kernel)
theorem g_int : (AA K a c).gt.lookup ("int" : Str) = some (.blt) := gtB_ok (t := gtab) (by decide +kernel)
theorem g_is_name : (AA K a c).gt.lookup ("is_name" : Str) = some (.fn 8) := gtB_ok (t := gtab) (by decide +kernel)
theorem g_is_one_of : (AA K a c).gt.lookup ("is_one_of" : Str) = some (.fn 1) := gtB_ok (t := gtab) (by decide +kernel)
theorem g_is_talk : (AA K a c).gt.lookup ("is_talk" : Str) = some (.fn 4) := gtB_ok (t := gtab) (by decide +kernel)
theorem g_is_whole_faces : (AA K a c).gt.lookup ("is_whole_faces" : Str) = some (.fn 7) := gtB_ok (t := gtab) (by decide +kernel)
theorem g_is_whole_talks : (AA K a c).gt.lookup ("is_whole_talks" : Str) = some (.fn 5) := gtB_ok (t := gtab) (by decide +kernel)
theorem g_is_worth : (AA K a c).gt.lookup ("is_worth" : Str) = some (.fn 0) := gtB_ok (t := gtab) (by decide +kernel)
theorem g_isinstance : (AA K a c).gt.lookup ("isinstance" : Str) = some (.blt) := gtB_ok (t := gtab) (by decide +kernel)
theorem g_len : (AA K a c).gt.lookup ("len" : Str) = some (.blt) := gtB_ok (t := gtab) (by decide +kernel)
theorem g_max : (AA K a c).gt.lookup ("max" : Str) = some (.blt) := gtB_ok (t := gtab) (by decide +kernel)
theorem g_min : (AA K a c).gt.lookup ("min" : Str) = some (.blt) := gtB_ok (t := gtab) (by decide +kernel)
theorem g_opened : (AA K a c).gt.lookup ("opened" : Str) = some (.fn 6) := gtB_ok (t := gtab) (by decide +kernel)
theorem g_range : (AA K a c).gt.lookup ("range" : Str) = some (.blt) := gtB_ok (t := gtab) (by decide +kernel)
theorem g_set : (AA K a c).gt.lookup ("set" : Str) = some (.blt) := gtB_ok (t := gtab) (by decide +kernel)
theorem g_str : (AA K a c).gt.lookup ("str" : Str) = some (.blt) := gtB_ok (t := gtab) (by decide +kernel)
theorem g_tuple : (AA K a c).gt.lookup ("tuple" : Str) = some (.blt) := gtB_ok (t := gtab) (by decide +kernel)
theorem g_word_of : (AA K a c).gt.lookup ("word_of" : Str) = some (.fn 2) := gtB_ok (t := gtab) (by decide +kernel)
/-! is_worth -/
abbrev t0 : Stmt := top 10
def N0 : List Str := ["face", "thing"]
def d0 (Φ : Fns) : EW :=
 sSeq (sRet (dAnd (dIsT "int" (dVar 1)) (dAnd (dNot (dIsT "bool" (dVar 1))) (dChn (fInt fun i j => decide (i ≤ j)) (fInt fun i j => decide (i < j)) (dC (.int 0)) (dVar 1) (dFld (dVar 0) 0)))))
 (sNil)
set_option maxRecDepth 100000 in
theorem w0 (x : StOk (AA K a c) N0 (defScope t0) X) (C : COk (AA K a c) Φ n X) (FO : FldOk (AA K a c)) : WSs (AA K a c) X (defBody t0) (d0 Φ) :=
 (ws_cons (ws_ret (we_and x.toXOk.hK (b_isT x.toXOk (T := "int") (by rfl) g_isinstance (by decide +kernel) g_int (by decide +kernel) (we_v x.toXOk 1 (by decide +kernel)) rfl) (we_and x.toXOk.hK (we_not x.toXOk.hK (b_isT x.toXOk (T := "bool") (by rfl) g_isinstance (by decide +kernel) g_bool (by decide +kernel) (we_v x.toXOk 1 (by decide +kernel)) rfl)) (we_one (we_chain op_le opw_int op_lt opw_int we_int (we_v x.toXOk 1 (by decide +kernel)) (we_fld x.toXOk.hK FO (f := 0) rfl (we_v x.toXOk 0 (by decide +kernel)) rfl) rfl)))))
 ws_nil)
/-! is_one_of -/
abbrev t1 : Stmt := top 11
def N1 : List Str := ["thing", "some"]
def d1 (Φ : Fns) : EW :=
 sSeq (sRet (dAnd (dIsT "str" (dVar 0)) (dOp (fIn false) (dVar 0) (dVar 1))))
 (sNil)
set_option maxRecDepth 100000 in
theorem w1 (x : StOk (AA K a c) N1 (defScope t1) X) (C : COk (AA K a c) Φ n X) (FO : FldOk (AA K a c)) : WSs (AA K a c) X (defBody t1) (d1 Φ) :=
 (ws_cons (ws_ret (we_and x.toXOk.hK (b_isT x.toXOk (T := "str") (by rfl) g_isinstance (by decide +kernel) g_str (by decide +kernel) (we_v x.toXOk 0 (by decide +kernel)) rfl) (we_one (we_cmp (op_inW x.toXOk.u65) (opw_in x.toXOk.hK) rfl (we_v x.toXOk 0 (by decide +kernel)) (we_v x.toXOk 1 (by decide +kernel))))))
 ws_nil)
/-! word_of -/
abbrev t2 : Stmt := top 12
def N2 : List Str := ["face", "letter", "word"]
def d2 (Φ : Fns) : EW :=
 sSeq (sIf (dOrT (dNotT (dTru (dIsT "tuple" (dVar 1)))) (dOrT (dTst (dOp (fIn true) (dBi bLen (aCons (dVar 1) (aNil))) (dTup (aCons (dC (.int 2)) (aCons (dC (.int 3)) (aNil)))))) (dNotT (dTru (dCall (Φ 0) (aCons (dVar 0) (aCons (dOp fIx (dVar 1) (dNeg (dC (.int 1)))) (aNil)))))))) (sSeq (sRet (dC .non))
 (sNil)) (sNil))
 (sSeq (sSet 2 (dOp fIx (dVar 1) (dC (.int 0))))
 (sSeq (sIf (dTst (dOp (fEq false) (dBi bLen (aCons (dVar 1) (aNil))) (dC (.int 2)))) (sSeq (sRet (dIf (dTru (dCall (Φ 1) (aCons (dVar 2) (aCons (dTup (aCons (dC (.str ("answer" : Str))) (aCons (dC (.str ("tell" : Str))) (aNil)))) (aNil))))) (dVar 2) (dC .non)))
 (sNil)) (sNil))
 (sSeq (sIf (dTru (dCall (Φ 1) (aCons (dVar 2) (aCons (dTup (aCons (dC (.str ("knock" : Str))) (aNil))) (aNil))))) (sSeq (sRet (dIf (dTru (dCall (Φ 1) (aCons (dOp fIx (dVar 1) (dC (.int 1))) (aCons (dFld (dVar 0) 1) (aNil))))) (dVar 2) (dC .non)))
 (sNil)) (sNil))
 (sSeq (sRet (dIf (dAndT (dTru (dCall (Φ 1) (aCons (dVar 2) (aCons (dTup (aCons (dC (.str ("ask" : Str))) (aNil))) (aNil))))) (dTru (dCall (Φ 1) (aCons (dOp fIx (dVar 1) (dC (.int 1))) (aCons (dFld (dVar 0) 2) (aNil)))))) (dVar 2) (dC .non)))
 (sNil)))))
set_option maxRecDepth 100000 in
theorem w2 (x : StOk (AA K a c) N2 (defScope t2) X) (C : COk (AA K a c) Φ n X) (FO : FldOk (AA K a c)) : WSs (AA K a c) X (defBody t2) (d2 Φ) :=
 (ws_cons (ws_if (wt_of (ww_or (wt_not (wt_gen x.toXOk.hK (b_isT x.toXOk (T := "tuple") (by rfl) g_isinstance (by decide +kernel) g_tuple (by decide +kernel) (we_v x.toXOk 1 (by decide +kernel)) rfl) (fun _ => rfl))) (ww_or (wt_cmp (op_notInW x.toXOk.u65) (opw_notin x.toXOk.hK) rfl (b_len x.toXOk g_len (by decide +kernel) (wa_c (we_v x.toXOk 1 (by decide +kernel)) wa_nil rfl) rfl) (we_tup (wa_c we_int (wa_c we_int wa_nil rfl) rfl))) (ww_or1 (wt_not (wt_gen x.toXOk.hK (we_f x.toXOk C 0 g_is_worth (by decide +kernel) (wa_c (we_v x.toXOk 0 (by decide +kernel)) (wa_c (we_ix x.toXOk.hK (we_v x.toXOk 1 (by decide +kernel)) (we_neg we_int) rfl) wa_nil rfl) rfl) rfl) (fun _ => rfl))))))) (ws_cons (ws_ret we_non)
 ws_nil) ws_nil)
 (ws_cons (s_set x 2 (by decide +kernel) (we_ix x.toXOk.hK (we_v x.toXOk 1 (by decide +kernel)) we_int rfl) rfl)
 (ws_cons (ws_if (wt_cmp (op_eqW x.toXOk.u64) (opw_eq x.toXOk.hK) rfl (b_len x.toXOk g_len (by decide +kernel) (wa_c (we_v x.toXOk 1 (by decide +kernel)) wa_nil rfl) rfl) we_int) (ws_cons (ws_ret (we_if (wt_gen x.toXOk.hK (we_f x.toXOk C 1 g_is_one_of (by decide +kernel) (wa_c (we_v x.toXOk 2 (by decide +kernel)) (wa_c (we_tup (wa_c (we_k x.toXOk g_ANSWER (by decide +kernel)) (wa_c (we_k x.toXOk g_TELL (by decide +kernel)) wa_nil rfl) rfl)) wa_nil rfl) rfl) rfl) (fun _ => rfl)) (we_v x.toXOk 2 (by decide +kernel)) we_non))
 ws_nil) ws_nil)
 (ws_cons (ws_if (wt_gen x.toXOk.hK (we_f x.toXOk C 1 g_is_one_of (by decide +kernel) (wa_c (we_v x.toXOk 2 (by decide +kernel)) (wa_c (we_tup (wa_c (we_k x.toXOk g_KNOCK (by decide +kernel)) wa_nil rfl)) wa_nil rfl) rfl) rfl) (fun _ => rfl)) (ws_cons (ws_ret (we_if (wt_gen x.toXOk.hK (we_f x.toXOk C 1 g_is_one_of (by decide +kernel) (wa_c (we_ix x.toXOk.hK (we_v x.toXOk 1 (by decide +kernel)) we_int rfl) (wa_c (we_fld x.toXOk.hK FO (f := 1) rfl (we_v x.toXOk 0 (by decide +kernel)) rfl) wa_nil rfl) rfl) rfl) (fun _ => rfl)) (we_v x.toXOk 2 (by decide +kernel)) we_non))
 ws_nil) ws_nil)
 (ws_cons (ws_ret (we_if (wt_of (ww_and (wt_gen x.toXOk.hK (we_f x.toXOk C 1 g_is_one_of (by decide +kernel) (wa_c (we_v x.toXOk 2 (by decide +kernel)) (wa_c (we_tup (wa_c (we_k x.toXOk g_ASK (by decide +kernel)) wa_nil rfl)) wa_nil rfl) rfl) rfl) (fun _ => rfl)) (ww_and1 (wt_gen x.toXOk.hK (we_f x.toXOk C 1 g_is_one_of (by decide +kernel) (wa_c (we_ix x.toXOk.hK (we_v x.toXOk 1 (by decide +kernel)) we_int rfl) (wa_c (we_fld x.toXOk.hK FO (f := 2) rfl (we_v x.toXOk 0 (by decide +kernel)) rfl) wa_nil rfl) rfl) rfl) (fun _ => rfl))))) (we_v x.toXOk 2 (by decide +kernel)) we_non))
 ws_nil)))))
/-! gone_through -/
abbrev t3 : Stmt := top 13
def N3 : List Str := ["face", "rest", "frames", "opened_now", "number", "letter", "word"]
def d3 (Φ : Fns) : EW :=
 sSeq (sIf (dNotT (dTru (dIsT "tuple" (dVar 1)))) (sSeq (sNo)
 (sNil)) (sNil))
 (sSeq (sSet 3 (dOp (fMul true) (dLst false (aCons (dTup (aCons (dC (.str ("knock" : Str))) (aCons (dC .non) (aNil)))) (aCons (dTup (aCons (dC (.str ("ask" : Str))) (aCons (dC .non) (aNil)))) (aNil)))) (dVar 2)))
 (sSeq (sFor (iEnumW (dVar 1)) (.tup [.nm 4, .nm 5]) (sSeq (sSet 6 (dCall (Φ 2) (aCons (dVar 0) (aCons (dVar 5) (aNil)))))
 (sSeq (sIf (dTst (dOp (fIn true) (dVar 6) (dIf (dTst (dOp (fEq false) (dOp (fMod) (dVar 4) (dC (.int 2))) (dC (.int 0)))) (dTup (aCons (dC (.str ("knock" : Str))) (aCons (dC (.str ("answer" : Str))) (aNil)))) (dTup (aCons (dC (.str ("ask" : Str))) (aCons (dC (.str ("tell" : Str))) (aNil))))))) (sSeq (sNo)
 (sNil)) (sNil))
 (sSeq (sIf (dAndT (dTst (dOp (fEq false) (dVar 6) (dC (.str ("answer" : Str))))) (dTst (dOp (fEq false) (dVar 3) (dLst false (aNil))))) (sSeq (sNo)
 (sNil)) (sNil))
 (sSeq (sIf (dTst (dOp (fIn false) (dVar 6) (dTup (aCons (dC (.str ("knock" : Str))) (aCons (dC (.str ("ask" : Str))) (aNil)))))) (sSeq (sExpr (dBM "list" fAppend (dVar 3) (aCons (dTup (aCons (dVar 6) (aCons (dVar 5) (aNil)))) (aNil))))
 (sNil)) (sSeq (sExpr (dBM "list" fPop (dVar 3) aNil))
 (sNil)))
 (sNil))))))
 (sSeq (sRet (dVar 3))
 (sNil))))
set_option maxRecDepth 100000 in
theorem w3 (x : StOk (AA K a c) N3 (defScope t3) X) (C : COk (AA K a c) Φ n X) (FO : FldOk (AA K a c)) : WSs (AA K a c) X (defBody t3) (d3 Φ) :=
 (ws_cons (ws_if (wt_not (wt_gen x.toXOk.hK (b_isT x.toXOk (T := "tuple") (by rfl) g_isinstance (by decide +kernel) g_tuple (by decide +kernel) (we_v x.toXOk 1 (by decide +kernel)) rfl) (fun _ => rfl))) (ws_cons ws_no
 ws_nil) ws_nil)
 (ws_cons (s_set x 3 (by decide +kernel) (we_op op_mulWW opw_mul (we_lst (wa_c (we_tup (wa_c (we_k x.toXOk g_KNOCK (by decide +kernel)) (wa_c we_non wa_nil rfl) rfl)) (wa_c (we_tup (wa_c (we_k x.toXOk g_ASK (by decide +kernel)) (wa_c we_non wa_nil rfl) rfl)) wa_nil rfl) rfl)) (we_v x.toXOk 2 (by decide +kernel))) rfl)
 (ws_cons (ws_for x.toXOk.calm (i_enum x.toXOk g_enumerate (by decide +kernel) (we_v x.toXOk 1 (by decide +kernel)) rfl) (wg_tup x.toXOk (gs_c (g_nm x 4 (by decide +kernel)) (gs_c (g_nm x 5 (by decide +kernel)) wgs_nil rfl) rfl) rfl rfl) (ws_cons (s_set x 6 (by decide +kernel) (we_f x.toXOk C 2 g_word_of (by decide +kernel) (wa_c (we_v x.toXOk 0 (by decide +kernel)) (wa_c (we_v x.toXOk 5 (by decide +kernel)) wa_nil rfl) rfl) rfl) rfl)
 (ws_cons (ws_if (wt_cmp (op_notInW x.toXOk.u65) (opw_notin x.toXOk.hK) rfl (we_v x.toXOk 6 (by decide +kernel)) (we_if (wt_cmp (op_eqW x.toXOk.u64) (opw_eq x.toXOk.hK) rfl (we_op op_mod opw_mod (we_v x.toXOk 4 (by decide +kernel)) we_int) we_int) (we_tup (wa_c (we_k x.toXOk g_KNOCK (by decide +kernel)) (wa_c (we_k x.toXOk g_ANSWER (by decide +kernel)) wa_nil rfl) rfl)) (we_tup (wa_c (we_k x.toXOk g_ASK (by decide +kernel)) (wa_c (we_k x.toXOk g_TELL (by decide +kernel)) wa_nil rfl) rfl)))) (ws_cons ws_no
 ws_nil) ws_nil)
 (ws_cons (ws_if (wt_of (ww_and (wt_cmp (op_eqW x.toXOk.u64) (opw_eq x.toXOk.hK) rfl (we_v x.toXOk 6 (by decide +kernel)) (we_k x.toXOk g_ANSWER (by decide +kernel))) (ww_and1 (wt_cmp (op_eqW x.toXOk.u64) (opw_eq x.toXOk.hK) rfl (we_v x.toXOk 3 (by decide +kernel)) (we_lst wa_nil))))) (ws_cons ws_no
 ws_nil) ws_nil)
 (ws_cons (ws_if (wt_cmp (op_inW x.toXOk.u65) (opw_in x.toXOk.hK) rfl (we_v x.toXOk 6 (by decide +kernel)) (we_tup (wa_c (we_k x.toXOk g_KNOCK (by decide +kernel)) (wa_c (we_k x.toXOk g_ASK (by decide +kernel)) wa_nil rfl) rfl))) (ws_cons (ws_expr (m_append x.toXOk (we_v x.toXOk 3 (by decide +kernel)) (wa_c (we_tup (wa_c (we_v x.toXOk 6 (by decide +kernel)) (wa_c (we_v x.toXOk 5 (by decide +kernel)) wa_nil rfl) rfl)) wa_nil rfl) rfl rfl (by decide) (by decide +kernel)) rfl)
 ws_nil) (ws_cons (ws_expr (m_pop x.toXOk (we_v x.toXOk 3 (by decide +kernel)) rfl (by decide +kernel)) rfl)
 ws_nil))
 ws_nil)))) (fun _ => rfl))
 (ws_cons (ws_ret (we_v x.toXOk 3 (by decide +kernel)))
 ws_nil))))
/-! is_talk -/
abbrev t4 : Stmt := top 14
def N4 : List Str := ["face", "thing"]
def d4 (Φ : Fns) : EW :=
 sSeq (sThru (sSeq (sExpr (dCall (Φ 3) (aCons (dVar 0) (aCons (dVar 1) (aCons (dC (.int 0)) (aNil))))))
 (sNil)))
 (sSeq (sRet (dC (.bl true)))
 (sNil))
set_option maxRecDepth 100000 in
theorem w4 (x : StOk (AA K a c) N4 (defScope t4) X) (C : COk (AA K a c) Φ n X) (FO : FldOk (AA K a c)) : WSs (AA K a c) X (defBody t4) (d4 Φ) :=
 (ws_cons (s_thru (ws_cons (ws_expr (we_f (StOk.nox x).toXOk (COk.nox C) 3 g_gone_through (by decide +kernel) (wa_c (we_v (StOk.nox x).toXOk 0 (by decide +kernel)) (wa_c (we_v (StOk.nox x).toXOk 1 (by decide +kernel)) (wa_c we_int wa_nil rfl) rfl) rfl) rfl) rfl)
 ws_nil))
 (ws_cons (ws_ret we_bl)
 ws_nil))
/-! is_whole -/
abbrev t5 : Stmt := top 15
def N5 : List Str := ["face", "thing"]
def d5 (Φ : Fns) : EW :=
 sSeq (sRet (dAnd (dCall (Φ 4) (aCons (dVar 0) (aCons (dVar 1) (aNil)))) (dOp (fEq false) (dCall (Φ 3) (aCons (dVar 0) (aCons (dVar 1) (aCons (dC (.int 0)) (aNil))))) (dLst false (aNil)))))
 (sNil)
set_option maxRecDepth 100000 in
theorem w5 (x : StOk (AA K a c) N5 (defScope t5) X) (C : COk (AA K a c) Φ n X) (FO : FldOk (AA K a c)) : WSs (AA K a c) X (defBody t5) (d5 Φ) :=
 (ws_cons (ws_ret (we_and x.toXOk.hK (we_f x.toXOk C 4 g_is_talk (by decide +kernel) (wa_c (we_v x.toXOk 0 (by decide +kernel)) (wa_c (we_v x.toXOk 1 (by decide +kernel)) wa_nil rfl) rfl) rfl) (we_one (we_cmp (op_eqW x.toXOk.u64) (opw_eq x.toXOk.hK) rfl (we_f x.toXOk C 3 g_gone_through (by decide +kernel) (wa_c (we_v x.toXOk 0 (by decide +kernel)) (wa_c (we_v x.toXOk 1 (by decide +kernel)) (wa_c we_int wa_nil rfl) rfl) rfl) rfl) (we_lst wa_nil)))))
 ws_nil)
/-! opened -/
abbrev t6 : Stmt := top 17
def N6 : List Str := ["face", "talk", "word", "letter"]
def d6 (Φ : Fns) : EW :=
 sSeq (sRet (dBi bTup (aCons (dComp false (iAny (dCall (Φ 3) (aCons (dVar 0) (aCons (dVar 1) (aCons (dC (.int 0)) (aNil)))))) (.tup [.nm 2, .nm 3]) (bYes) (dVar 3) [2, 3]) (aNil))))
 (sNil)
set_option maxRecDepth 100000 in
theorem w6 (x : StOk (AA K a c) N6 (defScope t6) X) (C : COk (AA K a c) Φ n X) (FO : FldOk (AA K a c)) : WSs (AA K a c) X (defBody t6) (d6 Φ) :=
 (ws_cons (ws_ret (b_tuple x.toXOk g_tuple (by decide +kernel) (wa_c (we_comp x.toXOk (i_any x.toXOk (we_f x.toXOk C 3 g_gone_through (by decide +kernel) (wa_c (we_v x.toXOk 0 (by decide +kernel)) (wa_c (we_v x.toXOk 1 (by decide +kernel)) (wa_c we_int wa_nil rfl) rfl) rfl) rfl)) (blkOk_by (own := [("word", 2), ("letter", 3)]) (by decide +kernel)) (by decide +kernel) (fun _ _ _ _ _ => (wg_tup (XOk.blk x.toXOk) (gs_c (g_cm (XOk.blk x.toXOk) 2 (by decide +kernel)) (gs_c (g_cm (XOk.blk x.toXOk) 3 (by decide +kernel)) wgs_nil rfl) rfl) rfl rfl)) (fun _ _ _ _ _ => wpt_nil) (fun _ _ _ _ _ => (we_v (XOk.blk x.toXOk) 3 (by decide +kernel))) (fun _ => rfl)) wa_nil rfl) rfl))
 ws_nil)
/-! is_whole -/
abbrev t7 : Stmt := top 25
def N7 : List Str := ["thing", "low", "high"]
def d7 (Φ : Fns) : EW :=
 sSeq (sRet (dAnd (dIsT "int" (dVar 0)) (dAnd (dNot (dIsT "bool" (dVar 0))) (dChn (fInt fun i j => decide (i ≤ j)) (fInt fun i j => decide (i ≤ j)) (dVar 1) (dVar 0) (dVar 2)))))
 (sNil)
set_option maxRecDepth 100000 in
theorem w7 (x : StOk (AA K a c) N7 (defScope t7) X) (C : COk (AA K a c) Φ n X) (FO : FldOk (AA K a c)) : WSs (AA K a c) X (defBody t7) (d7 Φ) :=
 (ws_cons (ws_ret (we_and x.toXOk.hK (b_isT x.toXOk (T := "int") (by rfl) g_isinstance (by decide +kernel) g_int (by decide +kernel) (we_v x.toXOk 0 (by decide +kernel)) rfl) (we_and x.toXOk.hK (we_not x.toXOk.hK (b_isT x.toXOk (T := "bool") (by rfl) g_isinstance (by decide +kernel) g_bool (by decide +kernel) (we_v x.toXOk 0 (by decide +kernel)) rfl)) (we_one (we_chain op_le opw_int op_le opw_int (we_v x.toXOk 1 (by decide +kernel)) (we_v x.toXOk 0 (by decide +kernel)) (we_v x.toXOk 2 (by decide +kernel)) rfl)))))
 ws_nil)
/-! is_name -/
abbrev t8 : Stmt := top 27
def N8 : List Str := ["thing", "sign"]
def d8 (Φ : Fns) : EW :=
 sSeq (sRet (dAnd (dIsT "str" (dVar 0)) (dAnd (dChn (fInt fun i j => decide (i ≤ j)) (fInt fun i j => decide (i ≤ j)) (dC (.int 1)) (dBi bLen (aCons (dVar 0) (aNil))) (dC (.int (6)))) (dBi bAll (aCons (dComp false (iAny (dVar 0)) (.nm 1) (bYes) (dOp (fIn false) (dVar 1) (dC (.str ("abcdefghijklmnopqrstuvwxyz" : Str)))) [1]) (aNil))))))
 (sNil)
set_option maxRecDepth 100000 in
theorem w8 (x : StOk (AA K a c) N8 (defScope t8) X) (C : COk (AA K a c) Φ n X) (FO : FldOk (AA K a c)) : WSs (AA K a c) X (defBody t8) (d8 Φ) :=
 (ws_cons (ws_ret (we_and x.toXOk.hK (b_isT x.toXOk (T := "str") (by rfl) g_isinstance (by decide +kernel) g_str (by decide +kernel) (we_v x.toXOk 0 (by decide +kernel)) rfl) (we_and x.toXOk.hK (we_chain op_le opw_int op_le opw_int we_int (b_len x.toXOk g_len (by decide +kernel) (wa_c (we_v x.toXOk 0 (by decide +kernel)) wa_nil rfl) rfl) (we_k x.toXOk g_MOST_SIGNS (by decide +kernel)) rfl) (we_one (b_all x.toXOk g_all (by decide +kernel) (wa_c (we_comp x.toXOk (i_any x.toXOk (we_v x.toXOk 0 (by decide +kernel))) (blkOk_by (own := [("sign", 1)]) (by decide +kernel)) (by decide +kernel) (fun _ _ _ _ _ => (g_cm (XOk.blk x.toXOk) 1 (by decide +kernel))) (fun _ _ _ _ _ => wpt_nil) (fun _ _ _ _ _ => (we_cmp (op_inW (XOk.blk x.toXOk).u65) (opw_in (XOk.blk x.toXOk).hK) rfl (we_v (XOk.blk x.toXOk) 1 (by decide +kernel)) (we_k (XOk.blk x.toXOk) g_LETTERS (by decide +kernel)))) (fun _ => rfl)) wa_nil rfl) rfl)))))
 ws_nil)
/-! are_unlike -/
abbrev t9 : Stmt := top 28
def N9 : List Str := ["names"]
def d9 (Φ : Fns) : EW :=
 sSeq (sRet (dOp (fEq false) (dLenSet (dVar 0)) (dBi bLen (aCons (dVar 0) (aNil)))))
 (sNil)
set_option maxRecDepth 100000 in
theorem w9 (x : StOk (AA K a c) N9 (defScope t9) X) (C : COk (AA K a c) Φ n X) (FO : FldOk (AA K a c)) : WSs (AA K a c) X (defBody t9) (d9 Φ) :=
 (ws_cons (ws_ret (we_cmp (op_eqW x.toXOk.u64) (opw_eq x.toXOk.hK) rfl (b_lenSet x.toXOk g_len (by decide +kernel) g_set (by decide +kernel) (we_v x.toXOk 0 (by decide +kernel)) rfl) (b_len x.toXOk g_len (by decide +kernel) (wa_c (we_v x.toXOk 0 (by decide +kernel)) wa_nil rfl) rfl)))
 ws_nil)
/-! are_names -/
abbrev t10 : Stmt := top 29
def N10 : List Str := ["thing", "low", "high", "one"]
def d10 (Φ : Fns) : EW :=
 sSeq (sIf (dOrT (dNotT (dTru (dIsT "tuple" (dVar 0)))) (dNotT (dTst (dChn (fInt fun i j => decide (i ≤ j)) (fInt fun i j => decide (i ≤ j)) (dVar 1) (dBi bLen (aCons (dVar 0) (aNil))) (dVar 2))))) (sSeq (sRet (dC (.bl false)))
 (sNil)) (sNil))
 (sSeq (sRet (dAnd (dBi bAll (aCons (dComp false (iAny (dVar 0)) (.nm 3) (bYes) (dCall (Φ 8) (aCons (dVar 3) (aNil))) [3]) (aNil))) (dCall (Φ 9) (aCons (dVar 0) (aNil)))))
 (sNil))
set_option maxRecDepth 100000 in
theorem w10 (x : StOk (AA K a c) N10 (defScope t10) X) (C : COk (AA K a c) Φ n X) (FO : FldOk (AA K a c)) : WSs (AA K a c) X (defBody t10) (d10 Φ) :=
 (ws_cons (ws_if (wt_of (ww_or (wt_not (wt_gen x.toXOk.hK (b_isT x.toXOk (T := "tuple") (by rfl) g_isinstance (by decide +kernel) g_tuple (by decide +kernel) (we_v x.toXOk 0 (by decide +kernel)) rfl) (fun _ => rfl))) (ww_or1 (wt_not (wt_chain op_le opw_int op_le opw_int (we_v x.toXOk 1 (by decide +kernel)) (b_len x.toXOk g_len (by decide +kernel) (wa_c (we_v x.toXOk 0 (by decide +kernel)) wa_nil rfl) rfl) (we_v x.toXOk 2 (by decide +kernel)) rfl))))) (ws_cons (ws_ret we_bl)
 ws_nil) ws_nil)
 (ws_cons (ws_ret (we_and x.toXOk.hK (b_all x.toXOk g_all (by decide +kernel) (wa_c (we_comp x.toXOk (i_any x.toXOk (we_v x.toXOk 0 (by decide +kernel))) (blkOk_by (own := [("one", 3)]) (by decide +kernel)) (by decide +kernel) (fun _ _ _ _ _ => (g_cm (XOk.blk x.toXOk) 3 (by decide +kernel))) (fun _ _ _ _ _ => wpt_nil) (fun _ _ _ _ _ => (we_f (XOk.blk x.toXOk) (COk.blk C) 8 g_is_name (by decide +kernel) (wa_c (we_v (XOk.blk x.toXOk) 3 (by decide +kernel)) wa_nil rfl) rfl)) (fun _ => rfl)) wa_nil rfl) rfl) (we_one (we_f x.toXOk C 9 g_are_unlike (by decide +kernel) (wa_c (we_v x.toXOk 0 (by decide +kernel)) wa_nil rfl) rfl))))
 ws_nil))
/-! Face.__init__ -/
abbrev t11 : Stmt := inClass (top 30) 0
def N11 : List Str := ["self", "size", "doors", "strangers"]
def d11 (Φ : Fns) : EW :=
 sSeq (sIf (dNotT (dTru (dCall (Φ 7) (aCons (dVar 1) (aCons (dC (.int 1)) (aCons (dC (.int (4))) (aNil))))))) (sSeq (sNo)
 (sNil)) (sNil))
 (sSeq (sIf (dNotT (dTru (dCall (Φ 10) (aCons (dVar 2) (aCons (dC (.int 1)) (aCons (dC (.int (5))) (aNil))))))) (sSeq (sNo)
 (sNil)) (sNil))
 (sSeq (sIf (dOrT (dNotT (dTru (dCall (Φ 10) (aCons (dVar 3) (aCons (dC (.int 0)) (aCons (dC (.int (4))) (aNil))))))) (dTst (dOp (fIn false) (dC (.str ("main" : Str))) (dVar 3)))) (sSeq (sNo)
 (sNil)) (sNil))
 (sSeq (sStF layT (dVar 0) 0 (dVar 1))
 (sSeq (sStF layT (dVar 0) 1 (dVar 2))
 (sSeq (sStF layT (dVar 0) 2 (dVar 3))
 (sNil))))))
set_option maxRecDepth 100000 in
theorem w11 (x : StOk (AA K a c) N11 (defScope t11) X) (C : COk (AA K a c) Φ n X) (FO : FldOk (AA K a c)) : WSs (AA K a c) X (defBody t11) (d11 Φ) :=
 (ws_cons (ws_if (wt_not (wt_gen x.toXOk.hK (we_f x.toXOk C 7 g_is_whole_faces (by decide +kernel) (wa_c (we_v x.toXOk 1 (by decide +kernel)) (wa_c we_int (wa_c (we_k x.toXOk g_MOST_SIZE (by decide +kernel)) wa_nil rfl) rfl) rfl) rfl) (fun _ => rfl))) (ws_cons ws_no
 ws_nil) ws_nil)
 (ws_cons (ws_if (wt_not (wt_gen x.toXOk.hK (we_f x.toXOk C 10 g_are_names (by decide +kernel) (wa_c (we_v x.toXOk 2 (by decide +kernel)) (wa_c we_int (wa_c (we_k x.toXOk g_MOST_DOORS (by decide +kernel)) wa_nil rfl) rfl) rfl) rfl) (fun _ => rfl))) (ws_cons ws_no
 ws_nil) ws_nil)
 (ws_cons (ws_if (wt_of (ww_or (wt_not (wt_gen x.toXOk.hK (we_f x.toXOk C 10 g_are_names (by decide +kernel) (wa_c (we_v x.toXOk 3 (by decide +kernel)) (wa_c we_int (wa_c (we_k x.toXOk g_MOST_STRANGERS (by decide +kernel)) wa_nil rfl) rfl) rfl) rfl) (fun _ => rfl))) (ww_or1 (wt_cmp (op_inW x.toXOk.u65) (opw_in x.toXOk.hK) rfl (we_k x.toXOk g_MAIN (by decide +kernel)) (we_v x.toXOk 3 (by decide +kernel)))))) (ws_cons ws_no
 ws_nil) ws_nil)
 (ws_cons (s_stF x.toXOk FO (f := 0) rfl (we_v x.toXOk 0 (by decide +kernel)) (we_v x.toXOk 1 (by decide +kernel)))
 (ws_cons (s_stF x.toXOk FO (f := 1) rfl (we_v x.toXOk 0 (by decide +kernel)) (we_v x.toXOk 2 (by decide +kernel)))
 (ws_cons (s_stF x.toXOk FO (f := 2) rfl (we_v x.toXOk 0 (by decide +kernel)) (we_v x.toXOk 3 (by decide +kernel)))
 ws_nil))))))
/-! _law_hand -/
abbrev t12 : Stmt := top 32
def N12 : List Str := ["_law_script", "_law_k", "_law_cell", "_law_great"]
def d12 (Φ : Fns) : EW :=
 sSeq (sSet 2 (dIf (dTst (dOp (fInt fun i j => decide (i < j)) (dVar 1) (dBi bLen (aCons (dVar 0) (aNil))))) (dOp fIx (dVar 0) (dVar 1)) (dC (.int 0))))
 (sSeq (sSet 3 (dOp (fMul false) (dOp (fMod) (dBi bAbs (aCons (dVar 2) (aNil))) (dOp (fPow) (dOp (fPow) (dC (.int 10)) (dC (.int 60))) (dC (.int 5)))) (dBi bInt (aCons (dOp (fInt fun i j => decide (j ≤ i)) (dBi bAbs (aCons (dVar 2) (aNil))) (dOp (fPow) (dC (.int 10)) (dC (.int 18)))) (aNil)))))
 (sSeq (sRet (dLst true (aCons (dVar 3) (aCons (dOp (fMod) (dOp (fAdd false) (dOp (fAdd false) (dOp (fMod) (dVar 2) (dC (.int 2305843009213693951))) (dOp (fMul false) (dC (.int 104729)) (dVar 1))) (dC (.int 61))) (dC (.int 2305843009213693951))) (aCons (dC (.int 0)) (aNil))))))
 (sNil)))
set_option maxRecDepth 100000 in
theorem w12 (x : StOk (AA K a c) N12 (defScope t12) X) (C : COk (AA K a c) Φ n X) (FO : FldOk (AA K a c)) : WSs (AA K a c) X (defBody t12) (d12 Φ) :=
 (ws_cons (s_set x 2 (by decide +kernel) (we_if (wt_cmp op_lt opw_int rfl (we_v x.toXOk 1 (by decide +kernel)) (b_len x.toXOk g_len (by decide +kernel) (wa_c (we_v x.toXOk 0 (by decide +kernel)) wa_nil rfl) rfl)) (we_ix x.toXOk.hK (we_v x.toXOk 0 (by decide +kernel)) (we_v x.toXOk 1 (by decide +kernel)) rfl) we_int) rfl)
 (ws_cons (s_set x 3 (by decide +kernel) (we_op op_mulWW opw_mul (we_op op_mod opw_mod (b_abs x.toXOk g_abs (by decide +kernel) (wa_c (we_v x.toXOk 2 (by decide +kernel)) wa_nil rfl) rfl) (we_op op_powW opw_pow (we_op op_powW opw_pow we_int we_int) we_int)) (b_int x.toXOk g_int (by decide +kernel) (wa_c (we_cmp op_ge opw_int rfl (b_abs x.toXOk g_abs (by decide +kernel) (wa_c (we_v x.toXOk 2 (by decide +kernel)) wa_nil rfl) rfl) (we_op op_powW opw_pow we_int we_int)) wa_nil rfl) rfl)) rfl)
 (ws_cons (ws_ret (we_lst (wa_c (we_v x.toXOk 3 (by decide +kernel)) (wa_c (we_op op_mod opw_mod (we_op op_addW (opw_add x.toXOk.hK) (we_op op_addW (opw_add x.toXOk.hK) (we_op op_mod opw_mod (we_v x.toXOk 2 (by decide +kernel)) we_int) (we_op op_mulWW opw_mul we_int (we_v x.toXOk 1 (by decide +kernel)))) we_int) we_int) (wa_c we_int wa_nil rfl) rfl) rfl)))
 ws_nil)))
/-! _law_take -/
abbrev t13 : Stmt := top 33
def N13 : List Str := ["_law_hand_here", "_law_many", "_law_digit", "_law_turn", "_law_prime", "_law_mixed"]
def d13 (Φ : Fns) : EW :=
 sSeq (sIf (dTst (dOp (fInt fun i j => decide (j < i)) (dOp fIx (dVar 0) (dC (.int 0))) (dC (.int 0)))) (sSeq (sSet 2 (dOp (fMod) (dOp fIx (dVar 0) (dC (.int 0))) (dVar 1)))
 (sSeq (sSetI (dVar 0) (dC (.int 0)) (dOp (fDiv) (dOp fIx (dVar 0) (dC (.int 0))) (dVar 1)))
 (sSeq (sRet (dVar 2))
 (sNil)))) (sNil))
 (sSeq (sSet 3 (dOp (fAdd false) (dOp fIx (dVar 0) (dC (.int 2))) (dC (.int 1))))
 (sSeq (sSetI (dVar 0) (dC (.int 2)) (dVar 3))
 (sSeq (sSet 4 (dOp fIx (dLst false (aCons (dC (.int 2305843009213693951)) (aCons (dC (.int 999999999989)) (aCons (dC (.int 1000000000039)) (aCons (dC (.int 67280421310721)) (aNil)))))) (dOp (fMod) (dVar 3) (dC (.int 4)))))
 (sSeq (sSet 5 (dOp (fMod) (dOp (fAdd false) (dOp (fAdd false) (dOp fIx (dVar 0) (dC (.int 1))) (dOp (fMul false) (dOp (fMul false) (dC (.int 7919)) (dVar 3)) (dVar 3))) (dOp (fMul false) (dC (.int 65537)) (dVar 3))) (dVar 4)))
 (sSeq (sSet 5 (dOp (fMod) (dOp (fPow) (dVar 5) (dC (.int 5))) (dVar 4)))
 (sSeq (sRet (dOp (fMod) (dOp (fAdd false) (dOp (fDiv) (dVar 5) (dC (.int 4099))) (dOp (fMul false) (dOp (fDiv) (dVar 5) (dC (.int 1000003))) (dC (.int 7)))) (dVar 1)))
 (sNil)))))))
set_option maxRecDepth 100000 in
theorem w13 (x : StOk (AA K a c) N13 (defScope t13) X) (C : COk (AA K a c) Φ n X) (FO : FldOk (AA K a c)) : WSs (AA K a c) X (defBody t13) (d13 Φ) :=
 (ws_cons (ws_if (wt_cmp op_gt opw_int rfl (we_ix x.toXOk.hK (we_v x.toXOk 0 (by decide +kernel)) we_int rfl) we_int) (ws_cons (s_set x 2 (by decide +kernel) (we_op op_mod opw_mod (we_ix x.toXOk.hK (we_v x.toXOk 0 (by decide +kernel)) we_int rfl) (we_v x.toXOk 1 (by decide +kernel))) rfl)
 (ws_cons (ws_setI (we_v x.toXOk 0 (by decide +kernel)) we_int (we_op op_fdivW opw_div (we_ix x.toXOk.hK (we_v x.toXOk 0 (by decide +kernel)) we_int rfl) (we_v x.toXOk 1 (by decide +kernel))) (fun _ => rfl) rfl rfl rfl)
 (ws_cons (ws_ret (we_v x.toXOk 2 (by decide +kernel)))
 ws_nil))) ws_nil)
 (ws_cons (s_set x 3 (by decide +kernel) (we_op op_addW (opw_add x.toXOk.hK) (we_ix x.toXOk.hK (we_v x.toXOk 0 (by decide +kernel)) we_int rfl) we_int) rfl)
 (ws_cons (ws_setI (we_v x.toXOk 0 (by decide +kernel)) we_int (we_v x.toXOk 3 (by decide +kernel)) (fun _ => rfl) rfl rfl rfl)
 (ws_cons (s_set x 4 (by decide +kernel) (we_ix x.toXOk.hK (we_lst (wa_c we_int (wa_c we_int (wa_c we_int (wa_c we_int wa_nil rfl) rfl) rfl) rfl)) (we_op op_mod opw_mod (we_v x.toXOk 3 (by decide +kernel)) we_int) rfl) rfl)
 (ws_cons (s_set x 5 (by decide +kernel) (we_op op_mod opw_mod (we_op op_addW (opw_add x.toXOk.hK) (we_op op_addW (opw_add x.toXOk.hK) (we_ix x.toXOk.hK (we_v x.toXOk 0 (by decide +kernel)) we_int rfl) (we_op op_mulWW opw_mul (we_op op_mulWW opw_mul we_int (we_v x.toXOk 3 (by decide +kernel))) (we_v x.toXOk 3 (by decide +kernel)))) (we_op op_mulWW opw_mul we_int (we_v x.toXOk 3 (by decide +kernel)))) (we_v x.toXOk 4 (by decide +kernel))) rfl)
 (ws_cons (s_set x 5 (by decide +kernel) (we_op op_mod opw_mod (we_op op_powW opw_pow (we_v x.toXOk 5 (by decide +kernel)) we_int) (we_v x.toXOk 4 (by decide +kernel))) rfl)
 (ws_cons (ws_ret (we_op op_mod opw_mod (we_op op_addW (opw_add x.toXOk.hK) (we_op op_fdivW opw_div (we_v x.toXOk 5 (by decide +kernel)) we_int) (we_op op_mulWW opw_mul (we_op op_fdivW opw_div (we_v x.toXOk 5 (by decide +kernel)) we_int) we_int)) (we_v x.toXOk 1 (by decide +kernel))))
 ws_nil)))))))
/-! _law_of -/
abbrev t14 : Stmt := top 34
def N14 : List Str := ["_law_hand_here", "_law_some"]
def d14 (Φ : Fns) : EW :=
 sSeq (sRet (dOp fIx (dVar 1) (dCall (Φ 13) (aCons (dVar 0) (aCons (dBi bLen (aCons (dVar 1) (aNil))) (aNil))))))
 (sNil)
set_option maxRecDepth 100000 in
theorem w14 (x : StOk (AA K a c) N14 (defScope t14) X) (C : COk (AA K a c) Φ n X) (FO : FldOk (AA K a c)) : WSs (AA K a c) X (defBody t14) (d14 Φ) :=
 (ws_cons (ws_ret (we_ix x.toXOk.hK (we_v x.toXOk 1 (by decide +kernel)) (we_f x.toXOk C 13 g__law_take (by decide +kernel) (wa_c (we_v x.toXOk 0 (by decide +kernel)) (wa_c (b_len x.toXOk g_len (by decide +kernel) (wa_c (we_v x.toXOk 1 (by decide +kernel)) wa_nil rfl) rfl) wa_nil rfl) rfl) rfl) rfl))
 ws_nil)
/-! _law_names -/
abbrev t15 : Stmt := top 35
def N15 : List Str := ["_law_hand_here", "_law_many", "_law_left", "_law_k", "_law_letters", "_law_first", "_law_by", "_law_stem", "_law_spot", "_law_found", "_law_n", "_law_pair", "_law_word"]
def d15 (Φ : Fns) : EW :=
 sSeq (sIf (dAndT (dTst (dOp (fInt fun i j => decide (i < j)) (dVar 1) (dC (.int 6)))) (dTst (dOp (fEq false) (dCall (Φ 13) (aCons (dVar 0) (aCons (dC (.int 6)) (aNil)))) (dC (.int 0))))) (sSeq (sSet 2 (dLst true (aCons (dC (.str ("put" : Str))) (aCons (dC (.str ("go" : Str))) (aCons (dC (.str ("when" : Str))) (aCons (dC (.str ("ask" : Str))) (aCons (dC (.str ("tell" : Str))) (aCons (dC (.str ("halt" : Str))) (aCons (dC (.str ("size" : Str))) (aCons (dC (.str ("cell" : Str))) (aCons (dC (.str ("door" : Str))) (aCons (dC (.str ("knock" : Str))) (aCons (dC (.str ("answer" : Str))) (aCons (dC (.str ("a" : Str))) (aNil)))))))))))))))
 (sSeq (sRet (dComp false (iRg1 (aCons (dVar 1) (aNil))) (.nm 3) (bYes) (dBM "list" fPopAt (dVar 2) (aCons (dCall (Φ 13) (aCons (dVar 0) (aCons (dBi bLen (aCons (dVar 2) (aNil))) (aNil)))) (aNil))) [3]))
 (sNil))) (sNil))
 (sSeq (sSet 4 (dC (.str ("abcdefghijklmnopqrstuvwxyz" : Str))))
 (sSeq (sPar 5 6 (aCons (dCall (Φ 13) (aCons (dVar 0) (aCons (dC (.int 676)) (aNil)))) (aCons (dCall (Φ 14) (aCons (dVar 0) (aCons (dLst false (aCons (dC (.int 1)) (aCons (dC (.int 3)) (aCons (dC (.int 7)) (aCons (dC (.int 25)) (aCons (dC (.int 27)) (aCons (dC (.int 51)) (aCons (dC (.int 105)) (aNil))))))))) (aNil)))) (aNil))))
 (sSeq (sSet 7 (dBM "str" fJoin (dC (.str ("" : Str))) (aCons (dComp false (iRg1 (aCons (dCall (Φ 14) (aCons (dVar 0) (aCons (dLst false (aCons (dC (.int 0)) (aCons (dC (.int 0)) (aCons (dC (.int 1)) (aCons (dC (.int 2)) (aCons (dC (.int 4)) (aNil))))))) (aNil)))) (aNil))) (.nm 3) (bYes) (dCall (Φ 14) (aCons (dVar 0) (aCons (dVar 4) (aNil)))) [3]) (aNil))))
 (sSeq (sPar 8 9 (aCons (dCall (Φ 13) (aCons (dVar 0) (aCons (dOp (fAdd false) (dBi bLen (aCons (dVar 7) (aNil))) (dC (.int 1))) (aNil)))) (aCons (dLst true (aNil)) (aNil))))
 (sSeq (sFor (iRg1 (aCons (dVar 1) (aNil))) (.nm 3) (sSeq (sSet 10 (dOp (fMod) (dOp (fAdd false) (dVar 5) (dOp (fMul false) (dVar 6) (dVar 3))) (dC (.int 676))))
 (sSeq (sSet 11 (dOp (fAdd false) (dOp fIx (dVar 4) (dOp (fDiv) (dVar 10) (dC (.int 26)))) (dOp fIx (dVar 4) (dOp (fMod) (dVar 10) (dC (.int 26))))))
 (sSeq (sSet 12 (dOp (fAdd false) (dOp (fAdd false) (dSl false (dVar 7) (oNo) (oSome (dVar 8))) (dVar 11)) (dSl false (dVar 7) (oSome (dVar 8)) (oNo))))
 (sSeq (sExpr (dBM "list" fAppend (dVar 9) (aCons (dOp (fAdd false) (dVar 12) (dOp (fMul false) (dC (.str ("x" : Str))) (dBi bInt (aCons (dOp (fEq false) (dVar 12) (dC (.str ("main" : Str)))) (aNil))))) (aNil))))
 (sNil))))))
 (sSeq (sRet (dVar 9))
 (sNil)))))))
set_option maxRecDepth 100000 in
theorem w15 (x : StOk (AA K a c) N15 (defScope t15) X) (C : COk (AA K a c) Φ n X) (FO : FldOk (AA K a c)) : WSs (AA K a c) X (defBody t15) (d15 Φ) :=
 (ws_cons (ws_if (wt_of (ww_and (wt_cmp op_lt opw_int rfl (we_v x.toXOk 1 (by decide +kernel)) we_int) (ww_and1 (wt_cmp (op_eqW x.toXOk.u64) (opw_eq x.toXOk.hK) rfl (we_f x.toXOk C 13 g__law_take (by decide +kernel) (wa_c (we_v x.toXOk 0 (by decide +kernel)) (wa_c we_int wa_nil rfl) rfl) rfl) we_int)))) (ws_cons (s_set x 2 (by decide +kernel) (we_lst (wa_c we_str (wa_c we_str (wa_c we_str (wa_c we_str (wa_c we_str (wa_c we_str (wa_c we_str (wa_c we_str (wa_c we_str (wa_c we_str (wa_c we_str (wa_c we_str wa_nil rfl) rfl) rfl) rfl) rfl) rfl) rfl) rfl) rfl) rfl) rfl) rfl)) rfl)
 (ws_cons (ws_ret (we_comp x.toXOk (i_rg1 x.toXOk g_range (by decide +kernel) (wa_c (we_v x.toXOk 1 (by decide +kernel)) wa_nil rfl) rfl) (blkOk_by (own := [("_law_k", 3)]) (by decide +kernel)) (by decide +kernel) (fun _ _ _ _ _ => (g_cm (XOk.blk x.toXOk) 3 (by decide +kernel))) (fun _ _ _ _ _ => wpt_nil) (fun _ _ _ _ _ => (m_popAt (XOk.blk x.toXOk) (we_v (XOk.blk x.toXOk) 2 (by decide +kernel)) (wa_c (we_f (XOk.blk x.toXOk) (COk.blk C) 13 g__law_take (by decide +kernel) (wa_c (we_v (XOk.blk x.toXOk) 0 (by decide +kernel)) (wa_c (b_len (XOk.blk x.toXOk) g_len (by decide +kernel) (wa_c (we_v (XOk.blk x.toXOk) 2 (by decide +kernel)) wa_nil rfl) rfl) wa_nil rfl) rfl) rfl) wa_nil rfl) rfl rfl (by decide) (by decide +kernel))) (fun _ => rfl)))
 ws_nil)) ws_nil)
 (ws_cons (s_set x 4 (by decide +kernel) we_str rfl)
 (ws_cons (s_par2 x 5 6 (by decide +kernel) (wa_c (we_f x.toXOk C 13 g__law_take (by decide +kernel) (wa_c (we_v x.toXOk 0 (by decide +kernel)) (wa_c we_int wa_nil rfl) rfl) rfl) (wa_c (we_f x.toXOk C 14 g__law_of (by decide +kernel) (wa_c (we_v x.toXOk 0 (by decide +kernel)) (wa_c (we_lst (wa_c we_int (wa_c we_int (wa_c we_int (wa_c we_int (wa_c we_int (wa_c we_int (wa_c we_int wa_nil rfl) rfl) rfl) rfl) rfl) rfl) rfl)) wa_nil rfl) rfl) rfl) wa_nil rfl) rfl) (by kernel_rfl) rfl)
 (ws_cons (s_set x 7 (by decide +kernel) (m_join x.toXOk we_str (wa_c (we_comp x.toXOk (i_rg1 x.toXOk g_range (by decide +kernel) (wa_c (we_f x.toXOk C 14 g__law_of (by decide +kernel) (wa_c (we_v x.toXOk 0 (by decide +kernel)) (wa_c (we_lst (wa_c we_int (wa_c we_int (wa_c we_int (wa_c we_int (wa_c we_int wa_nil rfl) rfl) rfl) rfl) rfl)) wa_nil rfl) rfl) rfl) wa_nil rfl) rfl) (blkOk_by (own := [("_law_k", 3)]) (by decide +kernel)) (by decide +kernel) (fun _ _ _ _ _ => (g_cm (XOk.blk x.toXOk) 3 (by decide +kernel))) (fun _ _ _ _ _ => wpt_nil) (fun _ _ _ _ _ => (we_f (XOk.blk x.toXOk) (COk.blk C) 14 g__law_of (by decide +kernel) (wa_c (we_v (XOk.blk x.toXOk) 0 (by decide +kernel)) (wa_c (we_v (XOk.blk x.toXOk) 4 (by decide +kernel)) wa_nil rfl) rfl) rfl)) (fun _ => rfl)) wa_nil rfl) rfl rfl (by decide) (by decide +kernel)) rfl)
 (ws_cons (s_par2 x 8 9 (by decide +kernel) (wa_c (we_f x.toXOk C 13 g__law_take (by decide +kernel) (wa_c (we_v x.toXOk 0 (by decide +kernel)) (wa_c (we_op op_addW (opw_add x.toXOk.hK) (b_len x.toXOk g_len (by decide +kernel) (wa_c (we_v x.toXOk 7 (by decide +kernel)) wa_nil rfl) rfl) we_int) wa_nil rfl) rfl) rfl) (wa_c (we_lst wa_nil) wa_nil rfl) rfl) (by kernel_rfl) rfl)
 (ws_cons (ws_for x.toXOk.calm (i_rg1 x.toXOk g_range (by decide +kernel) (wa_c (we_v x.toXOk 1 (by decide +kernel)) wa_nil rfl) rfl) (g_nm x 3 (by decide +kernel)) (ws_cons (s_set x 10 (by decide +kernel) (we_op op_mod opw_mod (we_op op_addW (opw_add x.toXOk.hK) (we_v x.toXOk 5 (by decide +kernel)) (we_op op_mulWW opw_mul (we_v x.toXOk 6 (by decide +kernel)) (we_v x.toXOk 3 (by decide +kernel)))) we_int) rfl)
 (ws_cons (s_set x 11 (by decide +kernel) (we_op op_addW (opw_add x.toXOk.hK) (we_ix x.toXOk.hK (we_v x.toXOk 4 (by decide +kernel)) (we_op op_fdivW opw_div (we_v x.toXOk 10 (by decide +kernel)) we_int) rfl) (we_ix x.toXOk.hK (we_v x.toXOk 4 (by decide +kernel)) (we_op op_mod opw_mod (we_v x.toXOk 10 (by decide +kernel)) we_int) rfl)) rfl)
 (ws_cons (s_set x 12 (by decide +kernel) (we_op op_addW (opw_add x.toXOk.hK) (we_op op_addW (opw_add x.toXOk.hK) (we_sl x.toXOk.hK (we_v x.toXOk 7 (by decide +kernel)) wo_none (wo_some (we_v x.toXOk 8 (by decide +kernel)))) (we_v x.toXOk 11 (by decide +kernel))) (we_sl x.toXOk.hK (we_v x.toXOk 7 (by decide +kernel)) (wo_some (we_v x.toXOk 8 (by decide +kernel))) wo_none)) rfl)
 (ws_cons (ws_expr (m_append x.toXOk (we_v x.toXOk 9 (by decide +kernel)) (wa_c (we_op op_addW (opw_add x.toXOk.hK) (we_v x.toXOk 12 (by decide +kernel)) (we_op op_mulWW opw_mul we_str (b_int x.toXOk g_int (by decide +kernel) (wa_c (we_cmp (op_eqW x.toXOk.u64) (opw_eq x.toXOk.hK) rfl (we_v x.toXOk 12 (by decide +kernel)) we_str) wa_nil rfl) rfl))) wa_nil rfl) rfl rfl (by decide) (by decide +kernel)) rfl)
 ws_nil)))) (fun _ => rfl))
 (ws_cons (ws_ret (we_v x.toXOk 9 (by decide +kernel)))
 ws_nil)))))))
/-! _law_face -/
abbrev t16 : Stmt := top 36
def N16 : List Str := ["_law_hand_here", "_law_most", "_law_many", "_law_others", "_law_words", "_law_twin", "_law_size"]
def d16 (Φ : Fns) : EW :=
 sSeq (sPar 2 3 (aCons (dOp (fAdd false) (dC (.int 1)) (dCall (Φ 13) (aCons (dVar 0) (aCons (dC (.int 3)) (aNil))))) (aCons (dCall (Φ 14) (aCons (dVar 0) (aCons (dLst false (aCons (dC (.int 1)) (aCons (dC (.int 2)) (aCons (dC (.int 0)) (aCons (dC (.int 3)) (aCons (dC (.int 1)) (aCons (dC (.int 2)) (aNil)))))))) (aNil)))) (aNil))))
 (sSeq (sSet 4 (dCall (Φ 15) (aCons (dVar 0) (aCons (dOp (fAdd false) (dVar 2) (dVar 3)) (aNil)))))
 (sSeq (sSet 5 (dAnd (dOp (fInt fun i j => decide (j < i)) (dVar 3) (dC (.int 0))) (dOp (fEq false) (dCall (Φ 13) (aCons (dVar 0) (aCons (dC (.int 5)) (aNil)))) (dC (.int 0)))))
 (sSeq (sSet 6 (dOp (fAdd false) (dC (.int 1)) (dCall (Φ 13) (aCons (dVar 0) (aCons (dVar 1) (aNil))))))
 (sSeq (sRet (dTup (aCons (dVar 6) (aCons (dBi bTup (aCons (dSl false (dVar 4) (oNo) (oSome (dVar 2))) (aNil))) (aCons (dBi bTup (aCons (dIf (dTru (dVar 5)) (dOp (fAdd false) (dSl false (dVar 4) (oSome (dVar 2)) (oSome (dNeg (dC (.int 1))))) (dSl false (dVar 4) (oNo) (oSome (dC (.int 1))))) (dSl false (dVar 4) (oSome (dVar 2)) (oNo))) (aNil))) (aNil))))))
 (sNil)))))
set_option maxRecDepth 100000 in
theorem w16 (x : StOk (AA K a c) N16 (defScope t16) X) (C : COk (AA K a c) Φ n X) (FO : FldOk (AA K a c)) : WSs (AA K a c) X (defBody t16) (d16 Φ) :=
 (ws_cons (s_par2 x 2 3 (by decide +kernel) (wa_c (we_op op_addW (opw_add x.toXOk.hK) we_int (we_f x.toXOk C 13 g__law_take (by decide +kernel) (wa_c (we_v x.toXOk 0 (by decide +kernel)) (wa_c we_int wa_nil rfl) rfl) rfl)) (wa_c (we_f x.toXOk C 14 g__law_of (by decide +kernel) (wa_c (we_v x.toXOk 0 (by decide +kernel)) (wa_c (we_lst (wa_c we_int (wa_c we_int (wa_c we_int (wa_c we_int (wa_c we_int (wa_c we_int wa_nil rfl) rfl) rfl) rfl) rfl) rfl)) wa_nil rfl) rfl) rfl) wa_nil rfl) rfl) (by kernel_rfl) rfl)
 (ws_cons (s_set x 4 (by decide +kernel) (we_f x.toXOk C 15 g__law_names (by decide +kernel) (wa_c (we_v x.toXOk 0 (by decide +kernel)) (wa_c (we_op op_addW (opw_add x.toXOk.hK) (we_v x.toXOk 2 (by decide +kernel)) (we_v x.toXOk 3 (by decide +kernel))) wa_nil rfl) rfl) rfl) rfl)
 (ws_cons (s_set x 5 (by decide +kernel) (we_and x.toXOk.hK (we_cmp op_gt opw_int rfl (we_v x.toXOk 3 (by decide +kernel)) we_int) (we_one (we_cmp (op_eqW x.toXOk.u64) (opw_eq x.toXOk.hK) rfl (we_f x.toXOk C 13 g__law_take (by decide +kernel) (wa_c (we_v x.toXOk 0 (by decide +kernel)) (wa_c we_int wa_nil rfl) rfl) rfl) we_int))) rfl)
 (ws_cons (s_set x 6 (by decide +kernel) (we_op op_addW (opw_add x.toXOk.hK) we_int (we_f x.toXOk C 13 g__law_take (by decide +kernel) (wa_c (we_v x.toXOk 0 (by decide +kernel)) (wa_c (we_v x.toXOk 1 (by decide +kernel)) wa_nil rfl) rfl) rfl)) rfl)
 (ws_cons (ws_ret (we_tup (wa_c (we_v x.toXOk 6 (by decide +kernel)) (wa_c (b_tuple x.toXOk g_tuple (by decide +kernel) (wa_c (we_sl x.toXOk.hK (we_v x.toXOk 4 (by decide +kernel)) wo_none (wo_some (we_v x.toXOk 2 (by decide +kernel)))) wa_nil rfl) rfl) (wa_c (b_tuple x.toXOk g_tuple (by decide +kernel) (wa_c (we_if (wt_gen x.toXOk.hK (we_v x.toXOk 5 (by decide +kernel)) (fun _ => rfl)) (we_op op_addW (opw_add x.toXOk.hK) (we_sl x.toXOk.hK (we_v x.toXOk 4 (by decide +kernel)) (wo_some (we_v x.toXOk 2 (by decide +kernel))) (wo_some (we_neg we_int))) (we_sl x.toXOk.hK (we_v x.toXOk 4 (by decide +kernel)) wo_none (wo_some we_int))) (we_sl x.toXOk.hK (we_v x.toXOk 4 (by decide +kernel)) (wo_some (we_v x.toXOk 2 (by decide +kernel))) wo_none)) wa_nil rfl) rfl) wa_nil rfl) rfl) rfl)))
 ws_nil)))))
/-! _law_move -/
abbrev t17 : Stmt := top 37
def N17 : List Str := ["_law_hand_here", "_law_speech", "_law_many", "_law_number"]
def d17 (Φ : Fns) : EW :=
 sSeq (sSet 3 (dCall (Φ 13) (aCons (dVar 0) (aCons (dOp fIx (dVar 1) (dC (.int 0))) (aNil)))))
 (sSeq (sIf (dAndT (dTst (dOp (fInt fun i j => decide (j < i)) (dVar 2) (dC (.int 0)))) (dTst (dOp (fEq false) (dCall (Φ 13) (aCons (dVar 0) (aCons (dC (.int 2)) (aNil)))) (dC (.int 0))))) (sSeq (sRet (dTup (aCons (dC (.str ("answer" : Str))) (aCons (dVar 3) (aNil)))))
 (sNil)) (sNil))
 (sSeq (sRet (dTup (aCons (dC (.str ("knock" : Str))) (aCons (dCall (Φ 14) (aCons (dVar 0) (aCons (dOp fIx (dVar 1) (dC (.int 1))) (aNil)))) (aCons (dVar 3) (aNil))))))
 (sNil)))
set_option maxRecDepth 100000 in
theorem w17 (x : StOk (AA K a c) N17 (defScope t17) X) (C : COk (AA K a c) Φ n X) (FO : FldOk (AA K a c)) : WSs (AA K a c) X (defBody t17) (d17 Φ) :=
 (ws_cons (s_set x 3 (by decide +kernel) (we_f x.toXOk C 13 g__law_take (by decide +kernel) (wa_c (we_v x.toXOk 0 (by decide +kernel)) (wa_c (we_ix x.toXOk.hK (we_v x.toXOk 1 (by decide +kernel)) we_int rfl) wa_nil rfl) rfl) rfl) rfl)
 (ws_cons (ws_if (wt_of (ww_and (wt_cmp op_gt opw_int rfl (we_v x.toXOk 2 (by decide +kernel)) we_int) (ww_and1 (wt_cmp (op_eqW x.toXOk.u64) (opw_eq x.toXOk.hK) rfl (we_f x.toXOk C 13 g__law_take (by decide +kernel) (wa_c (we_v x.toXOk 0 (by decide +kernel)) (wa_c we_int wa_nil rfl) rfl) rfl) we_int)))) (ws_cons (ws_ret (we_tup (wa_c we_str (wa_c (we_v x.toXOk 3 (by decide +kernel)) wa_nil rfl) rfl)))
 ws_nil) ws_nil)
 (ws_cons (ws_ret (we_tup (wa_c we_str (wa_c (we_f x.toXOk C 14 g__law_of (by decide +kernel) (wa_c (we_v x.toXOk 0 (by decide +kernel)) (wa_c (we_ix x.toXOk.hK (we_v x.toXOk 1 (by decide +kernel)) we_int rfl) wa_nil rfl) rfl) rfl) (wa_c (we_v x.toXOk 3 (by decide +kernel)) wa_nil rfl) rfl) rfl)))
 ws_nil)))
/-! _law_reply -/
abbrev t18 : Stmt := top 38
def N18 : List Str := ["_law_hand_here", "_law_speech", "_law_number"]
def d18 (Φ : Fns) : EW :=
 sSeq (sSet 2 (dCall (Φ 13) (aCons (dVar 0) (aCons (dOp fIx (dVar 1) (dC (.int 0))) (aNil)))))
 (sSeq (sIf (dAndT (dTst (dOp (fEq true) (dOp fIx (dVar 1) (dC (.int 2))) (dTup (aNil)))) (dTst (dOp (fEq false) (dCall (Φ 13) (aCons (dVar 0) (aCons (dC (.int 2)) (aNil)))) (dC (.int 0))))) (sSeq (sRet (dTup (aCons (dC (.str ("ask" : Str))) (aCons (dCall (Φ 14) (aCons (dVar 0) (aCons (dOp fIx (dVar 1) (dC (.int 2))) (aNil)))) (aCons (dVar 2) (aNil))))))
 (sNil)) (sNil))
 (sSeq (sRet (dTup (aCons (dC (.str ("tell" : Str))) (aCons (dVar 2) (aNil)))))
 (sNil)))
set_option maxRecDepth 100000 in
theorem w18 (x : StOk (AA K a c) N18 (defScope t18) X) (C : COk (AA K a c) Φ n X) (FO : FldOk (AA K a c)) : WSs (AA K a c) X (defBody t18) (d18 Φ) :=
 (ws_cons (s_set x 2 (by decide +kernel) (we_f x.toXOk C 13 g__law_take (by decide +kernel) (wa_c (we_v x.toXOk 0 (by decide +kernel)) (wa_c (we_ix x.toXOk.hK (we_v x.toXOk 1 (by decide +kernel)) we_int rfl) wa_nil rfl) rfl) rfl) rfl)
 (ws_cons (ws_if (wt_of (ww_and (wt_cmp (op_neW x.toXOk.u64) (opw_ne x.toXOk.hK) rfl (we_ix x.toXOk.hK (we_v x.toXOk 1 (by decide +kernel)) we_int rfl) (we_tup wa_nil)) (ww_and1 (wt_cmp (op_eqW x.toXOk.u64) (opw_eq x.toXOk.hK) rfl (we_f x.toXOk C 13 g__law_take (by decide +kernel) (wa_c (we_v x.toXOk 0 (by decide +kernel)) (wa_c we_int wa_nil rfl) rfl) rfl) we_int)))) (ws_cons (ws_ret (we_tup (wa_c we_str (wa_c (we_f x.toXOk C 14 g__law_of (by decide +kernel) (wa_c (we_v x.toXOk 0 (by decide +kernel)) (wa_c (we_ix x.toXOk.hK (we_v x.toXOk 1 (by decide +kernel)) we_int rfl) wa_nil rfl) rfl) rfl) (wa_c (we_v x.toXOk 2 (by decide +kernel)) wa_nil rfl) rfl) rfl)))
 ws_nil) ws_nil)
 (ws_cons (ws_ret (we_tup (wa_c we_str (wa_c (we_v x.toXOk 2 (by decide +kernel)) wa_nil rfl) rfl)))
 ws_nil)))
/-! _law_talk -/
abbrev t19 : Stmt := top 39
def N19 : List Str := ["_law_hand_here", "_law_speech", "_law_many", "_law_found", "_law_open_ones", "_law_at", "_law_letter"]
def d19 (Φ : Fns) : EW :=
 sSeq (sPar 3 4 (aCons (dLst true (aNil)) (aCons (dC (.int 0)) (aNil))))
 (sSeq (sFor (iRg1 (aCons (dVar 2) (aNil))) (.nm 5) (sSeq (sSet 6 (dIf (dTst (dOp (fEq false) (dOp (fMod) (dVar 5) (dC (.int 2))) (dC (.int 1)))) (dCall (Φ 18) (aCons (dVar 0) (aCons (dVar 1) (aNil)))) (dCall (Φ 17) (aCons (dVar 0) (aCons (dVar 1) (aCons (dVar 4) (aNil)))))))
 (sSeq (sSet 4 (dOp (fAdd false) (dVar 4) (dIf (dTst (dOp (fIn false) (dOp fIx (dVar 6) (dC (.int 0))) (dTup (aCons (dC (.str ("knock" : Str))) (aCons (dC (.str ("ask" : Str))) (aNil)))))) (dC (.int 1)) (dNeg (dC (.int 1))))))
 (sSeq (sExpr (dBM "list" fAppend (dVar 3) (aCons (dVar 6) (aNil))))
 (sNil)))))
 (sSeq (sRet (dBi bTup (aCons (dVar 3) (aNil))))
 (sNil)))
set_option maxRecDepth 100000 in
theorem w19 (x : StOk (AA K a c) N19 (defScope t19) X) (C : COk (AA K a c) Φ n X) (FO : FldOk (AA K a c)) : WSs (AA K a c) X (defBody t19) (d19 Φ) :=
 (ws_cons (s_par2 x 3 4 (by decide +kernel) (wa_c (we_lst wa_nil) (wa_c we_int wa_nil rfl) rfl) (by kernel_rfl) rfl)
 (ws_cons (ws_for x.toXOk.calm (i_rg1 x.toXOk g_range (by decide +kernel) (wa_c (we_v x.toXOk 2 (by decide +kernel)) wa_nil rfl) rfl) (g_nm x 5 (by decide +kernel)) (ws_cons (s_set x 6 (by decide +kernel) (we_if (wt_cmp (op_eqW x.toXOk.u64) (opw_eq x.toXOk.hK) rfl (we_op op_mod opw_mod (we_v x.toXOk 5 (by decide +kernel)) we_int) we_int) (we_f x.toXOk C 18 g__law_reply (by decide +kernel) (wa_c (we_v x.toXOk 0 (by decide +kernel)) (wa_c (we_v x.toXOk 1 (by decide +kernel)) wa_nil rfl) rfl) rfl) (we_f x.toXOk C 17 g__law_move (by decide +kernel) (wa_c (we_v x.toXOk 0 (by decide +kernel)) (wa_c (we_v x.toXOk 1 (by decide +kernel)) (wa_c (we_v x.toXOk 4 (by decide +kernel)) wa_nil rfl) rfl) rfl) rfl)) rfl)
 (ws_cons (s_set x 4 (by decide +kernel) (we_op op_addW (opw_add x.toXOk.hK) (we_v x.toXOk 4 (by decide +kernel)) (we_if (wt_cmp (op_inW x.toXOk.u65) (opw_in x.toXOk.hK) rfl (we_ix x.toXOk.hK (we_v x.toXOk 6 (by decide +kernel)) we_int rfl) (we_tup (wa_c we_str (wa_c we_str wa_nil rfl) rfl))) we_int (we_neg we_int))) rfl)
 (ws_cons (ws_expr (m_append x.toXOk (we_v x.toXOk 3 (by decide +kernel)) (wa_c (we_v x.toXOk 6 (by decide +kernel)) wa_nil rfl) rfl rfl (by decide) (by decide +kernel)) rfl)
 ws_nil))) (fun _ => rfl))
 (ws_cons (ws_ret (b_tuple x.toXOk g_tuple (by decide +kernel) (wa_c (we_v x.toXOk 3 (by decide +kernel)) wa_nil rfl) rfl))
 ws_nil)))
/-! _law_shut -/
abbrev t20 : Stmt := top 40
def N20 : List Str := ["_law_hand_here", "_law_speech", "_law_made", "_law_spoken", "_law_number", "_law_other"]
def d20 (Φ : Fns) : EW :=
 sSeq (sIf (dTst (dOp (fEq false) (dOp (fMod) (dBi bLen (aCons (dVar 3) (aNil))) (dC (.int 2))) (dC (.int 1)))) (sSeq (sSet 3 (dOp (fAdd false) (dVar 3) (dTup (aCons (dTup (aCons (dC (.str ("tell" : Str))) (aCons (dCall (Φ 13) (aCons (dVar 0) (aCons (dOp fIx (dVar 1) (dC (.int 0))) (aNil)))) (aNil)))) (aNil)))))
 (sNil)) (sNil))
 (sSeq (whlL (dAndT (dTst (dOp (fEq true) (dCall (Φ 6) (aCons (dVar 2) (aCons (dVar 3) (aNil)))) (dTup (aNil)))) (dTst (dOp (fInt fun i j => decide (i < j)) (dBi bLen (aCons (dVar 3) (aNil))) (dC (.int 80))))) (sSeq (sPar 4 5 (aCons (dCall (Φ 13) (aCons (dVar 0) (aCons (dOp fIx (dVar 1) (dC (.int 0))) (aNil)))) (aCons (dCall (Φ 13) (aCons (dVar 0) (aCons (dOp fIx (dVar 1) (dC (.int 0))) (aNil)))) (aNil))))
 (sSeq (sSet 3 (dOp (fAdd false) (dVar 3) (dTup (aCons (dTup (aCons (dC (.str ("answer" : Str))) (aCons (dVar 4) (aNil)))) (aCons (dTup (aCons (dC (.str ("tell" : Str))) (aCons (dVar 5) (aNil)))) (aNil))))))
 (sNil))) 40)
 (sSeq (sRet (dVar 3))
 (sNil)))
set_option maxRecDepth 100000 in
theorem w20 (x : StOk (AA K a c) N20 (defScope t20) X) (C : COk (AA K a c) Φ n X) (FO : FldOk (AA K a c)) : WSs (AA K a c) X (defBody t20) (d20 Φ) :=
 (ws_cons (ws_if (wt_cmp (op_eqW x.toXOk.u64) (opw_eq x.toXOk.hK) rfl (we_op op_mod opw_mod (b_len x.toXOk g_len (by decide +kernel) (wa_c (we_v x.toXOk 3 (by decide +kernel)) wa_nil rfl) rfl) we_int) we_int) (ws_cons (s_set x 3 (by decide +kernel) (we_op op_addW (opw_add x.toXOk.hK) (we_v x.toXOk 3 (by decide +kernel)) (we_tup (wa_c (we_tup (wa_c we_str (wa_c (we_f x.toXOk C 13 g__law_take (by decide +kernel) (wa_c (we_v x.toXOk 0 (by decide +kernel)) (wa_c (we_ix x.toXOk.hK (we_v x.toXOk 1 (by decide +kernel)) we_int rfl) wa_nil rfl) rfl) rfl) wa_nil rfl) rfl)) wa_nil rfl))) rfl)
 ws_nil) ws_nil)
 (ws_cons (ws_whl (wt_of (ww_and (wt_cmp (op_neW x.toXOk.u64) (opw_ne x.toXOk.hK) rfl (we_f x.toXOk C 6 g_opened (by decide +kernel) (wa_c (we_v x.toXOk 2 (by decide +kernel)) (wa_c (we_v x.toXOk 3 (by decide +kernel)) wa_nil rfl) rfl) rfl) (we_tup wa_nil)) (ww_and1 (wt_cmp op_lt opw_int rfl (b_len x.toXOk g_len (by decide +kernel) (wa_c (we_v x.toXOk 3 (by decide +kernel)) wa_nil rfl) rfl) we_int)))) (ws_cons (s_par2 x 4 5 (by decide +kernel) (wa_c (we_f x.toXOk C 13 g__law_take (by decide +kernel) (wa_c (we_v x.toXOk 0 (by decide +kernel)) (wa_c (we_ix x.toXOk.hK (we_v x.toXOk 1 (by decide +kernel)) we_int rfl) wa_nil rfl) rfl) rfl) (wa_c (we_f x.toXOk C 13 g__law_take (by decide +kernel) (wa_c (we_v x.toXOk 0 (by decide +kernel)) (wa_c (we_ix x.toXOk.hK (we_v x.toXOk 1 (by decide +kernel)) we_int rfl) wa_nil rfl) rfl) rfl) wa_nil rfl) rfl) (by kernel_rfl) rfl)
 (ws_cons (s_set x 3 (by decide +kernel) (we_op op_addW (opw_add x.toXOk.hK) (we_v x.toXOk 3 (by decide +kernel)) (we_tup (wa_c (we_tup (wa_c we_str (wa_c (we_v x.toXOk 4 (by decide +kernel)) wa_nil rfl) rfl)) (wa_c (we_tup (wa_c we_str (wa_c (we_v x.toXOk 5 (by decide +kernel)) wa_nil rfl) rfl)) wa_nil rfl) rfl))) rfl)
 ws_nil)))
 (ws_cons (ws_ret (we_v x.toXOk 3 (by decide +kernel)))
 ws_nil)))
/-! _law_steps_right -/
abbrev t21 : Stmt := top 41
def N21 : List Str := ["_law_made", "_law_spoken", "_law_at", "_law_one", "_law_other", "_law_due"]
def d21 (Φ : Fns) : EW :=
 sSeq (sFor (iRg1 (aCons (dBi bLen (aCons (dVar 1) (aNil))) (aNil))) (.nm 2) (sSeq (sPar 3 4 (aCons (dCall (Φ 6) (aCons (dVar 0) (aCons (dSl false (dVar 1) (oNo) (oSome (dVar 2))) (aNil)))) (aCons (dCall (Φ 6) (aCons (dVar 0) (aCons (dSl false (dVar 1) (oNo) (oSome (dOp (fAdd false) (dVar 2) (dC (.int 1))))) (aNil)))) (aNil))))
 (sSeq (sSet 5 (dIf (dTst (dOp (fIn false) (dOp fIx (dOp fIx (dVar 1) (dVar 2)) (dC (.int 0))) (dTup (aCons (dC (.str ("knock" : Str))) (aCons (dC (.str ("ask" : Str))) (aNil)))))) (dOp (fAdd false) (dVar 3) (dSl false (dVar 1) (oSome (dVar 2)) (oSome (dOp (fAdd false) (dVar 2) (dC (.int 1)))))) (dSl false (dVar 3) (oNo) (oSome (dNeg (dC (.int 1)))))))
 (sSeq (sIf (dOrT (dTst (dOp (fEq true) (dVar 4) (dVar 5))) (dOrT (dTst (dOp (fIs true) (dCall (Φ 4) (aCons (dVar 0) (aCons (dSl false (dVar 1) (oNo) (oSome (dVar 2))) (aNil)))) (dC (.bl true)))) (dTst (dOp (fEq true) (dCall (Φ 5) (aCons (dVar 0) (aCons (dSl false (dVar 1) (oNo) (oSome (dVar 2))) (aNil)))) (dOp (fEq false) (dVar 3) (dTup (aNil))))))) (sSeq (sRet (dC (.bl false)))
 (sNil)) (sNil))
 (sNil)))))
 (sSeq (sRet (dC (.bl true)))
 (sNil))
set_option maxRecDepth 100000 in
theorem w21 (x : StOk (AA K a c) N21 (defScope t21) X) (C : COk (AA K a c) Φ n X) (FO : FldOk (AA K a c)) : WSs (AA K a c) X (defBody t21) (d21 Φ) :=
 (ws_cons (ws_for x.toXOk.calm (i_rg1 x.toXOk g_range (by decide +kernel) (wa_c (b_len x.toXOk g_len (by decide +kernel) (wa_c (we_v x.toXOk 1 (by decide +kernel)) wa_nil rfl) rfl) wa_nil rfl) rfl) (g_nm x 2 (by decide +kernel)) (ws_cons (s_par2 x 3 4 (by decide +kernel) (wa_c (we_f x.toXOk C 6 g_opened (by decide +kernel) (wa_c (we_v x.toXOk 0 (by decide +kernel)) (wa_c (we_sl x.toXOk.hK (we_v x.toXOk 1 (by decide +kernel)) wo_none (wo_some (we_v x.toXOk 2 (by decide +kernel)))) wa_nil rfl) rfl) rfl) (wa_c (we_f x.toXOk C 6 g_opened (by decide +kernel) (wa_c (we_v x.toXOk 0 (by decide +kernel)) (wa_c (we_sl x.toXOk.hK (we_v x.toXOk 1 (by decide +kernel)) wo_none (wo_some (we_op op_addW (opw_add x.toXOk.hK) (we_v x.toXOk 2 (by decide +kernel)) we_int))) wa_nil rfl) rfl) rfl) wa_nil rfl) rfl) (by kernel_rfl) rfl)
 (ws_cons (s_set x 5 (by decide +kernel) (we_if (wt_cmp (op_inW x.toXOk.u65) (opw_in x.toXOk.hK) rfl (we_ix x.toXOk.hK (we_ix x.toXOk.hK (we_v x.toXOk 1 (by decide +kernel)) (we_v x.toXOk 2 (by decide +kernel)) rfl) we_int rfl) (we_tup (wa_c we_str (wa_c we_str wa_nil rfl) rfl))) (we_op op_addW (opw_add x.toXOk.hK) (we_v x.toXOk 3 (by decide +kernel)) (we_sl x.toXOk.hK (we_v x.toXOk 1 (by decide +kernel)) (wo_some (we_v x.toXOk 2 (by decide +kernel))) (wo_some (we_op op_addW (opw_add x.toXOk.hK) (we_v x.toXOk 2 (by decide +kernel)) we_int)))) (we_sl x.toXOk.hK (we_v x.toXOk 3 (by decide +kernel)) wo_none (wo_some (we_neg we_int)))) rfl)
 (ws_cons (ws_if (wt_of (ww_or (wt_cmp (op_neW x.toXOk.u64) (opw_ne x.toXOk.hK) rfl (we_v x.toXOk 4 (by decide +kernel)) (we_v x.toXOk 5 (by decide +kernel))) (ww_or (wt_cmp op_notW opw_isnot rfl (we_f x.toXOk C 4 g_is_talk (by decide +kernel) (wa_c (we_v x.toXOk 0 (by decide +kernel)) (wa_c (we_sl x.toXOk.hK (we_v x.toXOk 1 (by decide +kernel)) wo_none (wo_some (we_v x.toXOk 2 (by decide +kernel)))) wa_nil rfl) rfl) rfl) we_bl) (ww_or1 (wt_cmp (op_neW x.toXOk.u64) (opw_ne x.toXOk.hK) rfl (we_f x.toXOk C 5 g_is_whole_talks (by decide +kernel) (wa_c (we_v x.toXOk 0 (by decide +kernel)) (wa_c (we_sl x.toXOk.hK (we_v x.toXOk 1 (by decide +kernel)) wo_none (wo_some (we_v x.toXOk 2 (by decide +kernel)))) wa_nil rfl) rfl) rfl) (we_cmp (op_eqW x.toXOk.u64) (opw_eq x.toXOk.hK) rfl (we_v x.toXOk 3 (by decide +kernel)) (we_tup wa_nil))))))) (ws_cons (ws_ret we_bl)
 ws_nil) ws_nil)
 ws_nil))) (fun _ => rfl))
 (ws_cons (ws_ret we_bl)
 ws_nil))
/-! _law_right -/
abbrev t22 : Stmt := top 42
def N22 : List Str := ["_law_hand_here", "_law_speech", "_law_made", "_law_spoken", "_law_whole", "_law_shut_here", "_law_open_ones", "_law_at", "_law_joined"]
def d22 (Φ : Fns) : EW :=
 sSeq (sSet 4 (dCall (Φ 20) (aCons (dVar 0) (aCons (dVar 1) (aCons (dVar 2) (aCons (dCall (Φ 19) (aCons (dVar 0) (aCons (dVar 1) (aCons (dCall (Φ 13) (aCons (dVar 0) (aCons (dC (.int 9)) (aNil)))) (aNil))))) (aNil)))))))
 (sSeq (sPar 5 6 (aCons (dCall (Φ 20) (aCons (dVar 0) (aCons (dVar 1) (aCons (dVar 2) (aCons (dVar 3) (aNil)))))) (aCons (dCall (Φ 6) (aCons (dVar 2) (aCons (dVar 3) (aNil)))) (aNil))))
 (sSeq (sIf (dOrT (dNotT (dTru (dCall (Φ 21) (aCons (dVar 2) (aCons (dVar 3) (aNil)))))) (dOrT (dNotT (dTru (dCall (Φ 5) (aCons (dVar 2) (aCons (dVar 4) (aNil)))))) (dNotT (dTru (dCall (Φ 5) (aCons (dVar 2) (aCons (dVar 5) (aNil)))))))) (sSeq (sRet (dC (.bl false)))
 (sNil)) (sNil))
 (sSeq (sIf (dOrT (dTst (dOp (fEq true) (dCall (Φ 6) (aCons (dVar 2) (aCons (dVar 6) (aNil)))) (dVar 6))) (dNotT (dTru (dCall (Φ 5) (aCons (dVar 2) (aCons (dOp (fAdd false) (dOp (fAdd false) (dVar 5) (dVar 4)) (dVar 5)) (aNil))))))) (sSeq (sRet (dC (.bl false)))
 (sNil)) (sNil))
 (sSeq (sFor (iRg3 (aCons (dC (.int 0)) (aCons (dOp (fAdd false) (dBi bLen (aCons (dVar 3) (aNil))) (dC (.int 1))) (aCons (dC (.int 2)) (aNil))))) (.nm 7) (sSeq (sSet 8 (dOp (fAdd false) (dOp (fAdd false) (dSl false (dVar 3) (oNo) (oSome (dVar 7))) (dVar 4)) (dSl false (dVar 3) (oSome (dVar 7)) (oNo))))
 (sSeq (sIf (dOrT (dTst (dOp (fIs true) (dCall (Φ 4) (aCons (dVar 2) (aCons (dVar 8) (aNil)))) (dC (.bl true)))) (dTst (dOp (fEq true) (dCall (Φ 6) (aCons (dVar 2) (aCons (dVar 8) (aNil)))) (dVar 6)))) (sSeq (sRet (dC (.bl false)))
 (sNil)) (sNil))
 (sNil))))
 (sSeq (sRet (dOp (fEq false) (dCall (Φ 5) (aCons (dVar 2) (aCons (dVar 3) (aNil)))) (dOp (fEq false) (dVar 6) (dTup (aNil)))))
 (sNil))))))
set_option maxRecDepth 100000 in
theorem w22 (x : StOk (AA K a c) N22 (defScope t22) X) (C : COk (AA K a c) Φ n X) (FO : FldOk (AA K a c)) : WSs (AA K a c) X (defBody t22) (d22 Φ) :=
 (ws_cons (s_set x 4 (by decide +kernel) (we_f x.toXOk C 20 g__law_shut (by decide +kernel) (wa_c (we_v x.toXOk 0 (by decide +kernel)) (wa_c (we_v x.toXOk 1 (by decide +kernel)) (wa_c (we_v x.toXOk 2 (by decide +kernel)) (wa_c (we_f x.toXOk C 19 g__law_talk (by decide +kernel) (wa_c (we_v x.toXOk 0 (by decide +kernel)) (wa_c (we_v x.toXOk 1 (by decide +kernel)) (wa_c (we_f x.toXOk C 13 g__law_take (by decide +kernel) (wa_c (we_v x.toXOk 0 (by decide +kernel)) (wa_c we_int wa_nil rfl) rfl) rfl) wa_nil rfl) rfl) rfl) rfl) wa_nil rfl) rfl) rfl) rfl) rfl) rfl)
 (ws_cons (s_par2 x 5 6 (by decide +kernel) (wa_c (we_f x.toXOk C 20 g__law_shut (by decide +kernel) (wa_c (we_v x.toXOk 0 (by decide +kernel)) (wa_c (we_v x.toXOk 1 (by decide +kernel)) (wa_c (we_v x.toXOk 2 (by decide +kernel)) (wa_c (we_v x.toXOk 3 (by decide +kernel)) wa_nil rfl) rfl) rfl) rfl) rfl) (wa_c (we_f x.toXOk C 6 g_opened (by decide +kernel) (wa_c (we_v x.toXOk 2 (by decide +kernel)) (wa_c (we_v x.toXOk 3 (by decide +kernel)) wa_nil rfl) rfl) rfl) wa_nil rfl) rfl) (by kernel_rfl) rfl)
 (ws_cons (ws_if (wt_of (ww_or (wt_not (wt_gen x.toXOk.hK (we_f x.toXOk C 21 g__law_steps_right (by decide +kernel) (wa_c (we_v x.toXOk 2 (by decide +kernel)) (wa_c (we_v x.toXOk 3 (by decide +kernel)) wa_nil rfl) rfl) rfl) (fun _ => rfl))) (ww_or (wt_not (wt_gen x.toXOk.hK (we_f x.toXOk C 5 g_is_whole_talks (by decide +kernel) (wa_c (we_v x.toXOk 2 (by decide +kernel)) (wa_c (we_v x.toXOk 4 (by decide +kernel)) wa_nil rfl) rfl) rfl) (fun _ => rfl))) (ww_or1 (wt_not (wt_gen x.toXOk.hK (we_f x.toXOk C 5 g_is_whole_talks (by decide +kernel) (wa_c (we_v x.toXOk 2 (by decide +kernel)) (wa_c (we_v x.toXOk 5 (by decide +kernel)) wa_nil rfl) rfl) rfl) (fun _ => rfl))))))) (ws_cons (ws_ret we_bl)
 ws_nil) ws_nil)
 (ws_cons (ws_if (wt_of (ww_or (wt_cmp (op_neW x.toXOk.u64) (opw_ne x.toXOk.hK) rfl (we_f x.toXOk C 6 g_opened (by decide +kernel) (wa_c (we_v x.toXOk 2 (by decide +kernel)) (wa_c (we_v x.toXOk 6 (by decide +kernel)) wa_nil rfl) rfl) rfl) (we_v x.toXOk 6 (by decide +kernel))) (ww_or1 (wt_not (wt_gen x.toXOk.hK (we_f x.toXOk C 5 g_is_whole_talks (by decide +kernel) (wa_c (we_v x.toXOk 2 (by decide +kernel)) (wa_c (we_op op_addW (opw_add x.toXOk.hK) (we_op op_addW (opw_add x.toXOk.hK) (we_v x.toXOk 5 (by decide +kernel)) (we_v x.toXOk 4 (by decide +kernel))) (we_v x.toXOk 5 (by decide +kernel))) wa_nil rfl) rfl) rfl) (fun _ => rfl)))))) (ws_cons (ws_ret we_bl)
 ws_nil) ws_nil)
 (ws_cons (ws_for x.toXOk.calm (i_rg3 x.toXOk g_range (by decide +kernel) (wa_c we_int (wa_c (we_op op_addW (opw_add x.toXOk.hK) (b_len x.toXOk g_len (by decide +kernel) (wa_c (we_v x.toXOk 3 (by decide +kernel)) wa_nil rfl) rfl) we_int) (wa_c we_int wa_nil rfl) rfl) rfl) rfl) (g_nm x 7 (by decide +kernel)) (ws_cons (s_set x 8 (by decide +kernel) (we_op op_addW (opw_add x.toXOk.hK) (we_op op_addW (opw_add x.toXOk.hK) (we_sl x.toXOk.hK (we_v x.toXOk 3 (by decide +kernel)) wo_none (wo_some (we_v x.toXOk 7 (by decide +kernel)))) (we_v x.toXOk 4 (by decide +kernel))) (we_sl x.toXOk.hK (we_v x.toXOk 3 (by decide +kernel)) (wo_some (we_v x.toXOk 7 (by decide +kernel))) wo_none)) rfl)
 (ws_cons (ws_if (wt_of (ww_or (wt_cmp op_notW opw_isnot rfl (we_f x.toXOk C 4 g_is_talk (by decide +kernel) (wa_c (we_v x.toXOk 2 (by decide +kernel)) (wa_c (we_v x.toXOk 8 (by decide +kernel)) wa_nil rfl) rfl) rfl) we_bl) (ww_or1 (wt_cmp (op_neW x.toXOk.u64) (opw_ne x.toXOk.hK) rfl (we_f x.toXOk C 6 g_opened (by decide +kernel) (wa_c (we_v x.toXOk 2 (by decide +kernel)) (wa_c (we_v x.toXOk 8 (by decide +kernel)) wa_nil rfl) rfl) rfl) (we_v x.toXOk 6 (by decide +kernel)))))) (ws_cons (ws_ret we_bl)
 ws_nil) ws_nil)
 ws_nil)) (fun _ => rfl))
 (ws_cons (ws_ret (we_cmp (op_eqW x.toXOk.u64) (opw_eq x.toXOk.hK) rfl (we_f x.toXOk C 5 g_is_whole_talks (by decide +kernel) (wa_c (we_v x.toXOk 2 (by decide +kernel)) (wa_c (we_v x.toXOk 3 (by decide +kernel)) wa_nil rfl) rfl) rfl) (we_cmp (op_eqW x.toXOk.u64) (opw_eq x.toXOk.hK) rfl (we_v x.toXOk 6 (by decide +kernel)) (we_tup wa_nil))))
 ws_nil))))))
/-! law -/
abbrev t23 : Stmt := top 43
def N23 : List Str := ["_law_script", "_law_k", "_law_hand_here", "_law_speech", "_law_made", "_law_turn"]
def d23 (Φ : Fns) : EW :=
 sSeq (sFor (iRg1 (aCons (dBi bMax2 (aCons (dC (.int 1)) (aCons (dBi bMin2 (aCons (dC (.int 3)) (aCons (dBi bLen (aCons (dVar 0) (aNil))) (aNil)))) (aNil)))) (aNil))) (.nm 1) (sSeq (sSet 2 (dCall (Φ 12) (aCons (dVar 0) (aCons (dVar 1) (aNil)))))
 (sSeq (sSet 3 (dCall (Φ 16) (aCons (dVar 2) (aCons (dC (.int 4)) (aNil)))))
 (sSeq (sSet 4 (dMk iniT valT Φ 0 (aCons (dOp fIx (dVar 3) (dC (.int 0))) (aCons (dOp fIx (dVar 3) (dC (.int 1))) (aCons (dOp fIx (dVar 3) (dC (.int 2))) (aNil))))))
 (sSeq (sFor (iRg1 (aCons (dC (.int 3)) (aNil))) (.nm 5) (sSeq (sIf (dNotT (dTru (dCall (Φ 22) (aCons (dVar 2) (aCons (dVar 3) (aCons (dVar 4) (aCons (dCall (Φ 19) (aCons (dVar 2) (aCons (dVar 3) (aCons (dCall (Φ 13) (aCons (dVar 2) (aCons (dC (.int 17)) (aNil)))) (aNil))))) (aNil)))))))) (sSeq (sRet (dC (.bl false)))
 (sNil)) (sNil))
 (sNil)))
 (sNil))))))
 (sSeq (sRet (dC (.bl true)))
 (sNil))
set_option maxRecDepth 100000 in
theorem w23 (x : StOk (AA K a c) N23 (defScope t23) X) (C : COk (AA K a c) Φ n X) (FO : FldOk (AA K a c)) : WSs (AA K a c) X (defBody t23) (d23 Φ) :=
 (ws_cons (ws_for x.toXOk.calm (i_rg1 x.toXOk g_range (by decide +kernel) (wa_c (b_max x.toXOk g_max (by decide +kernel) (wa_c we_int (wa_c (b_min x.toXOk g_min (by decide +kernel) (wa_c we_int (wa_c (b_len x.toXOk g_len (by decide +kernel) (wa_c (we_v x.toXOk 0 (by decide +kernel)) wa_nil rfl) rfl) wa_nil rfl) rfl) rfl) wa_nil rfl) rfl) rfl) wa_nil rfl) rfl) (g_nm x 1 (by decide +kernel)) (ws_cons (s_set x 2 (by decide +kernel) (we_f x.toXOk C 12 g__law_hand (by decide +kernel) (wa_c (we_v x.toXOk 0 (by decide +kernel)) (wa_c (we_v x.toXOk 1 (by decide +kernel)) wa_nil rfl) rfl) rfl) rfl)
 (ws_cons (s_set x 3 (by decide +kernel) (we_f x.toXOk C 16 g__law_face (by decide +kernel) (wa_c (we_v x.toXOk 2 (by decide +kernel)) (wa_c we_int wa_nil rfl) rfl) rfl) rfl)
 (ws_cons (s_set x 4 (by decide +kernel) (we_mkT x.toXOk C (c := 0) rfl g_Face (by decide +kernel) (wa_c (we_ix x.toXOk.hK (we_v x.toXOk 3 (by decide +kernel)) we_int rfl) (wa_c (we_ix x.toXOk.hK (we_v x.toXOk 3 (by decide +kernel)) we_int rfl) (wa_c (we_ix x.toXOk.hK (we_v x.toXOk 3 (by decide +kernel)) we_int rfl) wa_nil rfl) rfl) rfl) rfl) rfl)
 (ws_cons (ws_for x.toXOk.calm (i_rg1 x.toXOk g_range (by decide +kernel) (wa_c we_int wa_nil rfl) rfl) (g_nm x 5 (by decide +kernel)) (ws_cons (ws_if (wt_not (wt_gen x.toXOk.hK (we_f x.toXOk C 22 g__law_right (by decide +kernel) (wa_c (we_v x.toXOk 2 (by decide +kernel)) (wa_c (we_v x.toXOk 3 (by decide +kernel)) (wa_c (we_v x.toXOk 4 (by decide +kernel)) (wa_c (we_f x.toXOk C 19 g__law_talk (by decide +kernel) (wa_c (we_v x.toXOk 2 (by decide +kernel)) (wa_c (we_v x.toXOk 3 (by decide +kernel)) (wa_c (we_f x.toXOk C 13 g__law_take (by decide +kernel) (wa_c (we_v x.toXOk 2 (by decide +kernel)) (wa_c we_int wa_nil rfl) rfl) rfl) wa_nil rfl) rfl) rfl) rfl) wa_nil rfl) rfl) rfl) rfl) rfl) (fun _ => rfl))) (ws_cons (ws_ret we_bl)
 ws_nil) ws_nil)
 ws_nil) (fun _ => rfl))
 ws_nil)))) (fun _ => rfl))
 (ws_cons (ws_ret we_bl)
 ws_nil))
end
def DD (Φ : Fns) : Nat → EW
  | 0 => d0 Φ
  | 1 => d1 Φ
  | 2 => d2 Φ
  | 3 => d3 Φ
  | 4 => d4 Φ
  | 5 => d5 Φ
  | 6 => d6 Φ
  | 7 => d7 Φ
  | 8 => d8 Φ
  | 9 => d9 Φ
  | 10 => d10 Φ
  | 11 => d11 Φ
  | 12 => d12 Φ
  | 13 => d13 Φ
  | 14 => d14 Φ
  | 15 => d15 Φ
  | 16 => d16 Φ
  | 17 => d17 Φ
  | 18 => d18 Φ
  | 19 => d19 Φ
  | 20 => d20 Φ
  | 21 => d21 Φ
  | 22 => d22 Φ
  | 23 => d23 Φ
  | _ => sNo
def slT (i : Nat) : Nat := ([2, 2, 3, 7, 2, 2, 4, 3, 2, 1, 4, 4, 4, 6, 2, 13, 7, 4, 3, 7, 6, 6, 9, 6] : List Nat).getD i 0
def npT (i : Nat) : Nat := ([2, 2, 2, 3, 2, 2, 2, 3, 1, 1, 3, 4, 2, 2, 2, 2, 2, 3, 2, 3, 4, 2, 4, 1] : List Nat).getD i 0
/-- the program: how deep, which def -/
abbrev prg (k : Nat) : Fns := sem DD slT npT k
end KW.P

set_option linter.all false
set_option maxRecDepth 100000
set_option maxHeartbeats 4000000
namespace KW.P
open PySem L2 KW
structure Hd where
  g : Int
  m : Int
  t : Int
abbrev HO (a : Hd) : Ob := .lst [.int a.g, .int a.m, .int a.t]
structure Hd.Ok (a : Hd) (n : Nat) : Prop where
  g : 0 ≤ a.g
  m : 0 ≤ a.m ∧ a.m < 2 ^ 61
  t : 0 ≤ a.t ∧ a.t ≤ n
theorem Hd.Ok.mono {a : Hd} {n n' : Nat} (h : a.Ok n) (l : n ≤ n') : a.Ok n' := ⟨h.g, h.m, h.t.1, by have := h.t.2; omega⟩
theorem prg_s (k f : Nat) (args : List W) (h : WH) : prg (k + 1) f args h = runF (slT f) (npT f) (DD (prg k) f) args h := rfl
theorem take_g {k : Nat} {h : WH} {r : Nat} {a : Hd} {n : Int} (hr : h[r]? = some (HO a)) (hg : 0 < a.g) (hn : 0 < n) (hl : divB n = true) :
    prg (k + 1) 13 [.ref r, .int n] h = .ok (.int (a.g % n)) (h.set r (HO { a with g := a.g / n })) := by
  rw [prg_s]
  simp [runF, slT, npT, DD, d13, f_ixR hr, setI_ok hr (i := 0) (n := 0) rfl, hg, hn, hl]
theorem take_ok {k N : Nat} {h : WH} {r : Nat} {a : Hd} {n : Int} (hr : h[r]? = some (HO a)) (ha : a.Ok N) (hN : N < 1000000) (hn : 0 < n) (hl : n < 1000000) :
    ∃ d a', prg (k + 1) 13 [.ref r, .int n] h = .ok (.int d) (h.set r (HO a')) ∧ 0 ≤ d ∧ d < n ∧ a'.Ok (N + 1) := by
  by_cases hg : 0 < a.g
  · refine ⟨_, _, take_g hr hg hn (divB_of hn (by omega)), Int.emod_nonneg _ (by omega), Int.emod_lt_of_pos _ hn, ?_, ha.m, ha.t.1, by have := ha.t.2; show a.t ≤ _; omega⟩
    exact Int.ediv_nonneg ha.g (by omega)
  · obtain ⟨p, hp, ep⟩ := atMem (xs := [W.int 2305843009213693951, W.int 999999999989, W.int 1000000000039, W.int 67280421310721]) (i := (a.t + 1) % 4) (by omega) (by simp only [List.length_cons, List.length_nil]; omega)
    obtain ⟨q, rfl, q0, q1⟩ : ∃ q : Int, p = .int q ∧ 0 < q ∧ q ≤ 2305843009213693951 := by
      simp only [List.mem_cons, List.not_mem_nil, or_false] at hp
      rcases hp with rfl | rfl | rfl | rfl <;> exact ⟨_, rfl, by decide, by decide⟩
    obtain ⟨t0, t1⟩ := ha.t
    have c1 : mulB 7919 (a.t + 1) = true := mulB_of 100 (by omega) (by omega) (by decide)
    have c2 : mulB (7919 * (a.t + 1)) (a.t + 1) = true := mulB_of 100 (by omega) (by omega) (by decide)
    have c3 : mulB 65537 (a.t + 1) = true := mulB_of 100 (by omega) (by omega) (by decide)
    generalize hx : (a.m + 7919 * (a.t + 1) * (a.t + 1) + 65537 * (a.t + 1)) % q = x
    have x0 : 0 ≤ x := by rw [← hx]; exact Int.emod_nonneg _ (by omega)
    have x1 : x < q := by rw [← hx]; exact Int.emod_lt_of_pos _ q0
    have l5 := powB5 (i := x) 61 (by omega) (by decide)
    generalize hy : x ^ 5 % q = y
    have y0 : 0 ≤ y := by rw [← hy]; exact Int.emod_nonneg _ (by omega)
    have y1 : y < q := by rw [← hy]; exact Int.emod_lt_of_pos _ q0
    have c4 : mulB (y / 1000003) 7 = true := mulB_of 100 (by omega) (by omega) (by decide)
    have dd : divB 4099 = true := by decide
    have de : divB 1000003 = true := by decide
    refine ⟨(y / 4099 + y / 1000003 * 7) % n, { a with t := a.t + 1 }, ?_, Int.emod_nonneg _ (by omega), Int.emod_lt_of_pos _ hn, ha.g, ha.m, by show 0 ≤ a.t + 1; omega, by show a.t + 1 ≤ _; omega⟩
    rw [prg_s]
    have hr2 := get_same (x := HO { a with t := a.t + 1 }) hr
    simp only [HO] at hr2
    simp [runF, slT, npT, DD, d13, f_ixR hr, f_ixR hr2, setI_ok hr (i := 2) (n := 2) rfl, hg, hn, lim, ep, q0, c1, c2, c3, c4, hx, hy, l5, dd, de]
end KW.P

set_option linter.all false
set_option maxRecDepth 100000
set_option maxHeartbeats 4000000
namespace KW.P
open PySem L2 KW
theorem of_lst {k N : Nat} {h : WH} {r : Nat} {a : Hd} {ws : List W} (hr : h[r]? = some (HO a)) (ha : a.Ok N) (hN : N < 1000000) (h0 : ws ≠ []) (hl : ws.length < 1000) :
    ∃ w a', prg (k + 2) 14 [.ref r, .lst ws] h = .ok w (h.set r (HO a')) ∧ w ∈ ws ∧ a'.Ok (N + 1) := by
  have hp : 0 < ws.length := List.length_pos_iff.mpr h0
  obtain ⟨d, a', e, d0, d1, ok⟩ := take_ok (k := k) (n := (ws.length : Nat)) hr ha hN (by omega) (by omega)
  obtain ⟨w, hw, ew⟩ := atMem (xs := ws) d0 d1
  refine ⟨w, a', ?_, hw, ok⟩
  rw [prg_s]
  simp [runF, slT, npT, DD, d14, bLen, seqOf, lstOf, e, ew]
theorem of_tup {k N : Nat} {h : WH} {r : Nat} {a : Hd} {ws : List W} (hr : h[r]? = some (HO a)) (ha : a.Ok N) (hN : N < 1000000) (h0 : ws ≠ []) (hl : ws.length < 1000) :
    ∃ w a', prg (k + 2) 14 [.ref r, .tup ws] h = .ok w (h.set r (HO a')) ∧ w ∈ ws ∧ a'.Ok (N + 1) := by
  have hp : 0 < ws.length := List.length_pos_iff.mpr h0
  obtain ⟨d, a', e, d0, d1, ok⟩ := take_ok (k := k) (n := (ws.length : Nat)) hr ha hN (by omega) (by omega)
  obtain ⟨w, hw, ew⟩ := atMem (xs := ws) d0 d1
  refine ⟨w, a', ?_, hw, ok⟩
  rw [prg_s]
  simp [runF, slT, npT, DD, d14, bLen, seqOf, e, ew]
theorem of_str {k N : Nat} {h : WH} {r : Nat} {a : Hd} {x : Str} (hr : h[r]? = some (HO a)) (ha : a.Ok N) (hN : N < 1000000) (h0 : 0 < x.length) (hl : x.length < 1000) :
    ∃ c a', prg (k + 2) 14 [.ref r, .str x] h = .ok (.str ⟨#[c]⟩) (h.set r (HO a')) ∧ c ∈ x.cps.toList ∧ a'.Ok (N + 1) := by
  obtain ⟨d, a', e, d0, d1, ok⟩ := take_ok (k := k) (n := (x.length : Nat)) hr ha hN (by omega) (by omega)
  obtain ⟨c, hc, ec⟩ := atMem (xs := x.cps.toList) d0 (by simpa [Str.length] using d1)
  have l1 : x.length ≤ lim := by unfold lim; omega
  refine ⟨c, a', ?_, hc, ok⟩
  rw [prg_s]
  simp [runF, slT, npT, DD, d14, bLen, e, ec, l1, fIx]
end KW.P

set_option linter.all false
set_option maxRecDepth 100000
set_option maxHeartbeats 4000000
namespace KW.P
open PySem L2 KW TL
/-! texts -/
abbrev cl (x : Str) : List Nat := x.cps.toList
theorem cl_inj {x y : Str} (h : cl x = cl y) : x = y := by
  obtain ⟨⟨a⟩⟩ := x
  obtain ⟨⟨b⟩⟩ := y
  simp only [cl] at h
  rw [h]
theorem cl_app (x y : Str) : cl (x ++ y) = cl x ++ cl y := by
  show (x.cps ++ y.cps).toList = _
  simp
theorem cl_len (x : Str) : x.length = (cl x).length := by simp [Str.length]
theorem cl_joinL : ∀ ps : List (List Nat), joinL [] ps = ps.flatten
  | [] => rfl
  | [p] => by simp [joinL]
  | p :: q :: r => by
    rw [joinL, cl_joinL (q :: r)]; simp
theorem cl_join (ps : List Str) : cl (Txt.join Str.empty ps) = (ps.map cl).flatten := by
  rw [join_eq]
  show tl (Str.join Str.empty ps) = _
  rw [tl_join]
  show joinL [] (ps.map tl) = _
  rw [cl_joinL]
def LET : Str := "abcdefghijklmnopqrstuvwxyz"
def Low (l : List Nat) : Prop := ∀ c ∈ l, 97 ≤ c ∧ c ≤ 122
theorem low_let : Low (cl LET) := by unfold Low; decide +kernel
theorem let_len : LET.length = 26 := by decide +kernel
theorem let_nodup : (cl LET).Nodup := by decide +kernel
/-- a name that may be a door's -/
def Nm (s : Str) : Prop := 1 ≤ s.length ∧ s.length ≤ 6 ∧ Low (cl s) ∧ s ≠ "main"
def L12 : List Str := ["put", "go", "when", "ask", "tell", "halt", "size", "cell", "door", "knock", "answer", "a"]
theorem l12_nm : ∀ s ∈ L12, Nm s := by
  have h : ∀ s ∈ L12, 1 ≤ s.length ∧ s.length ≤ 6 ∧ (∀ c ∈ cl s, 97 ≤ c ∧ c ≤ 122) ∧ s ≠ "main" := by decide +kernel
  exact h
theorem l12_nodup : L12.Nodup := by decide +kernel
/-! the heap's shapes -/
section
variable {h : WH} {r : Nat} {x y : Ob} {o o' : Ob} {e : WH}
theorem sa_get (hr : r < h.length) : (h.set r x ++ e)[r]? = some x := by
  rw [List.getElem?_append_left (by simpa using hr), List.getElem?_set_self hr]
theorem sa_set (hr : r < h.length) : (h.set r x ++ e).set r y = h.set r y ++ e := by
  rw [List.set_append_left _ _ (by simpa using hr), List.set_set]
theorem sa_end : (h.set r x ++ o :: e)[h.length]? = some o := by
  rw [List.getElem?_append_right (by simp)]
  simp
theorem sa_setE : (h.set r x ++ o :: e).set h.length o' = h.set r x ++ o' :: e := by
  rw [List.set_append_right _ _ (by simp)]
  simp
end
theorem ho_lt {a : Hd} {n : Nat} : (HO a).lt n = true := by simp [HO, Ob.lt, W.lts, W.lt]
theorem strs_lt {ss : List Str} {n : Nat} : W.lts n (ss.map W.str) = true := by
  induction ss with
  | nil => rfl
  | cons s ss ih => simp [W.lts, W.lt, ih]
theorem gc_ho {h : WH} {r : Nat} {a : Hd} {w : W} {e : WH} (hr : r < h.length) (hw : w.lt h.length = true) : gc h.length w h (h.set r (HO a) ++ e) = h.set r (HO a) := by
  refine gc_drop (by simp) hw fun i hi => ?_
  by_cases z : r = i
  · subst z
    exact .inr ⟨_, List.getElem?_set_self hr, ho_lt⟩
  · exact .inl (List.getElem?_set_ne z)
theorem strsOf_map (ss : List Str) : strsOf (ss.map W.str) = some ss := by
  induction ss with
  | nil => rfl
  | cons s ss ih => simp [strsOf, ih]
theorem rng_get {i n : Nat} {w : W} (h : (rngW 0 n)[i]? = some w) : w = .int (i : Int) ∧ i < n := by
  have hi : i < n := by
    have := (List.getElem?_eq_some_iff.mp h).1
    simpa [rngW] using this
  simp only [rngW, List.getElem?_map, List.getElem?_range hi, Option.map_some, Option.some.injEq] at h
  exact ⟨by rw [← h]; simp, hi⟩
theorem rng_len {n : Nat} : (rngW 0 n).length = n := by simp [rngW]
theorem seqIx {d : Int} {n : Nat} (h0 : 0 ≤ d) (h1 : d < n) : seqIndex? d n = some d.toNat := by
  have e : ¬ d < 0 := by omega
  unfold seqIndex?
  simp only [if_neg e]
  rw [if_pos (by simp [h0, h1])]
theorem map_erase {α β : Type} (f : α → β) : ∀ (l : List α) (i : Nat), (l.map f).eraseIdx i = (l.eraseIdx i).map f
  | [], _ => rfl
  | _ :: _, 0 => rfl
  | x :: l, i + 1 => by simp [map_erase f l i]
theorem perm_erase {α : Type} : ∀ {l : List α} {i : Nat} (h : i < l.length), (l[i] :: l.eraseIdx i).Perm l
  | x :: l, 0, _ => .refl _
  | x :: l, i + 1, h => by
    simp only [List.getElem_cons_succ, List.eraseIdx_cons_succ]
    exact (List.Perm.swap ..).trans (.cons x (perm_erase (by simpa using h)))
/-- the first kind of names: drawn from twelve -/
theorem names1 {k N : Nat} {h : WH} {r n : Nat} {a : Hd} {sw : WS} (hr : r < h.length) (ha : a.Ok N) (hN : N < 900000) (hn : n ≤ 6) (e0 : sw[0]? = some (some (.ref r))) (e2 : sw[2]? = some (some (.ref h.length))) (e3 : 3 < sw.length) :
    ∃ (a' : Hd) (rem ss : List Str), compL none (rngW 0 n) (tgW (.nm 3)) bYes (dBM "list" fPopAt (dVar 2) (aCons (dCall (prg (k + 1) 13) (aCons (dVar 0) (aCons (dBi bLen (aCons (dVar 2) (aNil))) (aNil)))) (aNil))) sw (rngW 0 n) [] (h.set r (HO a) ++ [.lst (L12.map .str)]) = .ok (ss.map .str) (h.set r (HO a') ++ [.lst (rem.map .str)]) ∧
      ss.length = n ∧ ss.Nodup ∧ (∀ s ∈ ss, s ∈ L12) ∧ a'.Ok (N + n) := by
  obtain ⟨acc, h', e, a', rem, ss, rfl, rfl, h1, h2, h3, h4, h5⟩ := compL_run (src := none) (ws0 := rngW 0 n) (t := tgW (.nm 3)) (cond := bYes)
    (elt := dBM "list" fPopAt (dVar 2) (aCons (dCall (prg (k + 1) 13) (aCons (dVar 0) (aCons (dBi bLen (aCons (dVar 2) (aNil))) (aNil)))) (aNil))) (sw := sw) (items := rngW 0 n) (h := h.set r (HO a) ++ [.lst (L12.map .str)])
    (fun i acc h' => ∃ (a' : Hd) (rem ss : List Str), acc = ss.map W.str ∧ h' = h.set r (HO a') ++ [.lst (rem.map .str)] ∧ ss.length = i ∧ rem.length + i = 12 ∧ (ss ++ rem).Nodup ∧ (∀ s ∈ ss ++ rem, s ∈ L12) ∧ a'.Ok (N + i))
    ⟨a, L12, [], rfl, rfl, rfl, rfl, by simpa using l12_nodup, by simp, ha⟩ (fun _ _ _ _ _ => rfl) (by
      rintro i w acc h' hw ⟨a', rem, ss, rfl, rfl, h1, h2, h3, h4, h5⟩
      obtain ⟨rfl, hi⟩ := rng_get hw
      have g1 := sa_get (x := HO a') (e := [.lst (rem.map .str)]) hr
      obtain ⟨d, a2, e, d0, d1, ok⟩ := take_ok (k := k) (n := ((rem.map W.str).length : Nat)) g1 h5 (by omega) (by rw [List.length_map]; omega) (by rw [List.length_map]; omega)
      rw [sa_set hr] at e
      rw [List.length_map] at e d1
      have hd : d.toNat < rem.length := by omega
      have g2 : (h.set r (HO a') ++ [.lst (rem.map W.str)])[h.length]? = some (.lst (rem.map .str)) := sa_end
      have g3 : (h.set r (HO a2) ++ [.lst (rem.map W.str)])[h.length]? = some (.lst (rem.map .str)) := sa_end
      refine ⟨sw.set 3 (some (.int i)), _, rfl, .inr ⟨.str rem[d.toNat], h.set r (HO a2) ++ [.lst ((rem.eraseIdx d.toNat).map .str)], rfl, ?_, by rw [List.length_map, h1]; unfold lim; omega, a2, rem.eraseIdx d.toNat, ss ++ [rem[d.toNat]], by simp, rfl, by simp [h1], ?_, ?_, ?_, ?_⟩⟩
      · have q0 : (sw.set 3 (some (.int i)))[0]? = some (some (.ref r)) := by rw [List.getElem?_set_ne (by decide)]; exact e0
        have q2 : (sw.set 3 (some (.int i)))[2]? = some (some (.ref h.length)) := by rw [List.getElem?_set_ne (by decide)]; exact e2
        have lb : bLen [.ref h.length] (h.set r (HO a') ++ [.lst (rem.map W.str)]) = .ok (.int (rem.length : Nat)) (h.set r (HO a') ++ [.lst (rem.map W.str)]) := by
          simp only [bLen, seqOf, lstOf, g2, List.length_map]
        have ti : tyIs "list" (h.set r (HO a') ++ [.lst (rem.map W.str)]) (.ref h.length) = true := by simp only [tyIs, g2]; rfl
        have se : seqIndex? d (rem.map W.str).length = some d.toNat := seqIx d0 (by rw [List.length_map]; exact d1)
        have gg : (rem.map W.str)[d.toNat]? = some (.str rem[d.toNat]) := by rw [List.getElem?_map, List.getElem?_eq_getElem hd]; rfl
        have bd : -(2 ^ 63) ≤ d ∧ d < 2 ^ 63 := by omega
        have pp : fPopAt (.ref h.length) [.int d] (h.set r (HO a2) ++ [Ob.lst (rem.map W.str)]) = .ok (.str rem[d.toNat]) ((h.set r (HO a2) ++ [Ob.lst (rem.map W.str)]).set h.length (Ob.lst ((rem.map W.str).eraseIdx d.toNat))) := by
          simp only [fPopAt, g3, if_pos bd, se, gg]
        simp only [x_bm, x_var, q0, q2, x_bind, ti, if_true, x_cons, x_call, x_bi, x_nil, lb, e, pp]
        rw [sa_setE, map_erase]
      · rw [List.length_eraseIdx_of_lt hd]; omega
      · have := List.Perm.append_left ss (perm_erase hd).symm
        rw [List.append_assoc]
        exact (List.Perm.nodup_iff (by simpa using this)).mp h3
      · intro s hs
        apply h4
        rw [List.append_assoc] at hs
        have := List.Perm.append_left ss (perm_erase hd)
        exact this.mem_iff.mp (by simpa using hs)
      · rw [show N + (i + 1) = N + i + 1 from by omega]; exact ok)
  rw [rng_len] at h1 h5
  exact ⟨a', rem, ss, e, h1, (List.nodup_append.mp h3).1, fun s hs => h4 s (List.mem_append_left _ hs), h5⟩
end KW.P

set_option linter.all false
set_option maxRecDepth 100000
set_option maxHeartbeats 4000000
namespace KW.P
open PySem L2 KW TL
theorem stem_ok {k N : Nat} {h : WH} {r m : Nat} {a : Hd} {sw : WS} (hr : r < h.length) (ha : a.Ok N) (hN : N < 900000) (hm : m ≤ 4) (e0 : sw[0]? = some (some (.ref r))) (e4 : sw[4]? = some (some (.str LET))) :
    ∃ (a' : Hd) (cs : List Nat), compL none (rngW 0 m) (tgW (.nm 3)) bYes (dCall (prg (k + 2) 14) (aCons (dVar 0) (aCons (dVar 4) (aNil)))) sw (rngW 0 m) [] (h.set r (HO a)) = .ok (cs.map fun c => .str ⟨#[c]⟩) (h.set r (HO a')) ∧ cs.length = m ∧ Low cs ∧ a'.Ok (N + m) := by
  obtain ⟨acc, h', e, a', cs, rfl, rfl, h1, h2, h3⟩ := compL_run (src := none) (ws0 := rngW 0 m) (t := tgW (.nm 3)) (cond := bYes) (elt := dCall (prg (k + 2) 14) (aCons (dVar 0) (aCons (dVar 4) (aNil)))) (sw := sw) (items := rngW 0 m) (h := h.set r (HO a))
    (fun i acc h' => ∃ (a' : Hd) (cs : List Nat), acc = (cs.map fun c => W.str ⟨#[c]⟩) ∧ h' = h.set r (HO a') ∧ cs.length = i ∧ Low cs ∧ a'.Ok (N + i))
    ⟨a, [], rfl, rfl, rfl, by simp [Low], ha⟩ (fun _ _ _ _ _ => rfl) (by
      rintro i w acc h' hw ⟨a', cs, rfl, rfl, h1, h2, h3⟩
      obtain ⟨rfl, hi⟩ := rng_get hw
      have g1 : (h.set r (HO a'))[r]? = some (HO a') := List.getElem?_set_self hr
      obtain ⟨c, a2, e, hc, ok⟩ := of_str (k := k) (x := LET) g1 h3 (by omega) (by rw [let_len]; decide) (by rw [let_len]; decide)
      rw [List.set_set] at e
      refine ⟨sw.set 3 (some (.int i)), _, rfl, .inr ⟨.str ⟨#[c]⟩, h.set r (HO a2), rfl, ?_, by rw [List.length_map, h1]; unfold lim; omega, a2, cs ++ [c], by simp, rfl, by simp [h1], ?_, ?_⟩⟩
      · have q0 : (sw.set 3 (some (.int i)))[0]? = some (some (.ref r)) := by rw [List.getElem?_set_ne (by decide)]; exact e0
        have q4 : (sw.set 3 (some (.int i)))[4]? = some (some (.str LET)) := by rw [List.getElem?_set_ne (by decide)]; exact e4
        simp only [x_call, x_cons, x_var, q0, q4, x_bind, x_nil, e]
      · intro z hz
        rcases List.mem_append.mp hz with q | q
        · exact h2 z q
        · rw [List.mem_singleton.mp q]; exact low_let c hc
      · rw [show N + (i + 1) = N + i + 1 from by omega]; exact ok)
  rw [rng_len] at h1 h3
  exact ⟨a', cs, e, h1, h2, h3⟩
/-! words -/
theorem low_app {x y : List Nat} (h1 : Low x) (h2 : Low y) : Low (x ++ y) := fun c hc => (List.mem_append.mp hc).elim (h1 c) (h2 c)
/-- the letter of a place -/
def lt (i : Int) : Nat := (cl LET).getD i.toNat 0
theorem lt_at {i : Int} (h0 : 0 ≤ i) (h1 : i < 26) : atI (cl LET) i = some (lt i) := by
  have hl : (cl LET).length = 26 := by rw [← cl_len]; exact let_len
  have h2 : i.toNat < (cl LET).length := by omega
  rw [atN h0 (by rw [hl]; exact h1), lt, List.getD_eq_getElem?_getD, List.getElem?_eq_getElem h2]; rfl
theorem lt_low {i : Int} (h0 : 0 ≤ i) (h1 : i < 26) : 97 ≤ lt i ∧ lt i ≤ 122 := by
  have hl : (cl LET).length = 26 := by rw [← cl_len]; exact let_len
  have h2 : i.toNat < (cl LET).length := by omega
  refine low_let _ ?_
  rw [lt, List.getD_eq_getElem?_getD, List.getElem?_eq_getElem h2]
  exact List.getElem_mem _
theorem lt_inj {i j : Int} (h0 : 0 ≤ i) (h1 : i < 26) (g0 : 0 ≤ j) (g1 : j < 26) (e : lt i = lt j) : i = j := by
  have d : ∀ a, a < 26 → ∀ b, b < 26 → (cl LET).getD a 0 = (cl LET).getD b 0 → a = b := by decide +kernel
  have := d i.toNat (by omega) j.toNat (by omega) e
  omega
def pr (x : Int) : Str := ⟨#[lt (x / 26)]⟩ ++ ⟨#[lt (x % 26)]⟩
theorem cl_pr (x : Int) : cl (pr x) = [lt (x / 26), lt (x % 26)] := by
  rw [pr, cl_app]; rfl
def fixW (w : Str) : Str := if w = "main" then w ++ "x" else w ++ Str.empty
theorem cl_fix {w : Str} (h : ¬ w = "main") : fixW w = w := by
  rw [fixW, if_neg h]
  apply cl_inj
  rw [cl_app]
  show cl w ++ [] = cl w
  simp
theorem fix_main : fixW "main" = "mainx" := by decide +kernel
theorem fix_nm {w : Str} (h1 : 1 ≤ w.length) (h2 : w.length ≤ 6) (h3 : Low (cl w)) : Nm (fixW w) := by
  by_cases z : w = "main"
  · subst z
    rw [fix_main]
    have h : 1 ≤ ("mainx" : Str).length ∧ ("mainx" : Str).length ≤ 6 ∧ (∀ c ∈ cl "mainx", 97 ≤ c ∧ c ≤ 122) ∧ ("mainx" : Str) ≠ "main" := by decide +kernel
    exact h
  · rw [cl_fix z]
    exact ⟨h1, h2, h3, z⟩
theorem fix_inj {w v : Str} (hl : w.length = v.length) (e : fixW w = fixW v) : w = v := by
  by_cases z : w = "main"
  · by_cases y : v = "main"
    · rw [z, y]
    · exfalso
      rw [cl_fix y, z, fix_main] at e
      rw [← e, z] at hl
      revert hl; decide +kernel
  · by_cases y : v = "main"
    · exfalso
      rw [cl_fix z, y, fix_main] at e
      rw [e, y] at hl
      revert hl; decide +kernel
    · rw [cl_fix z, cl_fix y] at e; exact e
/-- the words -/
def word (first by_ : Int) (l r : Str) (j : Nat) : Str := fixW (l ++ pr ((first + by_ * j) % 676) ++ r)
theorem word_len {l r : Str} {x : Int} : (l ++ pr x ++ r).length = l.length + 2 + r.length := by
  rw [cl_len, cl_app, cl_app, cl_pr, cl_len l, cl_len r]
  simp; omega
theorem word_inj {l r : Str} {x y : Int} (hx : 0 ≤ x ∧ x < 676) (hy : 0 ≤ y ∧ y < 676) (e : l ++ pr x ++ r = l ++ pr y ++ r) : x = y := by
  have e1 := congrArg cl e
  rw [cl_app, cl_app, cl_app, cl_app, cl_pr, cl_pr, List.append_assoc, List.append_assoc] at e1
  have e2 := List.append_cancel_left e1
  simp only [List.cons_append, List.nil_append, List.cons.injEq, and_true] at e2
  have a1 := lt_inj (by omega) (by omega) (by omega) (by omega) e2.1
  have a2 := lt_inj (by omega) (by omega) (by omega) (by omega) e2.2
  omega
/-- the second kind of names: words of one stem -/
theorem words_run {k : Nat} {h : WH} {r n : Nat} {a : Hd} {first by_ spot : Int} {stem : Str} {x2 x3 x10 x11 x12 : Option W} (hn : n ≤ 6) (hs : stem.length ≤ 4) (hf : 0 ≤ first ∧ first < 676) (hb : 0 ≤ by_ ∧ by_ ≤ 105) :
    ∃ (sw' : WS), forL none (rngW 0 n) (tgW (.nm 3)) (sSeq (sSet 10 (dOp (fMod) (dOp (fAdd false) (dVar 5) (dOp (fMul false) (dVar 6) (dVar 3))) (dC (.int 676))))
 (sSeq (sSet 11 (dOp (fAdd false) (dOp fIx (dVar 4) (dOp (fDiv) (dVar 10) (dC (.int 26)))) (dOp fIx (dVar 4) (dOp (fMod) (dVar 10) (dC (.int 26))))))
 (sSeq (sSet 12 (dOp (fAdd false) (dOp (fAdd false) (dSl false (dVar 7) (oNo) (oSome (dVar 8))) (dVar 11)) (dSl false (dVar 7) (oSome (dVar 8)) (oNo))))
 (sSeq (sExpr (dBM "list" fAppend (dVar 9) (aCons (dOp (fAdd false) (dVar 12) (dOp (fMul false) (dC (.str ("x" : Str))) (dBi bInt (aCons (dOp (fEq false) (dVar 12) (dC (.str ("main" : Str)))) (aNil))))) (aNil))))
 (sNil))))) (rngW 0 n) [some (.ref r), some (.int n), x2, x3, some (.str LET), some (.int first), some (.int by_), some (.str stem), some (.int spot), some (.ref h.length), x10, x11, x12] (h.set r (HO a) ++ [.lst []]) =
      .ok (.next sw') (h.set r (HO a) ++ [.lst (((List.range n).map (word first by_ (cutS stem none (some spot)) (cutS stem (some spot) none))).map .str)]) ∧ sw'[9]? = some (some (.ref h.length)) := by
  obtain ⟨sw', h', e, y3, y10, y11, y12, rfl, rfl⟩ := forL_run (src := none) (ws0 := rngW 0 n) (t := tgW (.nm 3)) (items := rngW 0 n) (h := h.set r (HO a) ++ [.lst []])
    (body := (sSeq (sSet 10 (dOp (fMod) (dOp (fAdd false) (dVar 5) (dOp (fMul false) (dVar 6) (dVar 3))) (dC (.int 676))))
 (sSeq (sSet 11 (dOp (fAdd false) (dOp fIx (dVar 4) (dOp (fDiv) (dVar 10) (dC (.int 26)))) (dOp fIx (dVar 4) (dOp (fMod) (dVar 10) (dC (.int 26))))))
 (sSeq (sSet 12 (dOp (fAdd false) (dOp (fAdd false) (dSl false (dVar 7) (oNo) (oSome (dVar 8))) (dVar 11)) (dSl false (dVar 7) (oSome (dVar 8)) (oNo))))
 (sSeq (sExpr (dBM "list" fAppend (dVar 9) (aCons (dOp (fAdd false) (dVar 12) (dOp (fMul false) (dC (.str ("x" : Str))) (dBi bInt (aCons (dOp (fEq false) (dVar 12) (dC (.str ("main" : Str)))) (aNil))))) (aNil))))
 (sNil))))))
    (sw := [some (.ref r), some (.int n), x2, x3, some (.str LET), some (.int first), some (.int by_), some (.str stem), some (.int spot), some (.ref h.length), x10, x11, x12])
    (fun i sw h' => ∃ y3 y10 y11 y12 : Option W, sw = [some (.ref r), some (.int n), x2, y3, some (.str LET), some (.int first), some (.int by_), some (.str stem), some (.int spot), some (.ref h.length), y10, y11, y12] ∧
      h' = h.set r (HO a) ++ [.lst (((List.range i).map (word first by_ (cutS stem none (some spot)) (cutS stem (some spot) none))).map .str)])
    ⟨_, _, _, _, rfl, rfl⟩ (fun _ _ _ _ _ => rfl) (by
      rintro i w sw h' hw ⟨y3, y10, y11, y12, rfl, rfl⟩
      obtain ⟨rfl, hi⟩ := rng_get hw
      generalize hL : cutS stem none (some spot) = L
      generalize hR : cutS stem (some spot) none = Rr
      have cl1 : L.length ≤ 4 := by rw [← hL, cl_len]; simp only [cl, cutS, List.length_take, List.length_drop]; rw [cl_len] at hs; simp only [cl] at hs ⊢; omega
      have cl2 : Rr.length ≤ 4 := by rw [← hR, cl_len]; simp only [cl, cutS, List.length_take, List.length_drop]; rw [cl_len] at hs; simp only [cl] at hs ⊢; omega
      generalize hx : (first + by_ * (i : Int)) % 676 = x
      have x0 : 0 ≤ x := by rw [← hx]; exact Int.emod_nonneg _ (by decide)
      have x1 : x < 676 := by rw [← hx]; exact Int.emod_lt_of_pos _ (by decide)
      have m1 : mulB by_ (i : Int) = true := mulB_of 100 (by omega) (by omega) (by decide)
      have dd : divB 26 = true := by decide
      have t1 := lt_at (i := x / 26) (by omega) (by omega)
      have t2 := lt_at (i := x % 26) (by omega) (by omega)
      have ll : LET.length ≤ lim := by rw [let_len]; decide
      have s1 : stem.length ≤ lim := Nat.le_trans hs (by decide)
      have g : (h.set r (HO a) ++ [Ob.lst (((List.range i).map (word first by_ L Rr)).map .str)])[h.length]? = some (.lst (((List.range i).map (word first by_ L Rr)).map .str)) := sa_end
      have one : ∀ c : Nat, (⟨#[c]⟩ : Str).length = 1 := fun c => rfl
      have lp : (pr x).length = 2 := by rw [cl_len, cl_pr]; rfl
      have lq : (L ++ pr x).length = L.length + 2 := by rw [cl_len, cl_app, List.length_append, cl_pr, cl_len]; rfl
      have lw := word_len (l := L) (r := Rr) (x := x)
      refine ⟨_, [some (.ref r), some (.int n), x2, some (.int i), some (.str LET), some (.int first), some (.int by_), some (.str stem), some (.int spot), some (.ref h.length), some (.int x), some (.str (pr x)), some (.str (L ++ pr x ++ Rr))], h.set r (HO a) ++ [.lst (((List.range (i + 1)).map (word first by_ L Rr)).map .str)], rfl, .inl ?_, _, _, _, _, rfl, rfl⟩
      have w1 : word first by_ L Rr i = fixW (L ++ pr x ++ Rr) := by rw [word, hx]
      have a1 : ∀ g : WH, fAdd false (.str ⟨#[lt (x / 26)]⟩) (.str ⟨#[lt (x % 26)]⟩) g = .ok (.str (pr x)) g := fun g => by
        simp only [fAdd, one]; rw [if_pos (by decide)]; rfl
      have a2 : ∀ g : WH, fAdd false (.str L) (.str (pr x)) g = .ok (.str (L ++ pr x)) g := fun g => by
        simp only [fAdd, lp]; rw [if_pos (by unfold lim; omega)]
      have a3 : ∀ g : WH, fAdd false (.str (L ++ pr x)) (.str Rr) g = .ok (.str (L ++ pr x ++ Rr)) g := fun g => by
        simp only [fAdd, lq]; rw [if_pos (by unfold lim; omega)]
      have i1 : ∀ g : WH, fIx (.str LET) (.int (x / 26)) g = .ok (.str ⟨#[lt (x / 26)]⟩) g := fun g => by
        simp only [fIx, if_pos ll]; rw [t1]
      have i2 : ∀ g : WH, fIx (.str LET) (.int (x % 26)) g = .ok (.str ⟨#[lt (x % 26)]⟩) g := fun g => by
        simp only [fIx, if_pos ll]; rw [t2]
      have c1 : ∀ g : WH, fSl false (.str stem) none (some spot) g = .ok (.str L) g := fun g => by
        simp only [fSl, if_pos s1, hL]
      have c2 : ∀ g : WH, fSl false (.str stem) (some spot) none g = .ok (.str Rr) g := fun g => by
        simp only [fSl, if_pos s1, hR]
      have last : ∀ g : WH, ((((fEq false (.str (L ++ pr x ++ Rr)) (.str "main") g).bind fun w h1 => R.ok [w] h1).bind bInt).bind fun u h2 => fMul false (.str "x") u h2).bind (fun v h3 => fAdd false (.str (L ++ pr x ++ Rr)) v h3) = .ok (.str (fixW (L ++ pr x ++ Rr))) g := fun g => by
        by_cases z : L ++ pr x ++ Rr = "main"
        · simp only [fEq, scalW, z, decide_true, Bool.true_bne, Bool.not_false, x_bind, bInt, if_true, fMul, if_neg (show ¬ (1 : Int) = 0 by decide), fixW, fAdd]
          rw [if_pos (by decide +kernel)]
        · simp only [fEq, scalW, z, decide_false, Bool.false_bne, x_bind, bInt, fMul, fixW, fAdd]
          simp only [if_neg z, Bool.false_eq_true, if_false, if_true, x_bind]
          rw [if_pos (by rw [lw]; show _ + 0 ≤ _; unfold lim; omega)]
      have ap : fAppend (.ref h.length) [.str (fixW (L ++ pr x ++ Rr))] (h.set r (HO a) ++ [Ob.lst (((List.range i).map (word first by_ L Rr)).map .str)]) = .ok .non (h.set r (HO a) ++ [Ob.lst (((List.range (i + 1)).map (word first by_ L Rr)).map .str)]) := by
        simp only [fAppend, g]
        rw [if_pos (by simp; unfold lim; omega), sa_setE, ← w1]
        simp [List.range_succ]
      have ti : tyIs "list" (h.set r (HO a) ++ [Ob.lst (((List.range i).map (word first by_ L Rr)).map .str)]) (.ref h.length) = true := by simp only [tyIs, g]; rfl
      simp [-List.map_map, hx, m1, dd, a1, a2, a3, i1, i2, c1, c2, ti, last, ap])
  exact ⟨_, by rw [rng_len] at e; exact e, rfl⟩
end KW.P

set_option linter.all false
set_option maxRecDepth 100000
set_option maxHeartbeats 4000000
namespace KW.P
open PySem L2 KW TL
def d15b (Φ : Fns) : EW := (sSeq (sSet 4 (dC (.str ("abcdefghijklmnopqrstuvwxyz" : Str))))
 (sSeq (sPar 5 6 (aCons (dCall (Φ 13) (aCons (dVar 0) (aCons (dC (.int 676)) (aNil)))) (aCons (dCall (Φ 14) (aCons (dVar 0) (aCons (dLst false (aCons (dC (.int 1)) (aCons (dC (.int 3)) (aCons (dC (.int 7)) (aCons (dC (.int 25)) (aCons (dC (.int 27)) (aCons (dC (.int 51)) (aCons (dC (.int 105)) (aNil))))))))) (aNil)))) (aNil))))
 (sSeq (sSet 7 (dBM "str" fJoin (dC (.str ("" : Str))) (aCons (dComp false (iRg1 (aCons (dCall (Φ 14) (aCons (dVar 0) (aCons (dLst false (aCons (dC (.int 0)) (aCons (dC (.int 0)) (aCons (dC (.int 1)) (aCons (dC (.int 2)) (aCons (dC (.int 4)) (aNil))))))) (aNil)))) (aNil))) (.nm 3) (bYes) (dCall (Φ 14) (aCons (dVar 0) (aCons (dVar 4) (aNil)))) [3]) (aNil))))
 (sSeq (sPar 8 9 (aCons (dCall (Φ 13) (aCons (dVar 0) (aCons (dOp (fAdd false) (dBi bLen (aCons (dVar 7) (aNil))) (dC (.int 1))) (aNil)))) (aCons (dLst true (aNil)) (aNil))))
 (sSeq (sFor (iRg1 (aCons (dVar 1) (aNil))) (.nm 3) (sSeq (sSet 10 (dOp (fMod) (dOp (fAdd false) (dVar 5) (dOp (fMul false) (dVar 6) (dVar 3))) (dC (.int 676))))
 (sSeq (sSet 11 (dOp (fAdd false) (dOp fIx (dVar 4) (dOp (fDiv) (dVar 10) (dC (.int 26)))) (dOp fIx (dVar 4) (dOp (fMod) (dVar 10) (dC (.int 26))))))
 (sSeq (sSet 12 (dOp (fAdd false) (dOp (fAdd false) (dSl false (dVar 7) (oNo) (oSome (dVar 8))) (dVar 11)) (dSl false (dVar 7) (oSome (dVar 8)) (oNo))))
 (sSeq (sExpr (dBM "list" fAppend (dVar 9) (aCons (dOp (fAdd false) (dVar 12) (dOp (fMul false) (dC (.str ("x" : Str))) (dBi bInt (aCons (dOp (fEq false) (dVar 12) (dC (.str ("main" : Str)))) (aNil))))) (aNil))))
 (sNil))))))
 (sSeq (sRet (dVar 9))
 (sNil)))))))
theorem ref_gc {h h' : WH} {r : Nat} (hr : h.length ≤ r) : gc h.length (.ref r) h h' = h' := by
  unfold gc
  rw [if_neg]
  simp [W.lt]; omega
theorem nodup_map {α β : Type} {f : α → β} : ∀ {l : List α}, l.Nodup → (∀ x ∈ l, ∀ y ∈ l, f x = f y → x = y) → (l.map f).Nodup
  | [], _, _ => List.nodup_nil
  | x :: l, h, hf => by
    rw [List.nodup_cons] at h
    rw [List.map_cons, List.nodup_cons]
    refine ⟨fun hm => ?_, nodup_map h.2 fun a ha b hb => hf a (List.mem_cons_of_mem _ ha) b (List.mem_cons_of_mem _ hb)⟩
    obtain ⟨y, hy, e⟩ := List.mem_map.mp hm
    exact h.1 (hf y (List.mem_cons_of_mem _ hy) x (List.mem_cons_self ..) e ▸ hy)
theorem words_ok {first by_ : Int} {l r : Str} {n : Nat} (hn : n ≤ 6) (hl : l.length + r.length ≤ 4) (h1 : Low (cl l)) (h2 : Low (cl r)) (hb : by_ ∈ [1, 3, 7, 25, 27, 51, 105]) :
    ((List.range n).map (word first by_ l r)).Nodup ∧ ∀ s ∈ (List.range n).map (word first by_ l r), Nm s := by
  refine ⟨nodup_map List.nodup_range fun i hi j hj e => ?_, fun s hs => ?_⟩
  · rw [List.mem_range] at hi hj
    have e1 := fix_inj (by rw [word_len, word_len]) e
    have e2 := word_inj ⟨Int.emod_nonneg _ (by decide), Int.emod_lt_of_pos _ (by decide)⟩ ⟨Int.emod_nonneg _ (by decide), Int.emod_lt_of_pos _ (by decide)⟩ e1
    simp only [List.mem_cons, List.not_mem_nil, or_false] at hb
    rcases hb with rfl | rfl | rfl | rfl | rfl | rfl | rfl <;> omega
  · obtain ⟨j, _, rfl⟩ := List.mem_map.mp hs
    have x0 := Int.emod_nonneg (first + by_ * (j : Int)) (show (676 : Int) ≠ 0 by decide)
    have x1 := Int.emod_lt_of_pos (first + by_ * (j : Int)) (show (0 : Int) < 676 by decide)
    refine fix_nm (by rw [word_len]; omega) (by rw [word_len]; omega) ?_
    rw [cl_app, cl_app, cl_pr]
    refine low_app (low_app h1 ?_) h2
    intro c hc
    simp only [List.mem_cons, List.not_mem_nil, or_false] at hc
    rcases hc with rfl | rfl
    · exact lt_low (by omega) (by omega)
    · exact lt_low (by omega) (by omega)
theorem chars_strs (cs : List Nat) : strsOf (cs.map fun c => W.str ⟨#[c]⟩) = some (cs.map fun c => (⟨#[c]⟩ : Str)) := by
  induction cs with
  | nil => rfl
  | cons c cs ih => simp [strsOf, ih]
theorem cl_chars (cs : List Nat) : cl (Txt.join Str.empty (cs.map fun c => (⟨#[c]⟩ : Str))) = cs := by
  rw [cl_join]
  induction cs with
  | nil => rfl
  | cons c cs ih => simp only [List.map_cons, List.flatten_cons, ih]; rfl
theorem sum_ones (cs : List Nat) : ((cs.map fun c => (⟨#[c]⟩ : Str)).map (·.length)).sum = cs.length := by
  induction cs with
  | nil => rfl
  | cons c cs ih => simp only [List.map_cons, List.sum_cons, ih, List.length_cons]; show 1 + _ = _; omega
theorem cut_parts (s : Str) {i : Int} (h0 : 0 ≤ i) : (cutS s none (some i)).length + (cutS s (some i) none).length ≤ s.length ∧ (Low (cl s) → Low (cl (cutS s none (some i))) ∧ Low (cl (cutS s (some i) none))) := by
  have e1 : cl (cutS s none (some i)) = (cl s).take (min i.toNat s.length) := by
    simp only [cl, cutS, HT.sIx, if_neg (show ¬ i < 0 by omega)]
    simp
  have e2 : cl (cutS s (some i) none) = (cl s).drop (min i.toNat s.length) := by
    simp only [cl, cutS, HT.sIx, if_neg (show ¬ i < 0 by omega)]
    rw [List.take_of_length_le (by rw [List.length_drop, Str.length]; simp)]
  refine ⟨?_, fun h => ⟨?_, ?_⟩⟩
  · rw [cl_len, cl_len, e1, e2, cl_len s]
    simp only [List.length_take, List.length_drop]; omega
  · rw [e1]; exact fun c hc => h c (List.mem_of_mem_take hc)
  · rw [e2]; exact fun c hc => h c (List.mem_of_mem_drop hc)
theorem names2 {k N : Nat} {h : WH} {r n : Nat} {a : Hd} (hr : r < h.length) (h0 : h[r]? = some (HO a)) (ha : a.Ok N) (hN : N < 800000) (hn : n ≤ 6) :
    ∃ (a' : Hd) (ss : List Str), d15b (prg (k + 2)) [some (.ref r), some (.int n), none, none, none, none, none, none, none, none, none, none, none] h = .ok (.ret (.ref h.length)) (h.set r (HO a') ++ [.lst (ss.map .str)]) ∧
      ss.length = n ∧ ss.Nodup ∧ (∀ s ∈ ss, Nm s) ∧ a'.Ok (N + 10) := by
  obtain ⟨first, a1, e1, f0, f1, ok1⟩ := take_ok (k := k + 1) (n := 676) h0 ha (by omega) (by decide) (by decide)
  have g1 : (h.set r (HO a1))[r]? = some (HO a1) := List.getElem?_set_self hr
  obtain ⟨wb, a2, e2, hb, ok2⟩ := of_lst (k := k) (ws := [.int 1, .int 3, .int 7, .int 25, .int 27, .int 51, .int 105]) g1 ok1 (by omega) (by simp) (by decide)
  obtain ⟨by_, rfl, hby⟩ : ∃ b : Int, wb = .int b ∧ b ∈ [1, 3, 7, 25, 27, 51, 105] := by
    simp only [List.mem_cons, List.not_mem_nil, or_false] at hb ⊢
    rcases hb with rfl | rfl | rfl | rfl | rfl | rfl | rfl <;> exact ⟨_, rfl, by decide⟩
  have hby2 : 0 ≤ by_ ∧ by_ ≤ 105 := by
    simp only [List.mem_cons, List.not_mem_nil, or_false] at hby
    omega
  rw [List.set_set] at e2
  have g2 : (h.set r (HO a2))[r]? = some (HO a2) := List.getElem?_set_self hr
  obtain ⟨wm, a3, e3, hm, ok3⟩ := of_lst (k := k) (ws := [.int 0, .int 0, .int 1, .int 2, .int 4]) g2 ok2 (by omega) (by simp) (by decide)
  obtain ⟨m, rfl, hm2⟩ : ∃ m : Nat, wm = .int (m : Int) ∧ m ≤ 4 := by
    simp only [List.mem_cons, List.not_mem_nil, or_false] at hm
    rcases hm with rfl | rfl | rfl | rfl | rfl
    · exact ⟨0, rfl, by decide⟩
    · exact ⟨0, rfl, by decide⟩
    · exact ⟨1, rfl, by decide⟩
    · exact ⟨2, rfl, by decide⟩
    · exact ⟨4, rfl, by decide⟩
  rw [List.set_set] at e3
  obtain ⟨a4, cs, e4, lc, low, ok4⟩ := stem_ok (k := k) (m := m) (sw := wipeW [some (.ref r), some (.int n), none, none, some (.str LET), some (.int first), some (.int by_), none, none, none, none, none, none] [3]) hr ok3 (by omega) hm2 rfl rfl
  generalize hst : Txt.join Str.empty (cs.map fun c => (⟨#[c]⟩ : Str)) = stem at *
  have cst : cl stem = cs := by rw [← hst]; exact cl_chars cs
  have sl : stem.length = m := by rw [cl_len, cst, lc]
  have jn : ∀ g : WH, fJoin (.str "") [.lst (cs.map fun c => .str ⟨#[c]⟩)] g = .ok (.str stem) g := fun g => by
    have q : (seqOf g (.lst (cs.map fun c => W.str ⟨#[c]⟩))).bind strsOf = some (cs.map fun c => (⟨#[c]⟩ : Str)) := chars_strs cs
    simp only [fJoin, q]
    rw [if_pos (by rw [sum_ones, lc]; show m + _ * 0 ≤ lim; unfold lim; omega)]
    exact congrArg (fun z => R.ok (W.str z) g) hst
  have g4 : (h.set r (HO a4))[r]? = some (HO a4) := List.getElem?_set_self hr
  obtain ⟨spot, a5, e5, s0, s1, ok5⟩ := take_ok (k := k + 1) (n := (m : Int) + 1) g4 ok4 (by omega) (by omega) (by omega)
  rw [List.set_set] at e5
  obtain ⟨sw', e6, e7⟩ := words_run (k := k) (h := h) (r := r) (n := n) (a := a5) (first := first) (by_ := by_) (spot := spot) (stem := stem) (x2 := none) (x3 := none) (x10 := none) (x11 := none) (x12 := none) hn (by omega) ⟨f0, f1⟩ hby2
  obtain ⟨p1, p2⟩ := cut_parts stem s0
  obtain ⟨p3, p4⟩ := p2 (by rw [cst]; exact low)
  obtain ⟨w1, w2⟩ := words_ok (first := first) (n := n) hn (by omega) p3 p4 hby
  refine ⟨a5, _, ?_, by simp, w1, w2, ok5.mono (by omega)⟩
  have ml : (-(lim : Int) ≤ (m : Int)) ∧ (m : Int) ≤ (lim : Int) := by
    have : (lim : Int) = 1000000 := rfl
    omega
  have nl : (-(lim : Int) ≤ (n : Int)) ∧ (n : Int) ≤ (lim : Int) := by
    have : (lim : Int) = 1000000 := rfl
    omega
  have bl : ∀ g : WH, bLen [.str stem] g = .ok (.int (m : Int)) g := fun g => by
    simp only [bLen, sl]; rw [if_pos (by unfold lim; omega)]
  have l7 : 7 ≤ lim := by decide
  have l5 : 5 ≤ lim := by decide
  have l0 : 0 ≤ lim := by decide
  have tj : ∀ g : WH, tyIs "str" g (.str "") = true := fun g => rfl
  have eL : ("abcdefghijklmnopqrstuvwxyz" : Str) = LET := rfl
  have hl5 : (h.set r (HO a5)).length = h.length := by simp
  simp [-List.map_map, d15b, e1, e2, e3, e4, e5, e6, e7, jn, ml, nl, bl, l7, l5, l0, tj, eL]
end KW.P

set_option linter.all false
set_option maxRecDepth 100000
set_option maxHeartbeats 4000000
namespace KW.P
open PySem L2 KW TL
theorem set_self {h : WH} {r : Nat} {x : Ob} (e : h[r]? = some x) : h = h.set r x := by
  refine List.ext_getElem? fun i => ?_
  by_cases z : r = i
  · subst z
    rw [e, List.getElem?_set_self (List.getElem?_eq_some_iff.mp e).1]
  · rw [List.getElem?_set_ne z]
def fin (h : WH) (x : RS) : R W := match x with
  | .ok (.ret w) h' => .ok w (gc h.length w h h')
  | .ok (.next _) h' => .ok .non (gc h.length .non h h')
  | .exc _ c fs vs h' => .exc c fs vs h'
  | _ => .no
theorem run_fin {sl np : Nat} {D : EW} {args : List W} {h : WH} (e : args.length = np) : runF sl np D args h = fin h (D (args.map some ++ List.replicate (sl - np) none) h) := by
  rw [runF, if_pos e]
  unfold fin
  cases D (args.map some ++ List.replicate (sl - np) none) h with
  | ok f h' => cases f <;> rfl
  | exc => rfl
  | no => rfl
@[simp] theorem fin_ret {h h' : WH} {w : W} : fin h (.ok (.ret w) h') = .ok w (gc h.length w h h') := rfl
@[simp] theorem fin_next {h h' : WH} {s : WS} : fin h (.ok (.next s) h') = .ok .non (gc h.length .non h h') := rfl
/-- names: of either kind -/
theorem names_ok {k N : Nat} {h : WH} {r n : Nat} {a : Hd} (hr : r < h.length) (h0 : h[r]? = some (HO a)) (ha : a.Ok N) (hN : N < 700000) (hn : n ≤ 6) :
    ∃ (w : W) (a' : Hd) (e : WH) (ss : List Str), prg (k + 3) 15 [.ref r, .int n] h = .ok w (h.set r (HO a') ++ e) ∧ lstOf (h.set r (HO a') ++ e) w = some (ss.map .str) ∧ ss.length = n ∧ ss.Nodup ∧ (∀ s ∈ ss, Nm s) ∧ a'.Ok (N + 20) := by
  have two : ∀ (a2 : Hd), a2.Ok (N + 1) → ∀ g : WH, g = h.set r (HO a2) → ∃ (w : W) (a' : Hd) (e : WH) (ss : List Str), fin h (d15b (prg (k + 2)) [some (.ref r), some (.int n), none, none, none, none, none, none, none, none, none, none, none] g) = .ok w (h.set r (HO a') ++ e) ∧ lstOf (h.set r (HO a') ++ e) w = some (ss.map .str) ∧ ss.length = n ∧ ss.Nodup ∧ (∀ s ∈ ss, Nm s) ∧ a'.Ok (N + 20) := by
    rintro a2 ok g rfl
    obtain ⟨a', ss, e, l1, l2, l3, l4⟩ := names2 (k := k) (h := h.set r (HO a2)) (r := r) (n := n) (by simpa using hr) (List.getElem?_set_self hr) ok (by omega) hn
    rw [List.length_set, List.set_set] at e
    refine ⟨.ref h.length, a', [.lst (ss.map .str)], ss, ?_, ?_, l1, l2, l3, l4.mono (by omega)⟩
    · rw [e]
      rw [fin_ret, ref_gc (Nat.le_refl _)]
    · simp only [lstOf, sa_end]
  rw [prg_s, run_fin (show [W.ref r, W.int (n : Int)].length = npT 15 from rfl)]
  have ed : d15 (prg (k + 2)) = sSeq _ (d15b (prg (k + 2))) := rfl
  by_cases h6 : n = 6
  · subst h6
    obtain ⟨w, a', e, ss, q1, q2⟩ := two a (ha.mono (by omega)) h (set_self h0)
    refine ⟨w, a', e, ss, ?_, q2⟩
    rw [← q1]
    simp [slT, npT, DD, ed]
  · obtain ⟨d, a1, e1, d0, d1, ok1⟩ := take_ok (k := k + 1) (n := 6) h0 ha (by omega) (by decide) (by decide)
    have hlt : (n : Int) < 6 := by omega
    by_cases hd : d = 0
    · subst hd
      obtain ⟨a', rem, ss, e2, l1, l2, l3, l4⟩ := names1 (k := k + 1) (n := n) (sw := wipeW [some (.ref r), some (.int n), some (.ref h.length), none, none, none, none, none, none, none, none, none, none] [3]) hr ok1 (by omega) hn rfl rfl (by simp [wipeW])
      refine ⟨.lst (ss.map .str), a', [], ss, ?_, by simp [lstOf], l1, l2, fun s hs => l12_nm s (l3 s hs), l4.mono (by omega)⟩
      have nl : (-(lim : Int) ≤ (n : Int)) ∧ (n : Int) ≤ (lim : Int) := by
        have : (lim : Int) = 1000000 := rfl
        omega
      have l12 : L12.length ≤ lim := by decide
      have el : [W.str "put", W.str "go", W.str "when", W.str "ask", W.str "tell", W.str "halt", W.str "size", W.str "cell", W.str "door", W.str "knock", W.str "answer", W.str "a"] = L12.map .str := rfl
      have gg : gc h.length (.lst (ss.map W.str)) h (h.set r (HO a') ++ [.lst (rem.map W.str)]) = h.set r (HO a') := gc_ho hr (by simp [W.lt, strs_lt])
      simp [-List.map_map, slT, npT, DD, d15, hlt, e1, fEq, scalW, nl, l12, el, e2, gg]
    · obtain ⟨w, a', e, ss, q1, q2⟩ := two a1 ok1 _ rfl
      refine ⟨w, a', e, ss, ?_, q2⟩
      rw [← q1]
      simp [slT, npT, DD, ed, hlt, e1, fEq, scalW, hd]
end KW.P

set_option linter.all false
set_option maxRecDepth 100000
set_option maxHeartbeats 4000000
namespace KW.P
open PySem L2 KW TL
structure Fc where
  size : Int
  doors : List Str
  far : List Str
structure Fc.Ok (f : Fc) : Prop where
  s : 1 ≤ f.size ∧ f.size ≤ 4
  dl : 1 ≤ f.doors.length ∧ f.doors.length ≤ 3
  dn : f.doors.Nodup
  dm : ∀ s ∈ f.doors, Nm s
  sl : f.far.length ≤ 3
  sn : f.far.Nodup
  sm : ∀ s ∈ f.far, Nm s
/-- the speech: what the law knows of a face -/
abbrev spW (f : Fc) : W := .tup [.int f.size, .tup (f.doors.map .str), .tup (f.far.map .str)]
def cutN (n : Nat) (lo hi : Option Int) (ss : List Str) : List Str := (ss.drop (HT.sIx n 0 lo)).take (HT.sIx n n hi - HT.sIx n 0 lo)
theorem cut_map {ss : List Str} {lo hi : Option Int} : cutW (ss.map .str) lo hi = (cutN ss.length lo hi ss).map .str := by simp [cutW, cutN]
theorem cut1 {ss : List Str} {m : Nat} (h : m ≤ ss.length) : cutN ss.length none (some (m : Int)) ss = ss.take m := by
  simp only [cutN, HT.sIx, if_neg (show ¬ (m : Int) < 0 by omega), Int.toNat_natCast, Nat.min_eq_left h]
  simp
theorem cut2 {ss : List Str} {m : Nat} (h : m ≤ ss.length) : cutN ss.length (some (m : Int)) none ss = ss.drop m := by
  simp only [cutN, HT.sIx, if_neg (show ¬ (m : Int) < 0 by omega), Int.toNat_natCast, Nat.min_eq_left h]
  exact List.take_of_length_le (by simp)
theorem cut3 {ss : List Str} {m : Nat} (h : m < ss.length) : cutN ss.length (some (m : Int)) (some (-1)) ss = (ss.drop m).take (ss.length - 1 - m) := by
  simp only [cutN, HT.sIx, if_neg (show ¬ (m : Int) < 0 by omega), if_pos (show (-1 : Int) < 0 by decide), Int.toNat_natCast, Nat.min_eq_left (Nat.le_of_lt h)]
  rw [show (-1 + (ss.length : Int)).toNat = ss.length - 1 from by omega]
theorem nodup_comm {α : Type} {a b : List α} (h : (a ++ b).Nodup) : (b ++ a).Nodup := (List.perm_append_comm).nodup_iff.mp h
theorem twin_nodup {ss : List Str} {m c : Nat} (hm : 1 ≤ m) (h : ss.Nodup) : ((ss.drop m).take c ++ ss.take 1).Nodup := by
  refine nodup_comm ?_
  have e : (ss.take 1 ++ (ss.drop m).take c).Sublist ss := by
    have h1 : (ss.take 1 ++ (ss.drop m).take c).Sublist (ss.take 1 ++ ss.drop 1) := by
      refine List.Sublist.append (List.Sublist.refl _) ((List.take_sublist _ _).trans ?_)
      obtain ⟨j, rfl⟩ : ∃ j, m = 1 + j := ⟨m - 1, by omega⟩
      rw [← List.drop_drop]
      exact List.drop_sublist _ _
    rwa [List.take_append_drop] at h1
  exact e.nodup h
theorem face_ok {k N : Nat} {h : WH} {r : Nat} {a : Hd} (hr : r < h.length) (h0 : h[r]? = some (HO a)) (ha : a.Ok N) (hN : N < 600000) :
    ∃ (f : Fc) (a' : Hd), prg (k + 4) 16 [.ref r, .int 4] h = .ok (spW f) (h.set r (HO a')) ∧ f.Ok ∧ a'.Ok (N + 40) := by
  obtain ⟨d, a1, e1, d0, d1, ok1⟩ := take_ok (k := k + 2) (n := 3) h0 ha (by omega) (by decide) (by decide)
  have g1 : (h.set r (HO a1))[r]? = some (HO a1) := List.getElem?_set_self hr
  obtain ⟨wo, a2, e2, ho, ok2⟩ := of_lst (k := k + 1) (ws := [.int 1, .int 2, .int 0, .int 3, .int 1, .int 2]) g1 ok1 (by omega) (by simp) (by decide)
  obtain ⟨o, rfl, ho3⟩ : ∃ o : Nat, wo = .int (o : Int) ∧ o ≤ 3 := by
    simp only [List.mem_cons, List.not_mem_nil, or_false] at ho
    rcases ho with rfl | rfl | rfl | rfl | rfl | rfl
    · exact ⟨1, rfl, by decide⟩
    · exact ⟨2, rfl, by decide⟩
    · exact ⟨0, rfl, by decide⟩
    · exact ⟨3, rfl, by decide⟩
    · exact ⟨1, rfl, by decide⟩
    · exact ⟨2, rfl, by decide⟩
  rw [List.set_set] at e2
  obtain ⟨m, hm, m1, m3⟩ : ∃ m : Nat, 1 + d = (m : Int) ∧ 1 ≤ m ∧ m ≤ 3 := ⟨(1 + d).toNat, by omega, by omega, by omega⟩
  obtain ⟨w, a3, e, ss, e3, ls, l1, l2, l3, ok3⟩ := names_ok (k := k) (h := h.set r (HO a2)) (r := r) (n := m + o) (by simpa using hr) (List.getElem?_set_self hr) ok2 (by omega) (by omega)
  rw [List.set_set] at e3 ls
  have cast : ((m + o : Nat) : Int) = (m : Int) + (o : Int) := by omega
  rw [cast] at e3
  have tk : ∀ (a4 : Hd), a4.Ok (N + 30) → ∃ d2 a5, prg (k + 3) 13 [.ref r, .int 4] (h.set r (HO a4) ++ e) = .ok (.int d2) (h.set r (HO a5) ++ e) ∧ 0 ≤ d2 ∧ d2 < 4 ∧ a5.Ok (N + 31) := fun a4 ok => by
    obtain ⟨d2, a5, q1, q2, q3, q4⟩ := take_ok (k := k + 2) (n := 4) (sa_get (x := HO a4) (e := e) hr) ok (by omega) (by decide) (by decide)
    rw [sa_set hr] at q1
    exact ⟨d2, a5, q1, q2, q3, q4⟩
  -- the words stand, whatever the hand does
  have lw : ∀ a4 : Hd, lstOf (h.set r (HO a4) ++ e) w = some (ss.map .str) := fun a4 => by
    cases w <;> simp only [lstOf, reduceCtorEq] at ls ⊢
    · exact ls
    · rename_i q
      by_cases z : r = q
      · subst z
        rw [sa_get hr] at ls
        simp only [HO, Option.some.injEq] at ls
        cases ss with
        | nil => cases ls
        | cons s ss => simp at ls
      · have y : (h.set r (HO a4) ++ e)[q]? = (h.set r (HO a3) ++ e)[q]? := by
          by_cases u : q < h.length
          · rw [List.getElem?_append_left (by simpa using u), List.getElem?_append_left (by simpa using u), List.getElem?_set_ne z, List.getElem?_set_ne z]
          · rw [List.getElem?_append_right (by simpa using u), List.getElem?_append_right (by simpa using u)]; simp
        rw [y]; exact ls
  have sl : ∀ (a4 : Hd) (lo hi : Option Int), fSl false w lo hi (h.set r (HO a4) ++ e) = .ok (.lst ((cutN ss.length lo hi ss).map .str)) (h.set r (HO a4) ++ e) := fun a4 lo hi => by
    have q := lw a4
    rw [← cut_map]
    cases w <;> simp only [lstOf, reduceCtorEq] at q
    · cases q; simp [fSl, lstOf]
    · simp only [fSl, lstOf, q, x_newF]
  have c1 := cut1 (ss := ss) (m := m) (by omega)
  have c2 := cut2 (ss := ss) (m := m) (by omega)
  have c4 : cutN ss.length none (some 1) ss = ss.take 1 := cut1 (m := 1) (by omega)
  have fin' : ∀ (a5 : Hd) (d2 : Int) (st : List Str), gc h.length (.tup [.int (1 + d2), .tup ((ss.take m).map .str), .tup (st.map .str)]) h (h.set r (HO a5) ++ e) = h.set r (HO a5) := fun a5 d2 st => gc_ho hr (by simp only [W.lt, W.lts, strs_lt, Bool.and_self])
  have l3' : 3 ≤ lim := by decide
  have l6' : 6 ≤ lim := by decide
  rw [prg_s, run_fin (show [W.ref r, W.int 4].length = npT 16 from rfl)]
  by_cases hz : o = 0
  · subst hz
    obtain ⟨d2, a5, e5, p0, p1, ok5⟩ := tk a3 (ok3.mono (by omega))
    refine ⟨⟨1 + d2, ss.take m, ss.drop m⟩, a5, ?_, ⟨⟨by show 1 ≤ 1 + d2; omega, by show 1 + d2 ≤ 4; omega⟩, ?_, ?_, ?_, ?_, ?_, ?_⟩, ok5.mono (by omega)⟩
    · simp only [Int.natCast_zero, Int.add_zero] at e3 e2
      simp [-List.map_take, -List.map_drop, slT, npT, DD, d16, l6', e1, e2, hm, e3, e5, sl, c1, c2, bTup, truW, l3', fin', lstOf]
    · simp only [List.length_take]; omega
    · exact (List.take_sublist _ _).nodup l2
    · exact fun s hs => l3 s (List.mem_of_mem_take hs)
    · simp only [List.length_drop]; omega
    · exact (List.drop_sublist _ _).nodup l2
    · exact fun s hs => l3 s (List.mem_of_mem_drop hs)
  · have ho1 : 0 < o := by omega
    obtain ⟨d5, a4, e4, _, _, ok4⟩ := take_ok (k := k + 2) (n := 5) (sa_get (x := HO a3) (e := e) hr) (ok3.mono (show N + 1 + 1 + 20 ≤ N + 29 by omega)) (by omega) (by decide) (by decide)
    rw [sa_set hr] at e4
    obtain ⟨d2, a5, e5, p0, p1, ok5⟩ := tk a4 (ok4.mono (by omega))
    have c3 := cut3 (ss := ss) (m := m) (by omega)
    by_cases hd : d5 = 0
    · subst hd
      refine ⟨⟨1 + d2, ss.take m, (ss.drop m).take (ss.length - 1 - m) ++ ss.take 1⟩, a5, ?_, ⟨⟨by show 1 ≤ 1 + d2; omega, by show 1 + d2 ≤ 4; omega⟩, ?_, ?_, ?_, ?_, ?_, ?_⟩, ok5.mono (by omega)⟩
      · have ad : ∀ g : WH, fAdd false (.lst (((ss.drop m).take (ss.length - 1 - m)).map .str)) (.lst ((ss.take 1).map .str)) g = .ok (.lst (((ss.drop m).take (ss.length - 1 - m) ++ ss.take 1).map .str)) g := fun g => by
          simp only [fAdd, lstOf]
          rw [if_pos (by simp only [List.length_map, List.length_take, List.length_drop]; unfold lim; omega), List.map_append]
          rfl
        simp [-List.map_take, -List.map_drop, -List.map_append, slT, npT, DD, d16, l6', e1, e2, hm, e3, e4, e5, sl, c1, c3, c4, ad, bTup, truW, l3', fin', lstOf, ho1, fEq, scalW]
      · simp only [List.length_take]; omega
      · exact (List.take_sublist _ _).nodup l2
      · exact fun s hs => l3 s (List.mem_of_mem_take hs)
      · simp only [List.length_append, List.length_take, List.length_drop]; omega
      · exact twin_nodup m1 l2
      · intro s hs
        rcases List.mem_append.mp hs with q | q
        · exact l3 s (List.mem_of_mem_drop (List.mem_of_mem_take q))
        · exact l3 s (List.mem_of_mem_take q)
    · refine ⟨⟨1 + d2, ss.take m, ss.drop m⟩, a5, ?_, ⟨⟨by show 1 ≤ 1 + d2; omega, by show 1 + d2 ≤ 4; omega⟩, ?_, ?_, ?_, ?_, ?_, ?_⟩, ok5.mono (by omega)⟩
      · simp [-List.map_take, -List.map_drop, slT, npT, DD, d16, l6', e1, e2, hm, e3, e4, e5, sl, c1, c2, bTup, truW, l3', fin', lstOf, ho1, fEq, scalW, hd]
      · simp only [List.length_take]; omega
      · exact (List.take_sublist _ _).nodup l2
      · exact fun s hs => l3 s (List.mem_of_mem_take hs)
      · simp only [List.length_drop]; omega
      · exact (List.drop_sublist _ _).nodup l2
      · exact fun s hs => l3 s (List.mem_of_mem_drop hs)
end KW.P

set_option linter.all false
set_option maxRecDepth 100000
set_option maxHeartbeats 4000000
namespace KW.P
open PySem L2 KW TL
theorem kii : kitB "int" "int" = some true := by decide +kernel
theorem kib : kitB "int" "bool" = some false := by decide +kernel
theorem kss : kitB "str" "str" = some true := by decide +kernel
theorem ktt : kitB "tuple" "tuple" = some true := by decide +kernel
theorem f7 {k : Nat} {h : WH} {s lo hi : Int} (h1 : lo ≤ s) (h2 : s ≤ hi) : prg (k + 1) 7 [.int s, .int lo, .int hi] h = .ok (.bl true) h := by
  rw [prg_s, run_fin (show [W.int s, W.int lo, W.int hi].length = npT 7 from rfl)]
  simp [slT, npT, DD, d7, tyW, kii, kib, truW, h1, h2]
theorem in_let {c : Nat} (h0 : 97 ≤ c ∧ c ≤ 122) : subStr ⟨#[c]⟩ LET = true := by
  have d : ∀ c, c < 123 → 97 ≤ c → subStr ⟨#[c]⟩ LET = true := by decide +kernel
  exact d c (by omega) h0.1
theorem bls_rep {n : Nat} : blsOf (List.replicate n (.bl true)) = some (List.replicate n true) := by
  induction n with
  | zero => rfl
  | succ n ih => simp [List.replicate_succ, blsOf, ih]
theorem f8 {k : Nat} {h : WH} {s : Str} (hs : Nm s) : prg (k + 1) 8 [.str s] h = .ok (.bl true) h := by
  obtain ⟨h1, h2, h3, _⟩ := hs
  rw [prg_s, run_fin (show [W.str s].length = npT 8 from rfl)]
  have l : s.length ≤ lim := by unfold lim; omega
  have i1 : (1 : Int) ≤ (s.length : Int) := by omega
  have i2 : (s.length : Int) ≤ 6 := by omega
  have eL : ("abcdefghijklmnopqrstuvwxyz" : Str) = LET := rfl
  have c := compL_map (ws0 := signs s) (t := tgW (.nm 1)) (elt := dOp (fIn false) (dVar 1) (dC (.str LET))) (sw := wipeW [some (.str s), none] [1]) (h := h) (fun _ => .bl true) (signs s) [] (fun w hw => by
    obtain ⟨c, hc, rfl⟩ := List.mem_map.mp hw
    refine ⟨_, rfl, ?_⟩
    have q := in_let (h3 c hc)
    simp [wipeW, fIn, q]) (by simp [signs]; rw [cl_len] at l; simpa using l)
  rw [List.nil_append, List.map_const'] at c
  simp [slT, npT, DD, d8, tyW, kss, truW, l, i1, i2, bLen, eL, c, bAll, lstOf, bls_rep]
theorem unlike_nodup {xs : List Str} (h : xs.Nodup) : (unlike xs).length = xs.length := by
  have q : ∀ (xs acc : List Str), (acc ++ xs).Nodup → xs.foldl (fun acc x => if x ∈ acc then acc else acc ++ [x]) acc = acc ++ xs := by
    intro xs
    induction xs with
    | nil => intro acc _; simp
    | cons x xs ih =>
      intro acc hn
      have hx : x ∉ acc := fun hm => (List.nodup_append.mp hn).2.2 x hm x (List.mem_cons_self ..) rfl
      rw [List.foldl_cons, if_neg hx, ih _ (by simpa using hn)]
      simp
  rw [unlike, q xs [] (by simpa using h)]; rfl
theorem f9 {k : Nat} {h : WH} {ss : List Str} (hn : ss.Nodup) (hl : ss.length < 100) : prg (k + 1) 9 [.tup (ss.map .str)] h = .ok (.bl true) h := by
  rw [prg_s, run_fin (show [W.tup (ss.map W.str)].length = npT 9 from rfl)]
  have l2 : ss.length < 4000 := by omega
  have q : ∀ (sw : WS) (g : WH), sw[0]? = some (some (.tup (ss.map .str))) → dLenSet (dVar 0) sw g = .ok (.int ss.length) g := fun sw g e => by
    simp [dLenSet, e, strsOf_map, l2, unlike_nodup hn]
  simp [slT, npT, DD, d9, q, bLen, seqOf, fEq, scalW]
theorem f10 {k : Nat} {h : WH} {ss : List Str} {lo hi : Int} (hn : ss.Nodup) (hl : ss.length < 100) (hm : ∀ s ∈ ss, Nm s) (h1 : lo ≤ ss.length) (h2 : ss.length ≤ hi) : prg (k + 2) 10 [.tup (ss.map .str), .int lo, .int hi] h = .ok (.bl true) h := by
  rw [prg_s, run_fin (show [W.tup (ss.map W.str), W.int lo, W.int hi].length = npT 10 from rfl)]
  have c := compL_map (ws0 := ss.map .str) (t := tgW (.nm 3)) (elt := dCall (prg (k + 1) 8) (aCons (dVar 3) aNil)) (sw := wipeW [some (.tup (ss.map .str)), some (.int lo), some (.int hi), none] [3]) (h := h) (fun _ => .bl true) (ss.map .str) [] (fun w hw => by
    obtain ⟨s, hs, rfl⟩ := List.mem_map.mp hw
    refine ⟨_, rfl, ?_⟩
    simp [wipeW, f8 (k := k) (hm s hs)]) (by simp; unfold lim; omega)
  rw [List.nil_append, List.map_const', List.length_map] at c
  simp [-List.map_map, slT, npT, DD, d10, tyW, ktt, truW, h1, h2, bLen, seqOf, c, bAll, lstOf, bls_rep, f9 (k := k) hn hl]
end KW.P

set_option linter.all false
set_option maxRecDepth 100000
set_option maxHeartbeats 4000000
namespace KW.P
open PySem L2 KW TL
abbrev faceW (f : Fc) : W := .ins 0 [0, 1, 2] [.int f.size, .tup (f.doors.map .str), .tup (f.far.map .str)]
theorem faceW_lt {f : Fc} {n : Nat} : (faceW f).lt n = true := by simp only [W.lt, W.lts, strs_lt, Bool.and_self]
theorem eqFW_str {a b : Str} : eqFW (.str a) (.str b) = decide (a = b) := rfl
theorem in_strs {s : Str} {ss : List Str} : inFW (.str s) (ss.map .str) = decide (s ∈ ss) := by
  induction ss with
  | nil => rfl
  | cons x ss ih =>
    simp only [inFW, List.map_cons, List.any_cons] at ih ⊢
    rw [ih, eqFW_str]
    by_cases e : x = s
    · simp [e]
    · simp [e, Ne.symm (show x ≠ s from e)]
theorem flat_strs {ss : List Str} : (ss.map W.str).all flatW = true := by
  induction ss with
  | nil => rfl
  | cons x ss ih => simp only [List.map_cons, List.all_cons, ih, flatW, Bool.and_self]
theorem fin_strs {s : Str} {ss : List Str} {g : WH} : fIn false (.str s) (.tup (ss.map .str)) g = .ok (.bl (decide (s ∈ ss))) g := by
  simp only [fIn, seqOf, flat_strs, flatW, in_strs, and_self, if_true, Bool.bne_false]
theorem fnot_strs {s : Str} {ss : List Str} {g : WH} : fIn true (.str s) (.tup (ss.map .str)) g = .ok (.bl (!decide (s ∈ ss))) g := by
  simp only [fIn, seqOf, flat_strs, flatW, in_strs, and_self, if_true, Bool.bne_true]
theorem f11 {k : Nat} {h : WH} {f : Fc} (ok : f.Ok) : prg (k + 3) 11 [.ref h.length, .int f.size, .tup (f.doors.map .str), .tup (f.far.map .str)] (h ++ [.ins 0 [] []]) = .ok .non (h ++ [.ins 0 [0, 1, 2] [.int f.size, .tup (f.doors.map .str), .tup (f.far.map .str)]]) := by
  rw [prg_s, run_fin (show [W.ref h.length, W.int f.size, W.tup (f.doors.map W.str), W.tup (f.far.map W.str)].length = npT 11 from rfl)]
  have nm : ("main" : Str) ∉ f.far := fun hm => (ok.sm _ hm).2.2.2 rfl
  have d1 := f10 (k := k) (h := h ++ [.ins 0 [] []]) (ss := f.doors) (lo := 1) (hi := 5) ok.dn (by have := ok.dl; omega) ok.dm (by have := ok.dl; omega) (by have := ok.dl; omega)
  have d2 := f10 (k := k) (h := h ++ [.ins 0 [] []]) (ss := f.far) (lo := 0) (hi := 4) ok.sn (by have := ok.sl; omega) ok.sm (by omega) (by have := ok.sl; omega)
  have d3 := f7 (k := k + 1) (h := h ++ [.ins 0 [] []]) (lo := 1) (hi := 4) ok.s.1 ok.s.2
  have s1 : ∀ (fs : List Nat) (vs : List W) (x : W) (j : Nat), layT 0 j = true → fs.length < 900 → fStF layT (.ref h.length) j x (h ++ [.ins 0 fs vs]) = some (h ++ [.ins 0 (putFs j fs) (putVs j x fs vs)]) := fun fs vs x j hj hl => by
    have g : (h ++ [Ob.ins 0 fs vs])[h.length]? = some (.ins 0 fs vs) := by simp
    simp only [fStF, g, hj, hl, and_self, if_true]
    simp
  have e1 := s1 [] [] (.int f.size) 0 rfl (by decide)
  have e2 := s1 [0] [.int f.size] (.tup (f.doors.map .str)) 1 rfl (by decide)
  have e3 := s1 [0, 1] [.int f.size, .tup (f.doors.map .str)] (.tup (f.far.map .str)) 2 rfl (by decide)
  simp only [putFs, putVs] at e1 e2 e3
  have gg : gc (h ++ [Ob.ins 0 [] []]).length .non (h ++ [.ins 0 [] []]) (h ++ [.ins 0 [0, 1, 2] [.int f.size, .tup (f.doors.map .str), .tup (f.far.map .str)]]) = h ++ [.ins 0 [0, 1, 2] [.int f.size, .tup (f.doors.map .str), .tup (f.far.map .str)]] := gc_len (by simp)
  simp [-List.length_append, slT, npT, DD, d11, d1, d2, d3, truW, fin_strs, nm, e1, e2, e3, gg]
theorem mk_face {k : Nat} {h : WH} {f : Fc} (ok : f.Ok) : mkT iniT valT (prg (k + 3)) 0 [.int f.size, .tup (f.doors.map .str), .tup (f.far.map .str)] h = .ok (faceW f) h := by
  have g : (h ++ [Ob.ins 0 [0, 1, 2] [.int f.size, .tup (f.doors.map .str), .tup (f.far.map .str)]])[h.length]? = some (.ins 0 [0, 1, 2] [.int f.size, .tup (f.doors.map .str), .tup (f.far.map .str)]) := by simp
  have gg : gc h.length (faceW f) h (h ++ [.dead]) = h := gc_drop rfl faceW_lt fun i _ => .inl rfl
  have i0 : iniT 0 = some 11 := rfl
  have v0 : valT 0 = true := rfl
  simp only [mkT, i0, f11 ok, x_bind, v0, if_true, g]
  simp only [List.set_append_right _ _ (Nat.le_refl h.length), Nat.sub_self, List.set_cons_zero]
  rw [gg]
/-! ### letters -/
inductive Lt where
  | knock (d : Str) (n : Int) | ask (s : Str) (n : Int) | answer (n : Int) | tell (n : Int)
def Lt.kind : Lt → Str | .knock .. => "knock" | .ask .. => "ask" | .answer _ => "answer" | .tell _ => "tell"
def Lt.num : Lt → Int | .knock _ n => n | .ask _ n => n | .answer n => n | .tell n => n
def Lt.w : Lt → W
  | .knock d n => .tup [.str "knock", .str d, .int n]
  | .ask s n => .tup [.str "ask", .str s, .int n]
  | .answer n => .tup [.str "answer", .int n]
  | .tell n => .tup [.str "tell", .int n]
def Lt.pops : Lt → Bool | .answer _ => true | .tell _ => true | _ => false
def Lt.move : Lt → Bool | .knock .. => true | .answer _ => true | _ => false
/-- a letter of the face -/
def Lt.Ok (f : Fc) (l : Lt) : Prop := 0 ≤ l.num ∧ l.num < f.size ∧ match l with | .knock d _ => d ∈ f.doors | .ask s _ => s ∈ f.far | _ => True
theorem f0 {k : Nat} {h : WH} {f : Fc} {n : Int} (h0 : 0 ≤ n) (h1 : n < f.size) : prg (k + 1) 0 [faceW f, .int n] h = .ok (.bl true) h := by
  rw [prg_s, run_fin (show [faceW f, W.int n].length = npT 0 from rfl)]
  simp [slT, npT, DD, d0, tyW, kii, kib, truW, h0, h1, insOf, lookF]
theorem f1 {k : Nat} {h : WH} {s : Str} {ss : List Str} : prg (k + 1) 1 [.str s, .tup (ss.map .str)] h = .ok (.bl (decide (s ∈ ss))) h := by
  rw [prg_s, run_fin (show [W.str s, W.tup (ss.map W.str)].length = npT 1 from rfl)]
  simp [-List.map_map, slT, npT, DD, d1, tyW, kss, truW, fin_strs]
theorem last2 {x y : W} : atI [x, y] (-1) = some y := atI_last [x] y
theorem last3 {x y z : W} : atI [x, y, z] (-1) = some z := atI_last [x, y] z
theorem beqB {a x : Int} : (a == x) = decide (x = a) := by
  by_cases z : x = a
  · subst z; simp
  · rw [decide_eq_false z]; exact beq_eq_false_iff_ne.mpr fun e => z e.symm
theorem f2 {k : Nat} {h : WH} {f : Fc} {l : Lt} (hl : l.Ok f) : prg (k + 2) 2 [faceW f, l.w] h = .ok (.str l.kind) h := by
  obtain ⟨n0, n1, hv⟩ := hl
  have f1' : ∀ (s : Str) (ss : List Str) (g : WH), prg (k + 1) 1 [.str s, .tup (ss.map .str)] g = .ok (.bl (decide (s ∈ ss))) g := fun _ _ _ => f1
  have two : ∀ (s a b : Str) (g : WH), prg (k + 1) 1 [.str s, .tup [.str a, .str b]] g = .ok (.bl (decide (s = a ∨ s = b))) g := fun s a b g => by
    have := f1' s [a, b] g
    simpa using this
  have one : ∀ (s a : Str) (g : WH), prg (k + 1) 1 [.str s, .tup [.str a]] g = .ok (.bl (decide (s = a))) g := fun s a g => by
    have := f1' s [a] g
    simpa using this
  have f0' := fun g => f0 (k := k) (h := g) n0 n1
  have e23 : ∀ (x : Int) (g : WH), fIn true (.int x) (.tup [.int 2, .int 3]) g = .ok (.bl (!(decide (x = 2) || decide (x = 3)))) g := fun x g => by
    have a : ((2 : Int) == x) = decide (x = 2) := beqB
    have b : ((3 : Int) == x) = decide (x = 3) := beqB
    simp [fIn, seqOf, flatW, inFW, eqFW, a, b]
  have c1 : ("knock" : Str) ≠ "ask" := by decide +kernel
  have c2 : ("ask" : Str) ≠ "knock" := by decide +kernel
  have c3 : ("tell" : Str) ≠ "answer" := by decide +kernel
  have l2 : 2 ≤ lim := by decide
  have l1 : 1 ≤ lim := by decide
  have l3 : 3 ≤ lim := by decide
  rw [prg_s, run_fin (show [faceW f, l.w].length = npT 2 from rfl)]
  cases l <;> simp only [Lt.num] at f0' <;> simp only at hv
  · simp [slT, npT, DD, d2, Lt.w, Lt.kind, tyW, ktt, truW, bLen, seqOf, e23, last3, f0', fEq, scalW, one, two, f1', hv, l1, l2, l3, insOf, lookF, -List.mem_map]
  · simp [slT, npT, DD, d2, Lt.w, Lt.kind, tyW, ktt, truW, bLen, seqOf, e23, last3, f0', fEq, scalW, one, two, f1', hv, l1, l2, l3, insOf, lookF, c1, c2, -List.mem_map]
  · simp [slT, npT, DD, d2, Lt.w, Lt.kind, tyW, ktt, truW, bLen, seqOf, e23, last2, f0', fEq, scalW, one, two, f1', l1, l2, l3]
  · simp [slT, npT, DD, d2, Lt.w, Lt.kind, tyW, ktt, truW, bLen, seqOf, e23, last2, f0', fEq, scalW, one, two, f1', l1, l2, l3, c3]
end KW.P

set_option linter.all false
set_option maxRecDepth 100000
set_option maxHeartbeats 4000000
namespace KW.P
open PySem L2 KW TL
/-! ### letters as data -/
def Lt.d : Lt → PyData
  | .knock d n => .tuple [.str "knock", .str d, .int n]
  | .ask s n => .tuple [.str "ask", .str s, .int n]
  | .answer n => .tuple [.str "answer", .int n]
  | .tell n => .tuple [.str "tell", .int n]
theorem dat_l (l : Lt) : l.w.dat = some l.d := by cases l <;> rfl
theorem dats_l (ls : List Lt) : W.dats (ls.map Lt.w) = some (ls.map Lt.d) := by
  induction ls with
  | nil => rfl
  | cons l ls ih => simp only [List.map_cons, W.dats, dat_l, ih]
theorem ok_low {s : Str} (h : Low (cl s)) (hl : s.length ≤ 6) : PyData.strOk s = true := by
  unfold PyData.strOk
  rw [Array.all_eq_true']
  intro c hc
  have := h c (by simpa using hc)
  exact decide_eq_true (by omega)
theorem lay_l {f : Fc} (fo : f.Ok) {l : Lt} (h : l.Ok f) : l.d.canLay0 = true ∧ l.d.depth ≤ 1 := by
  obtain ⟨_, _, hv⟩ := h
  have a1 : PyData.strOk ("knock" : Str) = true := by decide +kernel
  have a2 : PyData.strOk ("ask" : Str) = true := by decide +kernel
  have a3 : PyData.strOk ("answer" : Str) = true := by decide +kernel
  have a4 : PyData.strOk ("tell" : Str) = true := by decide +kernel
  cases l with
  | knock d n =>
    have q := fo.dm d hv
    have := ok_low q.2.2.1 q.2.1
    simp [Lt.d, PyData.canLay0, PyData.canLayAll0, PyData.depth, PyData.depthAll, this, a1]
  | ask d n =>
    have q := fo.sm d hv
    have := ok_low q.2.2.1 q.2.1
    simp [Lt.d, PyData.canLay0, PyData.canLayAll0, PyData.depth, PyData.depthAll, this, a2]
  | answer n => simp [Lt.d, PyData.canLay0, PyData.canLayAll0, PyData.depth, PyData.depthAll, a3]
  | tell n => simp [Lt.d, PyData.canLay0, PyData.canLayAll0, PyData.depth, PyData.depthAll, a4]
theorem lay_ls {f : Fc} (fo : f.Ok) : ∀ {ls : List Lt}, (∀ l ∈ ls, l.Ok f) → PyData.canLayAll0 (ls.map Lt.d) = true ∧ PyData.depthAll (ls.map Lt.d) ≤ 1
  | [], _ => by simp [PyData.canLayAll0, PyData.depthAll]
  | l :: ls, h => by
    obtain ⟨a, b⟩ := lay_l fo (h l (List.mem_cons_self ..))
    obtain ⟨c, d⟩ := lay_ls fo fun x hx => h x (List.mem_cons_of_mem _ hx)
    simp only [List.map_cons, PyData.canLayAll0, PyData.depthAll, a, c, Bool.and_self, true_and]
    omega
instance : DecidableEq Lt := fun a b => match a, b with
  | .knock d n, .knock d' n' => if h : d = d' ∧ n = n' then isTrue (by rw [h.1, h.2]) else isFalse (fun e => h (by cases e; exact ⟨rfl, rfl⟩))
  | .ask d n, .ask d' n' => if h : d = d' ∧ n = n' then isTrue (by rw [h.1, h.2]) else isFalse (fun e => h (by cases e; exact ⟨rfl, rfl⟩))
  | .answer n, .answer n' => if h : n = n' then isTrue (by rw [h]) else isFalse (fun e => h (by cases e; rfl))
  | .tell n, .tell n' => if h : n = n' then isTrue (by rw [h]) else isFalse (fun e => h (by cases e; rfl))
  | .knock .., .ask .. => isFalse (fun e => by cases e)
  | .knock .., .answer _ => isFalse (fun e => by cases e)
  | .knock .., .tell _ => isFalse (fun e => by cases e)
  | .ask .., .knock .. => isFalse (fun e => by cases e)
  | .ask .., .answer _ => isFalse (fun e => by cases e)
  | .ask .., .tell _ => isFalse (fun e => by cases e)
  | .answer _, .knock .. => isFalse (fun e => by cases e)
  | .answer _, .ask .. => isFalse (fun e => by cases e)
  | .answer _, .tell _ => isFalse (fun e => by cases e)
  | .tell _, .knock .. => isFalse (fun e => by cases e)
  | .tell _, .ask .. => isFalse (fun e => by cases e)
  | .tell _, .answer _ => isFalse (fun e => by cases e)
theorem eqv_l (a b : Lt) : PyData.eqv a.d b.d = decide (a = b) := by
  have c1 : (("knock" : Str) == "ask") = false := by decide +kernel
  have c2 : (("ask" : Str) == "knock") = false := by decide +kernel
  have c3 : (("tell" : Str) == "answer") = false := by decide +kernel
  have c4 : (("answer" : Str) == "tell") = false := by decide +kernel
  cases a <;> cases b <;> first | (simp [Lt.d, PyData.eqv, PyData.eqvAll, c1, c2, c3, c4]; done) | (simp only [Lt.d, PyData.eqv, PyData.eqvAll]; rw [Bool.eq_iff_iff]; simp)
theorem eqv_ls : ∀ (xs ys : List Lt), PyData.eqvAll (xs.map Lt.d) (ys.map Lt.d) = decide (xs = ys)
  | [], [] => rfl
  | [], _ :: _ => rfl
  | _ :: _, [] => rfl
  | x :: xs, y :: ys => by
    simp only [List.map_cons, PyData.eqvAll, eqv_l, eqv_ls xs ys]
    rw [Bool.eq_iff_iff]; simp
theorem eq_talk {f : Fc} (fo : f.Ok) {xs ys : List Lt} {neg : Bool} {g : WH} (hx : ∀ l ∈ xs, l.Ok f) (hy : ∀ l ∈ ys, l.Ok f) : fEq neg (.tup (xs.map Lt.w)) (.tup (ys.map Lt.w)) g = .ok (.bl (decide (xs = ys) != neg)) g := by
  obtain ⟨a, b⟩ := lay_ls fo hx
  obtain ⟨c, d⟩ := lay_ls fo hy
  have s1 : SeqAt.shaped (.tuple (xs.map Lt.d)) = true := by simp [SeqAt.shaped, PyData.canLay0, PyData.depth, a]; omega
  have s2 : SeqAt.shaped (.tuple (ys.map Lt.d)) = true := by simp [SeqAt.shaped, PyData.canLay0, PyData.depth, c]; omega
  have e1 : datH g (.tup (xs.map Lt.w)) = some (.tuple (xs.map Lt.d)) := by simp [-List.map_map, datH, lstOf, W.dat, dats_l]
  have e2 : datH g (.tup (ys.map Lt.w)) = some (.tuple (ys.map Lt.d)) := by simp [-List.map_map, datH, lstOf, W.dat, dats_l]
  simp only [fEq, scalW, e1, e2, s1, s2, and_self, if_true, PyData.eqv, eqv_ls]
/-! the open ones, as they are kept -/
abbrev pairW (l : Lt) : W := .tup [.str l.kind, l.w]
def Lt.pd (l : Lt) : PyData := .tuple [.str l.kind, l.d]
theorem dats_p (ls : List Lt) : W.dats (ls.map pairW) = some (ls.map Lt.pd) := by
  induction ls with
  | nil => rfl
  | cons l ls ih => simp [-List.map_map, W.dats, W.dat, dat_l, ih, Lt.pd]
theorem lay_ps {f : Fc} (fo : f.Ok) : ∀ {ls : List Lt}, (∀ l ∈ ls, l.Ok f) → PyData.canLayAll0 (ls.map Lt.pd) = true ∧ PyData.depthAll (ls.map Lt.pd) ≤ 2
  | [], _ => by simp [PyData.canLayAll0, PyData.depthAll]
  | l :: ls, h => by
    obtain ⟨a, b⟩ := lay_l fo (h l (List.mem_cons_self ..))
    obtain ⟨c, d⟩ := lay_ps fo fun x hx => h x (List.mem_cons_of_mem _ hx)
    have k : PyData.strOk l.kind = true := by cases l <;> (simp only [Lt.kind]; decide +kernel)
    simp only [List.map_cons, PyData.canLayAll0, PyData.depthAll, Lt.pd, PyData.canLay0, PyData.depth, k, a, c, Bool.and_self, true_and]
    omega
theorem eq_open {f : Fc} (fo : f.Ok) {h : WH} {r : Nat} {a : List Lt} (e : h[r]? = some (.lst (a.map pairW))) (ha : ∀ l ∈ a, l.Ok f) : fEq false (.ref r) (.lst []) h = .ok (.bl a.isEmpty) h := by
  obtain ⟨c, d⟩ := lay_ps fo ha
  have s1 : SeqAt.shaped (.list (a.map Lt.pd)) = true := by simp [SeqAt.shaped, PyData.canLay0, PyData.depth, c]; omega
  have s2 : SeqAt.shaped (.list []) = true := by decide +kernel
  have e1 : datH h (.ref r) = some (.list (a.map Lt.pd)) := by simp [-List.map_map, datH, lstOf, e, dats_p]
  have e2 : datH h (.lst []) = some (.list []) := rfl
  simp only [fEq, scalW, e1, e2, s1, s2, and_self, if_true, PyData.eqv]
  cases a <;> rfl
end KW.P

set_option linter.all false
set_option maxRecDepth 100000
set_option maxHeartbeats 4000000
namespace KW.P
open PySem L2 KW TL
/-! ### talks -/
def step (st : List Lt) (l : Lt) : List Lt := if l.pops then st.dropLast else st ++ [l]
def run (st : List Lt) (ls : List Lt) : List Lt := ls.foldl step st
theorem run_app {st xs ys} : run st (xs ++ ys) = run (run st xs) ys := List.foldl_append
/-- from a parity and what is open: a talk's rest -/
def TF (f : Fc) : Nat → List Lt → List Lt → Prop
  | _, _, [] => True
  | p, st, l :: ls => l.Ok f ∧ (l.move = decide (p % 2 = 0)) ∧ (l.pops = true → st ≠ []) ∧ TF f (p + 1) (step st l) ls
theorem TF.app {f : Fc} : ∀ {xs ys : List Lt} {p : Nat} {st : List Lt}, TF f p st (xs ++ ys) ↔ TF f p st xs ∧ TF f (p + xs.length) (run st xs) ys
  | [], ys, p, st => by simp [TF, run]
  | x :: xs, ys, p, st => by
    have ih := TF.app (f := f) (xs := xs) (ys := ys) (p := p + 1) (st := step st x)
    simp only [List.cons_append, TF, ih, List.length_cons, run, List.foldl_cons]
    rw [show p + (xs.length + 1) = p + 1 + xs.length from by omega]
    constructor
    · rintro ⟨a, b, c, d, e⟩; exact ⟨⟨a, b, c, d⟩, e⟩
    · rintro ⟨⟨a, b, c, d⟩, e⟩; exact ⟨a, b, c, d, e⟩
theorem TF.at {f : Fc} {ls : List Lt} {p : Nat} {st : List Lt} (h : TF f p st ls) {i : Nat} {l : Lt} (e : ls[i]? = some l) : l.Ok f ∧ (l.move = decide ((p + i) % 2 = 0)) ∧ (l.pops = true → run st (ls.take i) ≠ []) := by
  obtain ⟨hi, e2⟩ := List.getElem?_eq_some_iff.mp e
  have q : ls = ls.take i ++ (l :: ls.drop (i + 1)) := by
    rw [← e2, List.getElem_cons_drop]; exact (List.take_append_drop i ls).symm
  rw [q] at h
  obtain ⟨_, h2⟩ := TF.app.mp h
  simp only [TF] at h2
  rw [List.length_take, Nat.min_eq_left (Nat.le_of_lt hi)] at h2
  exact ⟨h2.1, h2.2.1, h2.2.2.1⟩
abbrev talkW (ls : List Lt) : W := .tup (ls.map Lt.w)
theorem run_take {ls : List Lt} {i : Nat} {l : Lt} (e : ls[i]? = some l) : run [] (ls.take (i + 1)) = step (run [] (ls.take i)) l := by
  rw [List.take_add_one, e]
  simp [run]
theorem enum_get {ls : List Lt} {i : Nat} {w : W} (h : (enumW (ls.map Lt.w))[i]? = some w) : ∃ l, ls[i]? = some l ∧ w = .tup [.int (i : Nat), l.w] := by
  obtain ⟨x, e, rfl⟩ := enumW_get h
  rw [List.getElem?_map, Option.map_eq_some_iff] at e
  obtain ⟨l, e, rfl⟩ := e
  exact ⟨l, e, rfl⟩
theorem mem_run {l : Lt} : ∀ {xs st : List Lt}, l ∈ run st xs → l ∈ st ∨ l ∈ xs
  | [], st, h => .inl h
  | x :: xs, st, h => by
    rcases mem_run (xs := xs) (st := step st x) h with q | q
    · unfold step at q
      split at q
      · exact .inl ((List.dropLast_sublist _).subset q)
      · rcases List.mem_append.mp q with z | z
        · exact .inl z
        · exact .inr (List.mem_singleton.mp z ▸ List.mem_cons_self ..)
    · exact .inr (List.mem_cons_of_mem _ q)
theorem TF.ok {f : Fc} {ls : List Lt} {p : Nat} {st : List Lt} (h : TF f p st ls) : ∀ l ∈ ls, l.Ok f := fun l hl => by
  obtain ⟨i, hi⟩ := List.getElem?_of_mem hl
  exact (h.at hi).1
/-- gone through: what is open -/
theorem f3 {k : Nat} {h : WH} {f : Fc} {ls : List Lt} (fo : f.Ok) (ht : TF f 0 [] ls) (hl : ls.length < 1000) : prg (k + 3) 3 [faceW f, talkW ls, .int 0] h = .ok (.ref h.length) (h ++ [.lst ((run [] ls).map pairW)]) := by
  rw [prg_s, run_fin (show [faceW f, talkW ls, W.int 0].length = npT 3 from rfl)]
  have e0 : ∀ g : WH, fMul true (.lst [.tup [.str "knock", .non], .tup [.str "ask", .non]]) (.int 0) g = .ok (.ref g.length) (g ++ [.lst []]) := fun g => by
    simp [fMul, lstOf, lim]
  obtain ⟨sw', h', e1, y4, y5, y6, rfl, rfl⟩ := forL_run (src := none) (ws0 := enumW (ls.map Lt.w)) (t := tgW (.tup [.nm 4, .nm 5])) (items := enumW (ls.map Lt.w)) (h := h ++ [.lst []])
    (body := (sSeq (sSet 6 (dCall (prg (k + 2) 2) (aCons (dVar 0) (aCons (dVar 5) (aNil)))))
 (sSeq (sIf (dTst (dOp (fIn true) (dVar 6) (dIf (dTst (dOp (fEq false) (dOp (fMod) (dVar 4) (dC (.int 2))) (dC (.int 0)))) (dTup (aCons (dC (.str ("knock" : Str))) (aCons (dC (.str ("answer" : Str))) (aNil)))) (dTup (aCons (dC (.str ("ask" : Str))) (aCons (dC (.str ("tell" : Str))) (aNil))))))) (sSeq (sNo)
 (sNil)) (sNil))
 (sSeq (sIf (dAndT (dTst (dOp (fEq false) (dVar 6) (dC (.str ("answer" : Str))))) (dTst (dOp (fEq false) (dVar 3) (dLst false (aNil))))) (sSeq (sNo)
 (sNil)) (sNil))
 (sSeq (sIf (dTst (dOp (fIn false) (dVar 6) (dTup (aCons (dC (.str ("knock" : Str))) (aCons (dC (.str ("ask" : Str))) (aNil)))))) (sSeq (sExpr (dBM "list" fAppend (dVar 3) (aCons (dTup (aCons (dVar 6) (aCons (dVar 5) (aNil)))) (aNil))))
 (sNil)) (sSeq (sExpr (dBM "list" fPop (dVar 3) aNil))
 (sNil)))
 (sNil))))))
    (sw := [some (faceW f), some (talkW ls), some (.int 0), some (.ref h.length), none, none, none])
    (fun i sw h' => ∃ y4 y5 y6 : Option W, sw = [some (faceW f), some (talkW ls), some (.int 0), some (.ref h.length), y4, y5, y6] ∧ h' = h ++ [.lst ((run [] (ls.take i)).map pairW)])
    ⟨_, _, _, rfl, rfl⟩ (fun _ _ _ _ _ => rfl) (by
      rintro i w sw h' hw ⟨y4, y5, y6, rfl, rfl⟩
      obtain ⟨l, el, rfl⟩ := enum_get hw
      obtain ⟨lo, lm, lp⟩ := ht.at el
      rw [Nat.zero_add] at lm
      refine ⟨_, [some (faceW f), some (talkW ls), some (.int 0), some (.ref h.length), some (.int i), some l.w, some (.str l.kind)], h ++ [.lst ((run [] (ls.take (i + 1))).map pairW)], rfl, .inl ?_, _, _, _, rfl, rfl⟩
      have hi := (List.getElem?_eq_some_iff.mp el).1
      generalize hst : run [] (ls.take i) = st at *
      have sl : st.length ≤ i := by
        rw [← hst]
        have : ∀ (xs st : List Lt), (run st xs).length ≤ st.length + xs.length := by
          intro xs
          induction xs with
          | nil => intro st; simp [run]
          | cons x xs ih =>
            intro st
            have := ih (step st x)
            have q : (step st x).length ≤ st.length + 1 := by unfold step; split <;> simp <;> omega
            simp only [run, List.foldl_cons, List.length_cons] at this ⊢
            omega
        have := this (ls.take i) []
        simp only [List.length_nil, Nat.zero_add, List.length_take] at this
        omega
      rw [run_take el, hst]
      have g : (h ++ [Ob.lst (st.map pairW)])[h.length]? = some (.lst (st.map pairW)) := by simp
      have e2 := fun g => f2 (k := k) (h := g) lo
      have e3 : ∀ (s a b : Str) (g : WH), fIn true (.str s) (.tup [.str a, .str b]) g = .ok (.bl (!decide (s = a ∨ s = b))) g := fun s a b g => by
        have := fnot_strs (s := s) (ss := [a, b]) (g := g)
        simpa using this
      have e4 : ∀ (s a b : Str) (g : WH), fIn false (.str s) (.tup [.str a, .str b]) g = .ok (.bl (decide (s = a ∨ s = b))) g := fun s a b g => by
        have := fin_strs (s := s) (ss := [a, b]) (g := g)
        simpa using this
      have sto : ∀ l ∈ st, l.Ok f := fun x hx => by
        rw [← hst] at hx
        rcases mem_run hx with q | q
        · cases q
        · exact ht.ok x (List.mem_of_mem_take q)
      have de := eq_open fo g sto
      have m2 : decide ((i : Int) % 2 = 0) = decide (i % 2 = 0) := by rw [decide_eq_decide]; omega
      have ti : tyIs "list" (h ++ [Ob.lst (st.map pairW)]) (.ref h.length) = true := by simp only [tyIs, g]; rfl
      have ap : fAppend (.ref h.length) [pairW l] (h ++ [Ob.lst (st.map pairW)]) = .ok .non (h ++ [Ob.lst ((st ++ [l]).map pairW)]) := by
        simp only [fAppend, g]
        rw [if_pos (by simp; unfold lim; omega)]
        simp
      have po : st ≠ [] → ∃ x, fPop (.ref h.length) [] (h ++ [Ob.lst (st.map pairW)]) = .ok x (h ++ [Ob.lst (st.dropLast.map pairW)]) := fun hne => by
        have hp : 0 < st.length := List.length_pos_iff.mpr hne
        refine ⟨pairW st[st.length - 1], ?_⟩
        have z : (st.map pairW)[(st.map pairW).length - 1]? = some (pairW st[st.length - 1]) := by
          rw [List.length_map, List.getElem?_map, List.getElem?_eq_getElem (by omega)]; rfl
        simp only [fPop, g, z]
        simp [List.map_dropLast]
      have l2 : 2 ≤ lim := by decide
      have k1 : ("knock" : Str) ≠ "answer" := by decide +kernel
      have k2 : ("ask" : Str) ≠ "answer" := by decide +kernel
      have k3 : ("answer" : Str) ≠ "knock" := by decide +kernel
      have k4 : ("answer" : Str) ≠ "ask" := by decide +kernel
      have k5 : ("tell" : Str) ≠ "knock" := by decide +kernel
      have k6 : ("tell" : Str) ≠ "ask" := by decide +kernel
      have k7 : ("tell" : Str) ≠ "answer" := by decide +kernel
      cases l with
      | knock d n =>
        have ie : i % 2 = 0 := by simpa [Lt.move] using lm
        have e5 : (i : Int) % 2 = 0 := by omega
        have ap2 : fAppend (.ref h.length) [.tup [.str "knock", (Lt.knock d n).w]] (h ++ [Ob.lst (st.map pairW)]) = .ok .non (h ++ [Ob.lst ((st ++ [Lt.knock d n]).map pairW)]) := ap
        simp [-List.map_map, e2, e5, fEq, scalW, e3, e4, l2, Lt.kind, k1, ti, step, Lt.pops, ap2]
      | ask s n =>
        have ie : i % 2 = 1 := by
          have : ¬ i % 2 = 0 := by simpa [Lt.move] using lm
          omega
        have e5 : ¬ (i : Int) % 2 = 0 := by omega
        have ap2 : fAppend (.ref h.length) [.tup [.str "ask", (Lt.ask s n).w]] (h ++ [Ob.lst (st.map pairW)]) = .ok .non (h ++ [Ob.lst ((st ++ [Lt.ask s n]).map pairW)]) := ap
        simp [-List.map_map, e2, e5, fEq, scalW, e3, e4, l2, Lt.kind, k2, ti, step, Lt.pops, ap2]
      | answer n =>
        have ie : i % 2 = 0 := by simpa [Lt.move] using lm
        have e5 : (i : Int) % 2 = 0 := by omega
        have hne : st ≠ [] := lp rfl
        have em : st.isEmpty = false := by cases st <;> simp_all
        obtain ⟨x, po2⟩ := po hne
        have ea : fEq false (.str "answer") (.str "answer") (h ++ [Ob.lst (st.map pairW)]) = .ok (.bl true) (h ++ [Ob.lst (st.map pairW)]) := by simp [fEq, scalW]
        have e6 : ∀ g : WH, fEq false (.int ((i : Int) % 2)) (.int 0) g = .ok (.bl true) g := fun g => by simp [fEq, scalW, e5]
        simp [-List.map_map, -List.map_dropLast, e2, e6, ea, de, em, e3, e4, l2, Lt.kind, k3, k4, ti, step, Lt.pops, po2]
      | tell n =>
        have ie : i % 2 = 1 := by
          have : ¬ i % 2 = 0 := by simpa [Lt.move] using lm
          omega
        have e5 : ¬ (i : Int) % 2 = 0 := by omega
        have hne : st ≠ [] := lp rfl
        obtain ⟨x, po2⟩ := po hne
        simp [-List.map_map, -List.map_dropLast, e2, e5, fEq, scalW, e3, e4, l2, Lt.kind, k5, k6, k7, ti, step, Lt.pops, po2])
  have hn : (enumW (ls.map Lt.w)).length = ls.length := by simp [enumW]
  rw [hn, List.take_length] at e1
  have l2 : 2 ≤ lim := by decide
  have gg : gc h.length (.ref h.length) h (h ++ [.lst ((run [] ls).map pairW)]) = h ++ [.lst ((run [] ls).map pairW)] := ref_gc (Nat.le_refl _)
  simp [-List.map_map, slT, npT, DD, d3, tyW, ktt, truW, l2, e0, e1, gg]
end KW.P

set_option linter.all false
set_option maxRecDepth 100000
set_option maxHeartbeats 4000000
namespace KW.P
open PySem L2 KW TL
theorem compL_mapS {src : Option Nat} {ws0 : List W} {t : W → WS → Option WS} {elt : EV} {sw : WS} {h : WH} (f : W → W) (q : srcOk src ws0 h = true) : ∀ (items acc : List W), (∀ w ∈ items, ∃ sw1, t w sw = some sw1 ∧ elt sw1 h = .ok (f w) h) → acc.length + items.length ≤ lim → compL src ws0 t bYes elt sw items acc h = .ok (acc ++ items.map f) h
  | [], acc, _, _ => by unfold compL; simp [q]
  | w :: rest, acc, st, hl => by
    obtain ⟨sw1, e1, e2⟩ := st w (List.mem_cons_self ..)
    simp only [List.length_cons] at hl
    unfold compL
    rw [if_pos q, e1]
    simp only [x_yes, e2]
    rw [if_pos (by omega), compL_mapS f q rest (acc ++ [f w]) (fun u hu => st u (List.mem_cons_of_mem _ hu)) (by simp only [List.length_append, List.length_singleton]; omega)]
    simp
theorem gc_plain {h e : WH} {w : W} (hw : w.lt h.length = true) : gc h.length w h (h ++ e) = h := gc_drop rfl hw fun i _ => .inl rfl
theorem run_len : ∀ (xs st : List Lt), (run st xs).length ≤ st.length + xs.length
  | [], st => by simp [run]
  | x :: xs, st => by
    have := run_len xs (step st x)
    have q : (step st x).length ≤ st.length + 1 := by unfold step; split <;> simp <;> omega
    simp only [run, List.foldl_cons, List.length_cons] at this ⊢
    omega
theorem lt_letters {ls : List Lt} {n : Nat} : W.lts n (ls.map Lt.w) = true := by
  induction ls with
  | nil => rfl
  | cons l ls ih => cases l <;> simp [-List.map_map, W.lts, W.lt, ih, Lt.w]
theorem f4 {k : Nat} {h : WH} {f : Fc} {ls : List Lt} (fo : f.Ok) (ht : TF f 0 [] ls) (hl : ls.length < 1000) : prg (k + 4) 4 [faceW f, talkW ls] h = .ok (.bl true) h := by
  rw [prg_s, run_fin (show [faceW f, talkW ls].length = npT 4 from rfl)]
  have e := f3 (k := k) (h := h) fo ht hl
  have g := gc_plain (h := h) (e := [.lst ((run [] ls).map pairW)]) (w := .bl true) rfl
  simp [-List.map_map, slT, npT, DD, d4, e, g]
theorem f5 {k : Nat} {h : WH} {f : Fc} {ls : List Lt} (fo : f.Ok) (ht : TF f 0 [] ls) (hl : ls.length < 1000) : prg (k + 5) 5 [faceW f, talkW ls] h = .ok (.bl (run [] ls).isEmpty) h := by
  rw [prg_s, run_fin (show [faceW f, talkW ls].length = npT 5 from rfl)]
  have e1 := f4 (k := k) (h := h) fo ht hl
  have e := f3 (k := k + 1) (h := h) fo ht hl
  have gt : (h ++ [Ob.lst ((run [] ls).map pairW)])[h.length]? = some (.lst ((run [] ls).map pairW)) := by simp
  have eo := eq_open fo gt fun l hl => (mem_run hl).elim (fun q => by cases q) (ht.ok l)
  have g := gc_plain (h := h) (e := [.lst ((run [] ls).map pairW)]) (w := .bl (run [] ls).isEmpty) rfl
  have l0 : 0 ≤ lim := by decide
  simp [-List.map_map, slT, npT, DD, d5, e1, e, truW, l0, eo, g]
theorem f6 {k : Nat} {h : WH} {f : Fc} {ls : List Lt} (fo : f.Ok) (ht : TF f 0 [] ls) (hl : ls.length < 1000) : prg (k + 4) 6 [faceW f, talkW ls] h = .ok (talkW (run [] ls)) h := by
  rw [prg_s, run_fin (show [faceW f, talkW ls].length = npT 6 from rfl)]
  have e := f3 (k := k) (h := h) fo ht hl
  have gt : (h ++ [Ob.lst ((run [] ls).map pairW)])[h.length]? = some (.lst ((run [] ls).map pairW)) := by simp
  have rl := run_len ls []
  simp only [List.length_nil, Nat.zero_add] at rl
  have c := compL_mapS (src := some h.length) (ws0 := (run [] ls).map pairW) (t := tgW (.tup [.nm 2, .nm 3])) (elt := dVar 3) (sw := wipeW [some (faceW f), some (talkW ls), none, none] [2, 3]) (h := h ++ [Ob.lst ((run [] ls).map pairW)])
    (fun w => match w with | .tup [_, x] => x | w => w) (by simp only [srcOk, gt]; simp) ((run [] ls).map pairW) [] (fun w hw => by
      obtain ⟨l, hl, rfl⟩ := List.mem_map.mp hw
      exact ⟨_, rfl, rfl⟩) (by simp; unfold lim; omega)
  rw [List.nil_append, List.map_map] at c
  have g := gc_plain (h := h) (e := [.lst ((run [] ls).map pairW)]) (w := talkW (run [] ls)) (by simp only [talkW, W.lt, lt_letters])
  have c2 : ((run [] ls).map ((fun w => match w with | .tup [_, x] => x | w => w) ∘ pairW)) = (run [] ls).map Lt.w := rfl
  rw [c2] at c
  simp [-List.map_map, slT, npT, DD, d6, e, gt, c, bTup, lstOf, g]
end KW.P

set_option linter.all false
set_option maxRecDepth 100000
set_option maxHeartbeats 4000000
namespace KW.P
open PySem L2 KW TL
theorem dats_s (ss : List Str) : W.dats (ss.map W.str) = some (ss.map PyData.str) := by
  induction ss with
  | nil => rfl
  | cons s ss ih => simp only [List.map_cons, W.dats, W.dat, ih]
theorem lay_s : ∀ {ss : List Str}, (∀ s ∈ ss, Nm s) → PyData.canLayAll0 (ss.map PyData.str) = true ∧ PyData.depthAll (ss.map PyData.str) = 0
  | [], _ => by simp [PyData.canLayAll0, PyData.depthAll]
  | s :: ss, h => by
    have q := h s (List.mem_cons_self ..)
    obtain ⟨c, d⟩ := lay_s fun x hx => h x (List.mem_cons_of_mem _ hx)
    simp [PyData.canLayAll0, PyData.depthAll, PyData.canLay0, PyData.depth, ok_low q.2.2.1 q.2.1, c, d]
theorem ne_strs {ss : List Str} {g : WH} (h : ∀ s ∈ ss, Nm s) : fEq true (.tup (ss.map .str)) (.tup []) g = .ok (.bl (!ss.isEmpty)) g := by
  obtain ⟨c, d⟩ := lay_s h
  have s1 : SeqAt.shaped (.tuple (ss.map PyData.str)) = true := by simp [SeqAt.shaped, PyData.canLay0, PyData.depth, c, d]
  have s2 : SeqAt.shaped (.tuple []) = true := by decide +kernel
  have e1 : datH g (.tup (ss.map .str)) = some (.tuple (ss.map .str)) := by simp [-List.map_map, datH, lstOf, W.dat, dats_s]
  have e2 : datH g (.tup []) = some (.tuple []) := rfl
  simp only [fEq, scalW, e1, e2, s1, s2, and_self, if_true, PyData.eqv]
  cases ss <;> rfl
theorem kind_pops (l : Lt) : decide (l.kind = "knock" ∨ l.kind = "ask") = !l.pops := by
  cases l with
  | knock d n => exact (by decide +kernel : decide (("knock" : Str) = "knock" ∨ ("knock" : Str) = "ask") = !false)
  | ask d n => exact (by decide +kernel : decide (("ask" : Str) = "knock" ∨ ("ask" : Str) = "ask") = !false)
  | answer n => exact (by decide +kernel : decide (("answer" : Str) = "knock" ∨ ("answer" : Str) = "ask") = !true)
  | tell n => exact (by decide +kernel : decide (("tell" : Str) = "knock" ∨ ("tell" : Str) = "ask") = !true)
theorem move_ok {k N : Nat} {h : WH} {r : Nat} {a : Hd} {f : Fc} {n : Nat} (fo : f.Ok) (hr : r < h.length) (h0 : h[r]? = some (HO a)) (ha : a.Ok N) (hN : N < 500000) :
    ∃ (l : Lt) (a' : Hd), prg (k + 3) 17 [.ref r, spW f, .int n] h = .ok l.w (h.set r (HO a')) ∧ l.Ok f ∧ l.move = true ∧ (l.pops = true → 0 < n) ∧ a'.Ok (N + 3) := by
  have s0 := fo.s
  obtain ⟨x, a1, e1, x0, x1, ok1⟩ := take_ok (k := k + 1) (n := f.size) h0 ha (by omega) (by omega) (by omega)
  have dne : f.doors.map W.str ≠ [] := by
    intro e
    have := fo.dl
    rw [List.map_eq_nil_iff] at e
    rw [e] at this
    simp at this
  have kn : ∀ (a2 : Hd), a2.Ok (N + 2) → ∃ (d : Str) (a3 : Hd), prg (k + 2) 14 [.ref r, .tup (f.doors.map .str)] (h.set r (HO a2)) = .ok (.str d) (h.set r (HO a3)) ∧ d ∈ f.doors ∧ a3.Ok (N + 3) := fun a2 ok => by
    obtain ⟨w, a3, e, hw, ok3⟩ := of_tup (k := k) (ws := f.doors.map .str) (List.getElem?_set_self (a := HO a2) hr) ok (by omega) dne (by have := fo.dl; simp; omega)
    obtain ⟨d, hd, rfl⟩ := List.mem_map.mp hw
    rw [List.set_set] at e
    exact ⟨d, a3, e, hd, ok3⟩
  have l3 : 3 ≤ lim := by decide
  have l2 : 2 ≤ lim := by decide
  rw [prg_s, run_fin (show [W.ref r, spW f, W.int n].length = npT 17 from rfl)]
  by_cases hn : 0 < n
  · obtain ⟨y, a2, e2, _, _, ok2⟩ := take_ok (k := k + 1) (n := 2) (List.getElem?_set_self (a := HO a1) hr) ok1 (by omega) (by decide) (by decide)
    rw [List.set_set] at e2
    by_cases hy : y = 0
    · subst hy
      refine ⟨.answer x, a2, ?_, ⟨x0, x1, trivial⟩, rfl, fun _ => hn, ok2.mono (by omega)⟩
      simp [-List.map_map, slT, npT, DD, d17, e1, e2, hn, fEq, scalW, l2, Lt.w]
    · obtain ⟨d, a3, e3, hd, ok3⟩ := kn a2 ok2
      refine ⟨.knock d x, a3, ?_, ⟨x0, x1, hd⟩, rfl, fun q => absurd q (by simp [Lt.pops]), ok3⟩
      simp [-List.map_map, slT, npT, DD, d17, e1, e2, e3, hn, fEq, scalW, hy, l3, Lt.w]
  · obtain ⟨d, a3, e3, hd, ok3⟩ := kn a1 (ok1.mono (by omega))
    have hn0 : n = 0 := by omega
    subst hn0
    refine ⟨.knock d x, a3, ?_, ⟨x0, x1, hd⟩, rfl, fun q => absurd q (by simp [Lt.pops]), ok3⟩
    simp [-List.map_map, slT, npT, DD, d17, e1, e3, l3, Lt.w]
theorem reply_ok {k N : Nat} {h : WH} {r : Nat} {a : Hd} {f : Fc} (fo : f.Ok) (hr : r < h.length) (h0 : h[r]? = some (HO a)) (ha : a.Ok N) (hN : N < 500000) :
    ∃ (l : Lt) (a' : Hd), prg (k + 3) 18 [.ref r, spW f] h = .ok l.w (h.set r (HO a')) ∧ l.Ok f ∧ l.move = false ∧ a'.Ok (N + 3) := by
  have s0 := fo.s
  obtain ⟨x, a1, e1, x0, x1, ok1⟩ := take_ok (k := k + 1) (n := f.size) h0 ha (by omega) (by omega) (by omega)
  have nes := fun g => ne_strs (g := g) fo.sm
  have l3 : 3 ≤ lim := by decide
  have l2 : 2 ≤ lim := by decide
  have l0 : 0 ≤ lim := by decide
  rw [prg_s, run_fin (show [W.ref r, spW f].length = npT 18 from rfl)]
  by_cases he : f.far = []
  · have em : f.far.isEmpty = true := by rw [he]; rfl
    refine ⟨.tell x, a1, ?_, ⟨x0, x1, trivial⟩, rfl, ok1.mono (by omega)⟩
    simp [-List.map_map, slT, npT, DD, d18, e1, nes, em, l2, l0, Lt.w]
  · have em : f.far.isEmpty = false := by simpa using he
    obtain ⟨y, a2, e2, _, _, ok2⟩ := take_ok (k := k + 1) (n := 2) (List.getElem?_set_self (a := HO a1) hr) ok1 (by omega) (by decide) (by decide)
    rw [List.set_set] at e2
    by_cases hy : y = 0
    · subst hy
      obtain ⟨w, a3, e, hw, ok3⟩ := of_tup (k := k) (ws := f.far.map .str) (List.getElem?_set_self (a := HO a2) hr) ok2 (by omega) (by simpa using he) (by have := fo.sl; simp; omega)
      obtain ⟨d, hd, rfl⟩ := List.mem_map.mp hw
      rw [List.set_set] at e
      refine ⟨.ask d x, a3, ?_, ⟨x0, x1, hd⟩, rfl, ok3⟩
      have ez : ∀ g : WH, fEq false (.int 0) (.int 0) g = .ok (.bl true) g := fun g => rfl
      simp [-List.map_map, slT, npT, DD, d18, e1, e2, e, nes, em, ez, l3, l0, Lt.w]
    · refine ⟨.tell x, a2, ?_, ⟨x0, x1, trivial⟩, rfl, ok2.mono (by omega)⟩
      have ez : ∀ g : WH, fEq false (.int y) (.int 0) g = .ok (.bl false) g := fun g => by simp [fEq, scalW, hy]
      simp [-List.map_map, slT, npT, DD, d18, e1, e2, nes, em, ez, l2, l0, Lt.w]
/-- how many are open: as even as how many letters there are -/
theorem par_run {f : Fc} : ∀ {ls st : List Lt} {p : Nat}, TF f p st ls → (run st ls).length % 2 = (st.length + ls.length) % 2
  | [], st, p, _ => by simp [run]
  | l :: ls, st, p, h => by
    obtain ⟨_, _, hp, h2⟩ := h
    have := par_run h2
    simp only [run, List.foldl_cons, List.length_cons] at this ⊢
    rw [this]
    unfold step
    split
    · rename_i q
      have := List.length_pos_iff.mpr (hp q)
      rw [List.length_dropLast]; omega
    · simp only [List.length_append, List.length_singleton]; omega
theorem TF.snoc {f : Fc} {ls : List Lt} {l : Lt} (h : TF f 0 [] ls) (ho : l.Ok f) (hm : l.move = decide (ls.length % 2 = 0)) (hp : l.pops = true → run [] ls ≠ []) : TF f 0 [] (ls ++ [l]) := by
  rw [TF.app]
  refine ⟨h, ho, ?_, hp, trivial⟩
  rw [Nat.zero_add]; exact hm
theorem talk_ok {k N : Nat} {h : WH} {r : Nat} {a : Hd} {f : Fc} {n : Nat} (fo : f.Ok) (hr : r < h.length) (h0 : h[r]? = some (HO a)) (ha : a.Ok N) (hN : N < 400000) (hn : n ≤ 17) :
    ∃ (ls : List Lt) (a' : Hd), prg (k + 4) 19 [.ref r, spW f, .int n] h = .ok (talkW ls) (h.set r (HO a')) ∧ TF f 0 [] ls ∧ ls.length = n ∧ a'.Ok (N + 51) := by
  rw [prg_s, run_fin (show [W.ref r, spW f, W.int n].length = npT 19 from rfl)]
  obtain ⟨sw', h', e1, ls, a', y5, y6, rfl, rfl, hl, ht, ok⟩ := forL_run (src := none) (ws0 := rngW 0 n) (t := tgW (.nm 5)) (items := rngW 0 n) (h := h.set r (HO a) ++ [.lst []])
    (body := (sSeq (sSet 6 (dIf (dTst (dOp (fEq false) (dOp (fMod) (dVar 5) (dC (.int 2))) (dC (.int 1)))) (dCall (prg (k + 3) 18) (aCons (dVar 0) (aCons (dVar 1) (aNil)))) (dCall (prg (k + 3) 17) (aCons (dVar 0) (aCons (dVar 1) (aCons (dVar 4) (aNil)))))))
 (sSeq (sSet 4 (dOp (fAdd false) (dVar 4) (dIf (dTst (dOp (fIn false) (dOp fIx (dVar 6) (dC (.int 0))) (dTup (aCons (dC (.str ("knock" : Str))) (aCons (dC (.str ("ask" : Str))) (aNil)))))) (dC (.int 1)) (dNeg (dC (.int 1))))))
 (sSeq (sExpr (dBM "list" fAppend (dVar 3) (aCons (dVar 6) (aNil))))
 (sNil)))))
    (sw := [some (.ref r), some (spW f), some (.int n), some (.ref h.length), some (.int 0), none, none])
    (fun i sw h' => ∃ (ls : List Lt) (a' : Hd) (y5 y6 : Option W), sw = [some (.ref r), some (spW f), some (.int n), some (.ref h.length), some (.int (run [] ls).length), y5, y6] ∧ h' = h.set r (HO a') ++ [.lst (ls.map Lt.w)] ∧ ls.length = i ∧ TF f 0 [] ls ∧ a'.Ok (N + 3 * i))
    ⟨[], a, none, none, rfl, rfl, rfl, trivial, ha⟩ (fun _ _ _ _ _ => rfl) (by
      rintro i w sw h' hw ⟨ls, a', y5, y6, rfl, rfl, hl, ht, ok⟩
      obtain ⟨rfl, hi⟩ := rng_get hw
      have hg := sa_get (x := HO a') (e := [Ob.lst (ls.map Lt.w)]) hr
      have pr := par_run ht
      simp only [List.length_nil, Nat.zero_add] at pr
      -- the letter
      have key : ∃ (l : Lt) (a2 : Hd), (if i % 2 = 1 then prg (k + 3) 18 [.ref r, spW f] (h.set r (HO a') ++ [Ob.lst (ls.map Lt.w)]) else prg (k + 3) 17 [.ref r, spW f, .int (run [] ls).length] (h.set r (HO a') ++ [Ob.lst (ls.map Lt.w)])) = .ok l.w (h.set r (HO a2) ++ [Ob.lst (ls.map Lt.w)]) ∧
          l.Ok f ∧ l.move = decide (ls.length % 2 = 0) ∧ (l.pops = true → run [] ls ≠ []) ∧ a2.Ok (N + 3 * (i + 1)) := by
        by_cases hp : i % 2 = 1
        · obtain ⟨l, a2, q1, q2, q3, q4⟩ := reply_ok (k := k) (h := h.set r (HO a') ++ [Ob.lst (ls.map Lt.w)]) (r := r) fo (by simp; omega) hg ok (by omega)
          rw [sa_set hr] at q1
          refine ⟨l, a2, by rw [if_pos hp]; exact q1, q2, by rw [q3, hl, decide_eq_false (by omega)], fun _ e => ?_, q4⟩
          rw [e] at pr
          simp only [List.length_nil] at pr
          omega
        · obtain ⟨l, a2, q1, q2, q3, q4, q5⟩ := move_ok (k := k) (h := h.set r (HO a') ++ [Ob.lst (ls.map Lt.w)]) (r := r) (n := (run [] ls).length) fo (by simp; omega) hg ok (by omega)
          rw [sa_set hr] at q1
          exact ⟨l, a2, by rw [if_neg hp]; exact q1, q2, by rw [q3, hl, decide_eq_true (by omega)], fun q e => by have := q4 q; rw [e] at this; simp at this, q5⟩
      obtain ⟨l, a2, q1, q2, q3, q4, q5⟩ := key
      have ht2 := ht.snoc q2 q3 q4
      have st := run_app (st := []) (xs := ls) (ys := [l])
      refine ⟨_, [some (.ref r), some (spW f), some (.int n), some (.ref h.length), some (.int (run [] (ls ++ [l])).length), some (.int i), some l.w], h.set r (HO a2) ++ [.lst ((ls ++ [l]).map Lt.w)], rfl, .inl ?_, ls ++ [l], a2, _, _, rfl, rfl, by simp [hl], ht2, q5⟩
      have g2 : (h.set r (HO a2) ++ [Ob.lst (ls.map Lt.w)])[h.length]? = some (.lst (ls.map Lt.w)) := sa_end
      have ti : tyIs "list" (h.set r (HO a2) ++ [Ob.lst (ls.map Lt.w)]) (.ref h.length) = true := by simp only [tyIs, g2]; rfl
      have ap : fAppend (.ref h.length) [l.w] (h.set r (HO a2) ++ [Ob.lst (ls.map Lt.w)]) = .ok .non (h.set r (HO a2) ++ [Ob.lst ((ls ++ [l]).map Lt.w)]) := by
        simp only [fAppend, g2]
        rw [if_pos (by simp; unfold lim; omega), sa_setE]
        simp
      have l2 : 2 ≤ lim := by decide
      have e4 : ∀ (s a b : Str) (g : WH), fIn false (.str s) (.tup [.str a, .str b]) g = .ok (.bl (decide (s = a ∨ s = b))) g := fun s a b g => by
        have := fin_strs (s := s) (ss := [a, b]) (g := g)
        simpa using this
      have ix0 : ∀ g : WH, fIx l.w (.int 0) g = .ok (.str l.kind) g := fun g => by cases l <;> rfl
      have kd := kind_pops l
      have nl : (run [] (ls ++ [l])).length = (if l.pops then (run [] ls).length - 1 else (run [] ls).length + 1) := by
        rw [st]
        simp only [run, List.foldl_cons, List.foldl_nil, step]
        split <;> simp
      have key2 : ((if i % 2 = 1 then prg (k + 3) 18 [.ref r, spW f] (h.set r (HO a') ++ [Ob.lst (ls.map Lt.w)]) else prg (k + 3) 17 [.ref r, spW f, .int (run [] ls).length] (h.set r (HO a') ++ [Ob.lst (ls.map Lt.w)]))) = .ok l.w (h.set r (HO a2) ++ [Ob.lst (ls.map Lt.w)]) := q1
      have dd : ∀ g : WH, fEq false (.int ((i : Int) % 2)) (.int 1) g = .ok (.bl (decide (i % 2 = 1))) g := fun g => by
        have : decide ((i : Int) % 2 = 1) = decide (i % 2 = 1) := by rw [decide_eq_decide]; omega
        simp [fEq, scalW, this]
      have cnt : ((run [] ls).length : Int) + (if decide (l.kind = "knock" ∨ l.kind = "ask") = true then 1 else -1) = ((run [] (ls ++ [l])).length : Int) := by
        rw [nl, kd]
        cases hp : l.pops
        · simp
        · have := List.length_pos_iff.mpr (q4 hp)
          simp; omega
      by_cases hp : i % 2 = 1
      · rw [if_pos hp] at key2
        cases hk : decide (l.kind = "knock" ∨ l.kind = "ask") <;> rw [hk] at cnt <;> simp only [Bool.false_eq_true, if_false, if_true] at cnt <;> simp [-List.map_map, -List.map_append, -Bool.decide_or, dd, hp, key2, ix0, l2, e4, hk, cnt, ti, ap]
      · rw [if_neg hp] at key2
        cases hk : decide (l.kind = "knock" ∨ l.kind = "ask") <;> rw [hk] at cnt <;> simp only [Bool.false_eq_true, if_false, if_true] at cnt <;> simp [-List.map_map, -List.map_append, -Bool.decide_or, dd, hp, key2, ix0, l2, e4, hk, cnt, ti, ap])
  rw [rng_len] at hl ok
  have nl : (-(lim : Int) ≤ (n : Int)) ∧ (n : Int) ≤ (lim : Int) := by
    have : (lim : Int) = 1000000 := rfl
    omega
  have l0 : 0 ≤ lim := by decide
  have g2 : (h.set r (HO a') ++ [Ob.lst (ls.map Lt.w)])[h.length]? = some (.lst (ls.map Lt.w)) := sa_end
  have gg : gc h.length (talkW ls) h (h.set r (HO a') ++ [Ob.lst (ls.map Lt.w)]) = h.set r (HO a') := gc_ho hr (by simp only [talkW, W.lt, lt_letters])
  refine ⟨ls, a', ?_, ht, hl, ok.mono (by omega)⟩
  have sh := set_self h0
  rw [← sh] at e1
  simp [-List.map_map, slT, npT, DD, d19, nl, l0, e1, bTup, lstOf, g2, gg]
end KW.P

set_option linter.all false
set_option maxRecDepth 100000
set_option maxHeartbeats 4000000
namespace KW.P
open PySem L2 KW TL
theorem add_talk {xs ys : List Lt} {g : WH} (hl : xs.length + ys.length < 1000) : fAdd false (.tup (xs.map Lt.w)) (.tup (ys.map Lt.w)) g = .ok (.tup ((xs ++ ys).map Lt.w)) g := by
  simp only [fAdd, List.length_map]
  rw [if_pos (by unfold lim; omega), List.map_append]
theorem run_ok {f : Fc} {ls : List Lt} (ht : TF f 0 [] ls) : ∀ l ∈ run [] ls, l.Ok f := fun l hl => (mem_run hl).elim (fun q => by cases q) (ht.ok l)
abbrev shutC (Φ : Fns) : EB := dAndT (dTst (dOp (fEq true) (dCall (Φ 6) (aCons (dVar 2) (aCons (dVar 3) (aNil)))) (dTup (aNil)))) (dTst (dOp (fInt fun i j => decide (i < j)) (dBi bLen (aCons (dVar 3) (aNil))) (dC (.int 80))))
abbrev shutB (Φ : Fns) : EW := (sSeq (sPar 4 5 (aCons (dCall (Φ 13) (aCons (dVar 0) (aCons (dOp fIx (dVar 1) (dC (.int 0))) (aNil)))) (aCons (dCall (Φ 13) (aCons (dVar 0) (aCons (dOp fIx (dVar 1) (dC (.int 0))) (aNil)))) (aNil))))
 (sSeq (sSet 3 (dOp (fAdd false) (dVar 3) (dTup (aCons (dTup (aCons (dC (.str ("answer" : Str))) (aCons (dVar 4) (aNil)))) (aCons (dTup (aCons (dC (.str ("tell" : Str))) (aCons (dVar 5) (aNil)))) (aNil))))))
 (sNil)))
theorem shut_loop {k : Nat} {h : WH} {r : Nat} {f : Fc} (fo : f.Ok) (hr : r < h.length) : ∀ (c m N : Nat) (a : Hd) (ls : List Lt) (y4 y5 : Option W), c < m → a.Ok N → N + 2 * c < 400000 → TF f 0 [] ls → ls.length % 2 = 0 → (run [] ls).length ≤ 2 * c → ls.length + 2 * c ≤ 60 →
    ∃ (ls' : List Lt) (a' : Hd) (z4 z5 : Option W), whlL (shutC (prg (k + 4))) (shutB (prg (k + 4))) m [some (.ref r), some (spW f), some (faceW f), some (talkW ls), y4, y5] (h.set r (HO a)) = .ok (.next [some (.ref r), some (spW f), some (faceW f), some (talkW ls'), z4, z5]) (h.set r (HO a')) ∧
      TF f 0 [] ls' ∧ run [] ls' = [] ∧ ls'.length % 2 = 0 ∧ ls'.length ≤ ls.length + 2 * c ∧ a'.Ok (N + 2 * c)
  | c, 0, N, a, ls, y4, y5, hm, _, _, _, _, _, _ => absurd hm (by omega)
  | c, m + 1, N, a, ls, y4, y5, hm, ok, hN, ht, he, hc, hl => by
    have e6 := f6 (k := k) (h := h.set r (HO a)) fo ht (by omega)
    have eq := eq_talk (neg := true) (g := h.set r (HO a)) (ys := []) fo (run_ok ht) (by simp)
    simp only [List.map_nil] at eq
    have l0 : 0 ≤ lim := by decide
    have bl : bLen [talkW ls] (h.set r (HO a)) = .ok (.int ls.length) (h.set r (HO a)) := by simp [bLen, seqOf]
    have l80 : (ls.length : Int) < 80 := by omega
    have cond : shutC (prg (k + 4)) [some (.ref r), some (spW f), some (faceW f), some (talkW ls), y4, y5] (h.set r (HO a)) = .ok (!decide (run [] ls = [])) (h.set r (HO a)) := by
      by_cases z : run [] ls = []
      · have z2 : decide (run [] ls = []) = true := decide_eq_true z
        rw [z2] at eq ⊢
        simp [-List.map_map, e6, eq, l0]
      · have z2 : decide (run [] ls = []) = false := decide_eq_false z
        rw [z2] at eq ⊢
        simp [-List.map_map, e6, eq, l0, bl, l80]
    rw [whlL, cond]
    by_cases z : run [] ls = []
    · refine ⟨ls, a, y4, y5, ?_, ht, z, he, by omega, ok.mono (by omega)⟩
      simp [z]
    · have s0 := fo.s
      obtain ⟨x, a1, e1, x0, x1, ok1⟩ := take_ok (k := k + 3) (n := f.size) (List.getElem?_set_self (a := HO a) hr) ok (by omega) (by omega) (by omega)
      rw [List.set_set] at e1
      obtain ⟨y, a2, e2, p0, p1, ok2⟩ := take_ok (k := k + 3) (n := f.size) (List.getElem?_set_self (a := HO a1) hr) ok1 (by omega) (by omega) (by omega)
      rw [List.set_set] at e2
      have pr := par_run ht
      simp only [List.length_nil, Nat.zero_add] at pr
      have t1 := ht.snoc (l := .answer x) ⟨x0, x1, trivial⟩ (by rw [he]; rfl) (fun _ => z)
      have r1 : run [] (ls ++ [.answer x]) = (run [] ls).dropLast := by rw [run_app]; rfl
      have n1 : (ls ++ [Lt.answer x]).length % 2 = 1 := by simp; omega
      have rp := List.length_pos_iff.mpr z
      have t2 := t1.snoc (l := .tell y) ⟨p0, p1, trivial⟩ (by rw [n1]; rfl) (fun _ e => by
        rw [r1] at e
        have := congrArg List.length e
        rw [List.length_dropLast] at this
        simp only [List.length_nil] at this
        omega)
      rw [List.append_assoc] at t2
      have r2 : (run [] (ls ++ ([.answer x] ++ [.tell y]))).length + 2 = (run [] ls).length := by
        rw [← List.append_assoc, run_app, r1]
        show ((run [] ls).dropLast.dropLast).length + 2 = _
        rw [List.length_dropLast, List.length_dropLast]
        omega
      obtain ⟨ls', a', z4, z5, e3, q1, q2, q3, q4, q5⟩ := shut_loop (k := k) fo hr (c - 1) m (N + 2) a2 (ls ++ ([.answer x] ++ [.tell y])) (some (.int x)) (some (.int y)) (by omega) (ok2.mono (by omega)) (by omega) t2 (by simp; omega) (by omega) (by simp; omega)
      refine ⟨ls', a', z4, z5, ?_, q1, q2, q3, by simp at q4; omega, q5.mono (by omega)⟩
      have ad := add_talk (xs := ls) (ys := [.answer x] ++ [.tell y]) (g := h.set r (HO a2)) (by simp; omega)
      have ad2 : fAdd false (talkW ls) (.tup [.tup [.str "answer", .int x], .tup [.str "tell", .int y]]) (h.set r (HO a2)) = .ok (talkW (ls ++ ([.answer x] ++ [.tell y]))) (h.set r (HO a2)) := ad
      have l2 : 2 ≤ lim := by decide
      rw [← e3]
      have dz : decide (run [] ls = []) = false := decide_eq_false z
      simp [-List.map_map, -List.map_append, dz, e1, e2, l2, ad2]
theorem shut_ok {k N : Nat} {h : WH} {r : Nat} {a : Hd} {f : Fc} {ls : List Lt} (fo : f.Ok) (hr : r < h.length) (h0 : h[r]? = some (HO a)) (ha : a.Ok N) (hN : N < 300000) (ht : TF f 0 [] ls) (hl : ls.length ≤ 17) :
    ∃ (ls' : List Lt) (a' : Hd), prg (k + 5) 20 [.ref r, spW f, faceW f, talkW ls] h = .ok (talkW ls') (h.set r (HO a')) ∧ TF f 0 [] ls' ∧ run [] ls' = [] ∧ ls'.length % 2 = 0 ∧ ls'.length ≤ 40 ∧ a'.Ok (N + 50) := by
  rw [prg_s, run_fin (show [W.ref r, spW f, faceW f, talkW ls].length = npT 20 from rfl)]
  have s0 := fo.s
  have bl : ∀ g : WH, bLen [talkW ls] g = .ok (.int ls.length) g := fun g => by simp [bLen, seqOf]
  have rl := run_len ls []
  simp only [List.length_nil, Nat.zero_add] at rl
  have gg : ∀ (ls : List Lt) (a' : Hd), gc h.length (talkW ls) h (h.set r (HO a')) = h.set r (HO a') := fun ls a' => gc_set
  have ed : d20 (prg (k + 4)) = sSeq _ (sSeq (whlL (shutC (prg (k + 4))) (shutB (prg (k + 4))) 40) (sSeq (sRet (dVar 3)) sNil)) := rfl
  have l1 : 1 ≤ lim := by decide
  have l2 : 2 ≤ lim := by decide
  by_cases hp : ls.length % 2 = 1
  · obtain ⟨x, a1, e1, x0, x1, ok1⟩ := take_ok (k := k + 3) (n := f.size) h0 ha (by omega) (by omega) (by omega)
    have pr := par_run ht
    simp only [List.length_nil, Nat.zero_add] at pr
    have t1 := ht.snoc (l := .tell x) ⟨x0, x1, trivial⟩ (by rw [hp]; rfl) (fun _ e => by rw [e] at pr; simp only [List.length_nil] at pr; omega)
    have r1 : (run [] (ls ++ [.tell x])).length ≤ 17 := by
      rw [run_app]
      simp only [run, List.foldl_cons, List.foldl_nil, step, Lt.pops, if_true, List.length_dropLast]
      have : (List.foldl step [] ls).length ≤ ls.length := rl
      omega
    obtain ⟨ls', a', z4, z5, e3, q1, q2, q3, q4, q5⟩ := shut_loop (k := k) fo hr 9 40 (N + 1) a1 (ls ++ [.tell x]) none none (by decide) ok1 (by omega) t1 (by simp; omega) (by omega) (by simp; omega)
    refine ⟨ls', a', ?_, q1, q2, q3, by simp at q4; omega, q5.mono (by omega)⟩
    have ad : ∀ g : WH, fAdd false (talkW ls) (.tup [.tup [.str "tell", .int x]]) g = .ok (talkW (ls ++ [.tell x])) g := fun g => add_talk (xs := ls) (ys := [.tell x]) (by simp; omega)
    have e5 : (ls.length : Int) % 2 = 1 := by omega
    simp [-List.map_map, -List.map_append, slT, npT, DD, ed, bl, e5, fEq, scalW, e1, l1, l2, ad, e3, gg]
  · obtain ⟨ls', a', z4, z5, e3, q1, q2, q3, q4, q5⟩ := shut_loop (k := k) fo hr 9 40 N a ls none none (by decide) ha (by omega) ht (by omega) (by omega) (by omega)
    refine ⟨ls', a', ?_, q1, q2, q3, by omega, q5.mono (by omega)⟩
    rw [← set_self h0] at e3
    have e5 : ¬ (ls.length : Int) % 2 = 1 := by omega
    simp [-List.map_map, -List.map_append, slT, npT, DD, ed, bl, e5, fEq, scalW, e3, gg]
end KW.P

set_option linter.all false
set_option maxRecDepth 100000
set_option maxHeartbeats 4000000
namespace KW.P
open PySem L2 KW TL
/-! ### talks, laid on one another -/
theorem step_frame {b st : List Lt} {l : Lt} (h : l.pops = true → st ≠ []) : step (b ++ st) l = b ++ step st l := by
  unfold step
  split
  · rename_i q
    rw [List.dropLast_append_of_ne_nil (h q)]
  · rw [List.append_assoc]
theorem TF.frame {f : Fc} {b : List Lt} : ∀ {xs st : List Lt} {p q : Nat}, TF f p st xs → p % 2 = q % 2 → TF f q (b ++ st) xs ∧ run (b ++ st) xs = b ++ run st xs
  | [], st, p, q, _, _ => ⟨trivial, rfl⟩
  | x :: xs, st, p, q, h, e => by
    obtain ⟨a1, a2, a3, a4⟩ := h
    obtain ⟨i1, i2⟩ := TF.frame (b := b) (q := q + 1) a4 (by omega)
    have sf := step_frame (b := b) a3
    refine ⟨⟨a1, by rw [a2, e], fun z => by simp [a3 z], by rw [sf]; exact i1⟩, ?_⟩
    show run (step (b ++ st) x) xs = b ++ run (step st x) xs
    rw [sf]; exact i2
theorem TF.take {f : Fc} {ls : List Lt} (h : TF f 0 [] ls) (i : Nat) : TF f 0 [] (ls.take i) := by
  rw [← List.take_append_drop i ls] at h
  exact (TF.app.mp h).1
theorem TF.join {f : Fc} {xs ys : List Lt} (h1 : TF f 0 [] xs) (h2 : TF f 0 [] ys) (hr : run [] xs = []) (he : xs.length % 2 = 0) : TF f 0 [] (xs ++ ys) ∧ run [] (xs ++ ys) = run [] ys := by
  obtain ⟨i1, i2⟩ := TF.frame (b := []) (q := xs.length) h2 (by omega)
  refine ⟨TF.app.mpr ⟨h1, ?_⟩, by rw [run_app, hr]⟩
  rw [hr, Nat.zero_add]; exact i1
/-- a whole talk put in at a move's turn -/
theorem TF.put {f : Fc} {xs ys ws : List Lt} (h : TF f 0 [] (xs ++ ys)) (hw : TF f 0 [] ws) (hr : run [] ws = []) (hw2 : ws.length % 2 = 0) (he : xs.length % 2 = 0) : TF f 0 [] (xs ++ ws ++ ys) ∧ run [] (xs ++ ws ++ ys) = run [] (xs ++ ys) := by
  obtain ⟨h1, h2⟩ := TF.app.mp h
  rw [Nat.zero_add] at h2
  obtain ⟨i1, i2⟩ := TF.frame (b := run [] xs) (q := xs.length) hw (by omega)
  rw [List.append_nil] at i1 i2
  rw [hr, List.append_nil] at i2
  obtain ⟨j1, j2⟩ := TF.frame (b := []) (q := (xs ++ ws).length) h2 (by simp; omega)
  simp only [List.nil_append] at j1 j2
  have rr : run [] (xs ++ ws) = run [] xs := by rw [run_app, i2]
  refine ⟨TF.app.mpr ⟨TF.app.mpr ⟨h1, by rw [Nat.zero_add]; exact i1⟩, ?_⟩, ?_⟩
  · rw [rr, Nat.zero_add]; exact j1
  · rw [run_app, rr, run_app]
/-- what is open: by turns a move's and a reply's -/
def Alt (f : Fc) (st : List Lt) : Prop := ∀ i l, st[i]? = some l → l.Ok f ∧ l.pops = false ∧ l.move = decide (i % 2 = 0)
theorem alt_run {f : Fc} : ∀ {xs st : List Lt} {p : Nat}, TF f p st xs → p % 2 = st.length % 2 → Alt f st → Alt f (run st xs)
  | [], st, p, _, _, h => h
  | x :: xs, st, p, ht, e, h => by
    obtain ⟨a1, a2, a3, a4⟩ := ht
    show Alt f (run (step st x) xs)
    cases hp : x.pops with
    | true =>
      have e1 : step st x = st.dropLast := by simp [step, hp]
      have := List.length_pos_iff.mpr (a3 hp)
      rw [e1] at a4 ⊢
      refine alt_run a4 (by rw [List.length_dropLast]; omega) fun i l hi => h i l ?_
      rw [List.dropLast_eq_take, List.getElem?_take] at hi
      split at hi
      · exact hi
      · cases hi
    | false =>
      have e1 : step st x = st ++ [x] := by simp [step, hp]
      rw [e1] at a4 ⊢
      refine alt_run a4 (by simp; omega) fun i l hi => ?_
      by_cases z : i < st.length
      · rw [List.getElem?_append_left z] at hi
        exact h i l hi
      · rw [List.getElem?_append_right (by omega)] at hi
        have : i - st.length = 0 := by
          have := (List.getElem?_eq_some_iff.mp hi).1
          simp at this; omega
        rw [this] at hi
        cases hi
        exact ⟨a1, hp, by rw [a2, e, show i = st.length from by omega]⟩
theorem alt_self {f : Fc} : ∀ {xs st : List Lt}, Alt f (st ++ xs) → TF f st.length st xs ∧ run st xs = st ++ xs
  | [], st, _ => ⟨trivial, by simp [run]⟩
  | x :: xs, st, h => by
    obtain ⟨a1, a2, a3⟩ := h st.length x (by simp)
    have e1 : step st x = st ++ [x] := by simp [step, a2]
    obtain ⟨i1, i2⟩ := alt_self (f := f) (xs := xs) (st := st ++ [x]) (by simpa using h)
    refine ⟨⟨a1, a3, (fun z => by rw [a2] at z; cases z), by rw [e1]; simpa using i1⟩, ?_⟩
    show run (step st x) xs = _
    rw [e1, i2]; simp
theorem open_self {f : Fc} {ls : List Lt} (h : TF f 0 [] ls) : TF f 0 [] (run [] ls) ∧ run [] (run [] ls) = run [] ls := by
  have a := alt_run h rfl (fun i l hi => by simp at hi)
  exact alt_self (st := []) (by simpa using a)
/-! cuts of talks -/
theorem cutT {ls : List Lt} {lo hi : Option Int} : cutW (ls.map Lt.w) lo hi = ((ls.drop (HT.sIx ls.length 0 lo)).take (HT.sIx ls.length ls.length hi - HT.sIx ls.length 0 lo)).map Lt.w := by simp [cutW]
theorem cutTo {ls : List Lt} {i : Nat} : cutW (ls.map Lt.w) none (some (i : Int)) = (ls.take i).map Lt.w := by
  rw [cutT]
  simp only [HT.sIx, if_neg (show ¬ (i : Int) < 0 by omega), Int.toNat_natCast, List.drop_zero, Nat.sub_zero]
  rcases Nat.le_total i ls.length with q | q
  · rw [Nat.min_eq_left q]
  · rw [Nat.min_eq_right q, List.take_of_length_le (Nat.le_refl _), List.take_of_length_le q]
theorem cutFrom {ls : List Lt} {i : Nat} : cutW (ls.map Lt.w) (some (i : Int)) none = (ls.drop i).map Lt.w := by
  rw [cutT]
  simp only [HT.sIx, if_neg (show ¬ (i : Int) < 0 by omega), Int.toNat_natCast]
  rw [List.take_of_length_le (by simp)]
  rcases Nat.le_total i ls.length with q | q
  · rw [Nat.min_eq_left q]
  · rw [Nat.min_eq_right q, List.drop_of_length_le (Nat.le_refl _), List.drop_of_length_le q]
theorem cutOne {ls : List Lt} {i : Nat} {l : Lt} (h : ls[i]? = some l) : cutW (ls.map Lt.w) (some (i : Int)) (some ((i : Int) + 1)) = [l.w] := by
  have hi := (List.getElem?_eq_some_iff.mp h).1
  rw [cutT]
  simp only [HT.sIx, if_neg (show ¬ (i : Int) < 0 by omega), if_neg (show ¬ (i : Int) + 1 < 0 by omega), Int.toNat_natCast, show ((i : Int) + 1).toNat = i + 1 from by omega, Nat.min_eq_left (Nat.le_of_lt hi), Nat.min_eq_left hi]
  rw [show i + 1 - i = 1 from by omega, List.drop_eq_getElem_cons hi, List.take_succ_cons, List.take_zero]
  have := (List.getElem?_eq_some_iff.mp h).2
  rw [this]; rfl
theorem cutLast {ls : List Lt} : cutW (ls.map Lt.w) none (some (-1)) = ls.dropLast.map Lt.w := by
  rw [cutT]
  simp only [HT.sIx, if_pos (show (-1 : Int) < 0 by decide), List.drop_zero, Nat.sub_zero]
  rw [show (-1 + (ls.length : Int)).toNat = ls.length - 1 from by omega, List.dropLast_eq_take]
end KW.P

set_option linter.all false
set_option maxRecDepth 100000
set_option maxHeartbeats 4000000
namespace KW.P
open PySem L2 KW TL
theorem hand_ok {k : Nat} {h : WH} {ns : List Int} {i : Nat} (hi : i < 3) : ∃ a : Hd, prg (k + 1) 12 [.scr ns, .int i] h = .ok (.ref h.length) (h ++ [HO a]) ∧ a.Ok 0 := by
  rw [prg_s, run_fin (show [W.scr ns, W.int i].length = npT 12 from rfl)]
  obtain ⟨c, hc⟩ : ∃ c : Int, (if (i : Int) < (ns.length : Int) then (match atI (ns.map W.int) (i : Int) with | some w => R.ok w h | none => .no) else .ok (.int 0) h) = .ok (.int c) h := by
    by_cases z : (i : Int) < (ns.length : Int)
    · have hz : i < ns.length := by omega
      refine ⟨ns[i], ?_⟩
      rw [if_pos z]
      have q : atI (ns.map W.int) (i : Int) = some (.int ns[i]) := atI_nat (by rw [List.getElem?_map, List.getElem?_eq_getElem hz]; rfl)
      rw [q]
    · exact ⟨0, by rw [if_neg z]⟩
  generalize hb : (if c < 0 then -c else c) = b
  have b0 : 0 ≤ b := by rw [← hb]; split <;> omega
  generalize ht : ((10 : Int) ^ 60) ^ 5 = t
  have t0 : 0 < t := by rw [← ht]; decide +kernel
  have t1 : t < 2 ^ 1000 := by rw [← ht]; decide +kernel
  have x0 : 0 ≤ b % t := Int.emod_nonneg _ (by omega)
  have x1 : b % t < t := Int.emod_lt_of_pos _ t0
  generalize hy : (if decide ((10 : Int) ^ 18 ≤ b) then (1 : Int) else 0) = y
  have y0 : y = 0 ∨ y = 1 := by rw [← hy]; split <;> simp
  have mm : mulB (b % t) y = true := mulB_of 1000 (by omega) (by omega) (by decide)
  have mi : mulB 104729 (i : Int) = true := mulB_of 100 (by omega) (by omega) (by decide)
  have p1 : powB 10 60 = true := by decide +kernel
  have p2 : powB (10 ^ 60) 5 = true := by decide +kernel
  have p3 : powB 10 18 = true := by decide +kernel
  refine ⟨⟨b % t * y, (c % 2305843009213693951 + 104729 * (i : Int) + 61) % 2305843009213693951, 0⟩, ?_, ?_, ⟨?_, ?_⟩, ⟨by show (0 : Int) ≤ 0; decide, by show (0 : Int) ≤ ((0 : Nat) : Int); decide⟩⟩
  · have l3 : 3 ≤ lim := by decide
    have bl : bLen [.scr ns] h = .ok (.int ns.length) h := by simp [bLen, seqOf]
    have ix : fIx (.scr ns) (.int (i : Int)) h = (match atI (ns.map W.int) (i : Int) with | some w => R.ok w h | none => .no) := rfl
    have e1 : ∀ sw : WS, sw[0]? = some (some (.scr ns)) → sw[1]? = some (some (.int i)) → dIf (dTst (dOp (fInt fun i j => decide (i < j)) (dVar 1) (dBi bLen (aCons (dVar 0) (aNil))))) (dOp fIx (dVar 0) (dVar 1)) (dC (.int 0)) sw h = .ok (.int c) h := fun sw a0 a1 => by
      rw [← hc]
      by_cases z : (i : Int) < (ns.length : Int)
      · have z2 : i < ns.length := by omega
        simp only [x_if, x_tst, x_op, x_var, a0, a1, x_bind, x_bi, x_cons, x_nil, bl, f_int, decide_eq_true z, if_true, ix, if_pos z]
      · simp only [x_if, x_tst, x_op, x_var, a0, a1, x_bind, x_bi, x_cons, x_nil, bl, f_int, decide_eq_false z, Bool.false_eq_true, if_false, x_c, if_neg z]
    have ab : ∀ g : WH, bAbs [.int c] g = .ok (.int b) g := fun g => by simp only [bAbs, hb]
    have bi : ∀ g : WH, bInt [.bl (decide ((10 : Int) ^ 18 ≤ b))] g = .ok (.int y) g := fun g => by simp only [bInt, hy]
    have q1 : ∀ g : WH, fPow (.int 10) (.int 60) g = .ok (.int (10 ^ 60)) g := fun g => by rw [f_pow, if_pos p1]; rfl
    have q2 : ∀ g : WH, fPow (.int (10 ^ 60)) (.int 5) g = .ok (.int t) g := fun g => by rw [f_pow, if_pos p2, ← ht]; rfl
    have q3 : ∀ g : WH, fPow (.int 10) (.int 18) g = .ok (.int (10 ^ 18)) g := fun g => by rw [f_pow, if_pos p3]; rfl
    have e2 : ∀ sw : WS, sw[2]? = some (some (.int c)) → dOp (fMul false) (dOp (fMod) (dBi bAbs (aCons (dVar 2) (aNil))) (dOp (fPow) (dOp (fPow) (dC (.int 10)) (dC (.int 60))) (dC (.int 5)))) (dBi bInt (aCons (dOp (fInt fun i j => decide (j ≤ i)) (dBi bAbs (aCons (dVar 2) (aNil))) (dOp (fPow) (dC (.int 10)) (dC (.int 18)))) (aNil))) sw h = .ok (.int (b % t * y)) h := fun sw a2 => by
      simp only [x_op, x_bi, x_cons, x_nil, x_var, a2, x_bind, x_c, ab, q1, q2, q3, f_mod, if_pos t0, f_int, bi, f_mul, mm, if_true]
    have rg : gc h.length (.ref h.length) h (h ++ [HO ⟨b % t * y, (c % 2305843009213693951 + 104729 * (i : Int) + 61) % 2305843009213693951, 0⟩]) = h ++ [HO ⟨b % t * y, (c % 2305843009213693951 + 104729 * (i : Int) + 61) % 2305843009213693951, 0⟩] := ref_gc (Nat.le_refl _)
    have ed : d12 (prg k) = sSeq (sSet 2 (dIf (dTst (dOp (fInt fun i j => decide (i < j)) (dVar 1) (dBi bLen (aCons (dVar 0) (aNil))))) (dOp fIx (dVar 0) (dVar 1)) (dC (.int 0)))) (sSeq (sSet 3 (dOp (fMul false) (dOp (fMod) (dBi bAbs (aCons (dVar 2) (aNil))) (dOp (fPow) (dOp (fPow) (dC (.int 10)) (dC (.int 60))) (dC (.int 5)))) (dBi bInt (aCons (dOp (fInt fun i j => decide (j ≤ i)) (dBi bAbs (aCons (dVar 2) (aNil))) (dOp (fPow) (dC (.int 10)) (dC (.int 18)))) (aNil))))) (sSeq (sRet (dLst true (aCons (dVar 3) (aCons (dOp (fMod) (dOp (fAdd false) (dOp (fAdd false) (dOp (fMod) (dVar 2) (dC (.int 2305843009213693951))) (dOp (fMul false) (dC (.int 104729)) (dVar 1))) (dC (.int 61))) (dC (.int 2305843009213693951))) (aCons (dC (.int 0)) (aNil)))))) sNil)) := rfl
    show fin h (d12 (prg k) [some (.scr ns), some (.int i), none, none] h) = _
    rw [ed, x_seq, x_set, e1 _ rfl rfl]
    simp only [x_st, q_next, x_seq, x_set]
    rw [e2 _ rfl]
    simp [mi, l3, rg]
  · show 0 ≤ b % t * y
    rcases y0 with rfl | rfl <;> omega
  · exact Int.emod_nonneg _ (by decide)
  · have := Int.emod_lt_of_pos (c % 2305843009213693951 + 104729 * (i : Int) + 61) (show (0 : Int) < 2305843009213693951 by decide)
    exact Int.lt_trans this (by decide)
end KW.P

set_option linter.all false
set_option maxRecDepth 100000
set_option maxHeartbeats 4000000
namespace KW.P
open PySem L2 KW TL
abbrev stepsB (Φ : Fns) : EW := (sSeq (sPar 3 4 (aCons (dCall (Φ 6) (aCons (dVar 0) (aCons (dSl false (dVar 1) (oNo) (oSome (dVar 2))) (aNil)))) (aCons (dCall (Φ 6) (aCons (dVar 0) (aCons (dSl false (dVar 1) (oNo) (oSome (dOp (fAdd false) (dVar 2) (dC (.int 1))))) (aNil)))) (aNil))))
 (sSeq (sSet 5 (dIf (dTst (dOp (fIn false) (dOp fIx (dOp fIx (dVar 1) (dVar 2)) (dC (.int 0))) (dTup (aCons (dC (.str ("knock" : Str))) (aCons (dC (.str ("ask" : Str))) (aNil)))))) (dOp (fAdd false) (dVar 3) (dSl false (dVar 1) (oSome (dVar 2)) (oSome (dOp (fAdd false) (dVar 2) (dC (.int 1)))))) (dSl false (dVar 3) (oNo) (oSome (dNeg (dC (.int 1)))))))
 (sSeq (sIf (dOrT (dTst (dOp (fEq true) (dVar 4) (dVar 5))) (dOrT (dTst (dOp (fIs true) (dCall (Φ 4) (aCons (dVar 0) (aCons (dSl false (dVar 1) (oNo) (oSome (dVar 2))) (aNil)))) (dC (.bl true)))) (dTst (dOp (fEq true) (dCall (Φ 5) (aCons (dVar 0) (aCons (dSl false (dVar 1) (oNo) (oSome (dVar 2))) (aNil)))) (dOp (fEq false) (dVar 3) (dTup (aNil))))))) (sSeq (sRet (dC (.bl false)))
 (sNil)) (sNil))
 (sNil))))
theorem isTrueB {b : Bool} {g : WH} : fIs true (.bl b) (.bl true) g = .ok (.bl (!b)) g := by cases b <;> rfl
theorem eqBools {a b : Bool} {neg : Bool} {g : WH} : fEq neg (.bl a) (.bl b) g = .ok (.bl (decide (a = b) != neg)) g := rfl
theorem eq_nil {f : Fc} (fo : f.Ok) {xs : List Lt} {neg : Bool} {g : WH} (hx : ∀ l ∈ xs, l.Ok f) : fEq neg (talkW xs) (.tup []) g = .ok (.bl (xs.isEmpty != neg)) g := by
  have := eq_talk (neg := neg) (g := g) (ys := []) fo hx (by simp)
  rw [List.map_nil] at this
  rw [this]
  cases xs <;> rfl
theorem f21 {k : Nat} {h : WH} {f : Fc} {ls : List Lt} (fo : f.Ok) (ht : TF f 0 [] ls) (hl : ls.length < 500) : prg (k + 6) 21 [faceW f, talkW ls] h = .ok (.bl true) h := by
  rw [prg_s, run_fin (show [faceW f, talkW ls].length = npT 21 from rfl)]
  obtain ⟨sw', h', e1, y2, y3, y4, y5, rfl, rfl⟩ := forL_run (src := none) (ws0 := rngW 0 ls.length) (t := tgW (.nm 2)) (items := rngW 0 ls.length) (h := h) (body := stepsB (prg (k + 5)))
    (sw := [some (faceW f), some (talkW ls), none, none, none, none])
    (fun i sw h' => ∃ y2 y3 y4 y5 : Option W, sw = [some (faceW f), some (talkW ls), y2, y3, y4, y5] ∧ h' = h)
    ⟨_, _, _, _, rfl, rfl⟩ (fun _ _ _ _ _ => rfl) (by
      rintro i w sw h' hw ⟨y2, y3, y4, y5, rfl, rfl⟩
      obtain ⟨rfl, hi⟩ := rng_get hw
      have el : ls[i]? = some ls[i] := List.getElem?_eq_getElem hi
      generalize hg : ls[i] = l at *
      have t1 := ht.take i
      have t2 := ht.take (i + 1)
      have n1 : (ls.take i).length < 1000 := by rw [List.length_take]; omega
      have n2 : (ls.take (i + 1)).length < 1000 := by rw [List.length_take]; omega
      have o1 := f6 (k := k + 1) (h := h') fo t1 n1
      have o2 := f6 (k := k + 1) (h := h') fo t2 n2
      have c1 := f4 (k := k + 1) (h := h') fo t1 n1
      have c2 := f5 (k := k) (h := h') fo t1 n1
      have rt := run_take el
      have s1 : fSl false (talkW ls) none (some (i : Int)) h' = .ok (talkW (ls.take i)) h' := by simp only [fSl, cutTo]
      have s2 : fSl false (talkW ls) none (some ((i : Int) + 1)) h' = .ok (talkW (ls.take (i + 1))) h' := by
        have := cutTo (ls := ls) (i := i + 1)
        rw [Int.natCast_add, Int.natCast_one] at this
        simp only [fSl, this]
      have s3 : fSl false (talkW ls) (some (i : Int)) (some ((i : Int) + 1)) h' = .ok (talkW [l]) h' := by simp only [fSl, cutOne el]; rfl
      have s4 : fSl false (talkW (run [] (ls.take i))) none (some (-1)) h' = .ok (talkW (run [] (ls.take i)).dropLast) h' := by simp only [fSl, cutLast]
      have ix : fIx (talkW ls) (.int (i : Int)) h' = .ok l.w h' := by
        have q : atI (ls.map Lt.w) (i : Int) = some l.w := atI_nat (by rw [List.getElem?_map, el]; rfl)
        simp only [f_ixT, q]
      have ix0 : fIx l.w (.int 0) h' = .ok (.str l.kind) h' := by cases l <;> rfl
      have rl := run_len (ls.take i) []
      simp only [List.length_nil, Nat.zero_add, List.length_take] at rl
      have ad : fAdd false (talkW (run [] (ls.take i))) (talkW [l]) h' = .ok (talkW (run [] (ls.take i) ++ [l])) h' := add_talk (by simp; omega)
      have e4 : fIn false (.str l.kind) (.tup [.str "knock", .str "ask"]) h' = .ok (.bl (!l.pops)) h' := by
        have := fin_strs (s := l.kind) (ss := ["knock", "ask"]) (g := h')
        rw [← kind_pops l]
        simpa using this
      have ee := eq_talk (neg := true) (g := h') fo (run_ok t2) (run_ok t2)
      have en := eq_nil (neg := false) (g := h') fo (run_ok t1)
      have l2 : 2 ≤ lim := by decide
      have l0 : 0 ≤ lim := by decide
      have dz : decide (run [] (ls.take (i + 1)) = run [] (ls.take (i + 1))) = true := decide_eq_true rfl
      rw [dz] at ee
      refine ⟨_, [some (faceW f), some (talkW ls), some (.int i), some (talkW (run [] (ls.take i))), some (talkW (run [] (ls.take (i + 1)))), some (talkW (run [] (ls.take (i + 1))))], h', rfl, .inl ?_, _, _, _, _, rfl, rfl⟩
      cases hp : l.pops with
      | true =>
        have e5 : step (run [] (ls.take i)) l = (run [] (ls.take i)).dropLast := by simp [step, hp]
        rw [hp] at e4
        rw [e5] at rt
        rw [← rt] at s4
        simp [-List.map_map, -List.map_take, -List.map_dropLast, o1, o2, s1, s2, ix, ix0, e4, s4, l2, l0, ee, c1, c2, isTrueB, eqBools, en]
      | false =>
        have e5 : step (run [] (ls.take i)) l = run [] (ls.take i) ++ [l] := by simp [step, hp]
        rw [hp] at e4
        rw [e5] at rt
        rw [← rt] at ad
        simp [-List.map_map, -List.map_take, -List.map_dropLast, o1, o2, s1, s2, s3, ix, ix0, e4, ad, l2, l0, ee, c1, c2, isTrueB, eqBools, en])
  have nl : (-(lim : Int) ≤ (ls.length : Int)) ∧ (ls.length : Int) ≤ (lim : Int) := by
    have : (lim : Int) = 1000000 := rfl
    omega
  have bl : bLen [talkW ls] h' = .ok (.int ls.length) h' := by simp [bLen, seqOf]
  have ed : d21 (prg (k + 5)) = sSeq (sFor (iRg1 (aCons (dBi bLen (aCons (dVar 1) (aNil))) (aNil))) (.nm 2) (stepsB (prg (k + 5)))) (sSeq (sRet (dC (.bl true))) sNil) := rfl
  simp [-List.map_map, slT, npT, DD, ed, bl, nl, e1]
end KW.P

set_option linter.all false
set_option maxRecDepth 10000000
set_option maxHeartbeats 4000000
namespace KW.P
open PySem L2 KW TL
theorem small17 : ∀ n : Nat, n < 18 → Builtin.Range.small 0 ((n : Int) + 1) 2 = true ∧ 0 ≤ Builtin.Range.rangeSize 0 ((n : Int) + 1) 2 ∧ cntC 0 ((n : Int) + 1) 2 = (n + 2) / 2 := by decide +kernel
theorem rg3_ok {e : EA} {sw : WS} {h h1 : WH} {i j c : Int} (he : e sw h = .ok [.int i, .int j, .int c] h1) (c0 : c ≠ 0) (c1 : c.natAbs < 100) (c2 : Builtin.Range.small i j c = true) (c3 : 0 ≤ Builtin.Range.rangeSize i j c) : iRg3 e sw h = .ok (rngC i c (cntC i j c), none) h1 := by
  unfold iRg3
  rw [he]
  exact if_pos ⟨c0, by omega, c2, c3⟩
theorem rngC_get {i n : Nat} {w : W} (h : (rngC 0 2 n)[i]? = some w) : w = .int ((2 * i : Nat) : Int) ∧ i < n := by
  have hi : i < n := by
    have := (List.getElem?_eq_some_iff.mp h).1
    simpa [rngC] using this
  simp only [rngC, List.getElem?_map, List.getElem?_range hi, Option.map_some, Option.some.injEq] at h
  exact ⟨by rw [← h]; simp; omega, hi⟩
abbrev rightB (Φ : Fns) : EW := (sSeq (sSet 8 (dOp (fAdd false) (dOp (fAdd false) (dSl false (dVar 3) (oNo) (oSome (dVar 7))) (dVar 4)) (dSl false (dVar 3) (oSome (dVar 7)) (oNo))))
 (sSeq (sIf (dOrT (dTst (dOp (fIs true) (dCall (Φ 4) (aCons (dVar 2) (aCons (dVar 8) (aNil)))) (dC (.bl true)))) (dTst (dOp (fEq true) (dCall (Φ 6) (aCons (dVar 2) (aCons (dVar 8) (aNil)))) (dVar 6)))) (sSeq (sRet (dC (.bl false)))
 (sNil)) (sNil))
 (sNil)))
abbrev rS1 (Φ : Fns) : EW := sSet 4 (dCall (Φ 20) (aCons (dVar 0) (aCons (dVar 1) (aCons (dVar 2) (aCons (dCall (Φ 19) (aCons (dVar 0) (aCons (dVar 1) (aCons (dCall (Φ 13) (aCons (dVar 0) (aCons (dC (.int 9)) (aNil)))) (aNil))))) (aNil))))))
abbrev rS2 (Φ : Fns) : EW := sPar 5 6 (aCons (dCall (Φ 20) (aCons (dVar 0) (aCons (dVar 1) (aCons (dVar 2) (aCons (dVar 3) (aNil)))))) (aCons (dCall (Φ 6) (aCons (dVar 2) (aCons (dVar 3) (aNil)))) (aNil)))
abbrev rS3 (Φ : Fns) : EW := sIf (dOrT (dNotT (dTru (dCall (Φ 21) (aCons (dVar 2) (aCons (dVar 3) (aNil)))))) (dOrT (dNotT (dTru (dCall (Φ 5) (aCons (dVar 2) (aCons (dVar 4) (aNil)))))) (dNotT (dTru (dCall (Φ 5) (aCons (dVar 2) (aCons (dVar 5) (aNil)))))))) (sSeq (sRet (dC (.bl false)))
 (sNil)) (sNil)
abbrev rS4 (Φ : Fns) : EW := sIf (dOrT (dTst (dOp (fEq true) (dCall (Φ 6) (aCons (dVar 2) (aCons (dVar 6) (aNil)))) (dVar 6))) (dNotT (dTru (dCall (Φ 5) (aCons (dVar 2) (aCons (dOp (fAdd false) (dOp (fAdd false) (dVar 5) (dVar 4)) (dVar 5)) (aNil))))))) (sSeq (sRet (dC (.bl false)))
 (sNil)) (sNil)
abbrev rS5 (Φ : Fns) : EW := sFor (iRg3 (aCons (dC (.int 0)) (aCons (dOp (fAdd false) (dBi bLen (aCons (dVar 3) (aNil))) (dC (.int 1))) (aCons (dC (.int 2)) (aNil))))) (.nm 7) (rightB Φ)
abbrev rS6 (Φ : Fns) : EW := sRet (dOp (fEq false) (dCall (Φ 5) (aCons (dVar 2) (aCons (dVar 3) (aNil)))) (dOp (fEq false) (dVar 6) (dTup (aNil))))
theorem right_ok {k N : Nat} {h : WH} {r : Nat} {a : Hd} {f : Fc} {ls : List Lt} (fo : f.Ok) (hr : r < h.length) (h0 : h[r]? = some (HO a)) (ha : a.Ok N) (hN : N < 200000) (ht : TF f 0 [] ls) (hl : ls.length ≤ 17) :
    ∃ (a' : Hd), prg (k + 7) 22 [.ref r, spW f, faceW f, talkW ls] h = .ok (.bl true) (h.set r (HO a')) ∧ a'.Ok (N + 200) := by
  rw [prg_s, run_fin (show [W.ref r, spW f, faceW f, talkW ls].length = npT 22 from rfl)]
  obtain ⟨n, a1, e1, n0, n1, ok1⟩ := take_ok (k := k + 5) (n := 9) h0 ha (by omega) (by decide) (by decide)
  obtain ⟨m, rfl⟩ : ∃ m : Nat, n = (m : Int) := ⟨n.toNat, by omega⟩
  obtain ⟨ws, a2, e2, tw, lw, ok2⟩ := talk_ok (k := k + 2) (n := m) fo (by simpa using hr) (List.getElem?_set_self (a := HO a1) hr) ok1 (by omega) (by omega)
  rw [List.set_set] at e2
  obtain ⟨wh, a3, e3, th, rh, ph, lh, ok3⟩ := shut_ok (k := k + 1) fo (by simpa using hr) (List.getElem?_set_self (a := HO a2) hr) ok2 (by omega) tw (by omega)
  rw [List.set_set] at e3
  obtain ⟨sh, a4, e4, ts, rs, ps, lsh, ok4⟩ := shut_ok (k := k + 1) fo (by simpa using hr) (List.getElem?_set_self (a := HO a3) hr) ok3 (by omega) ht (by omega)
  rw [List.set_set] at e4
  refine ⟨a4, ?_, ok4.mono (by omega)⟩
  generalize hg : h.set r (HO a4) = g at *
  have e6 := f6 (k := k + 2) (h := g) fo ht (by omega)
  have e21 := f21 (k := k) (h := g) fo ht (by omega)
  have e5a := f5 (k := k + 1) (h := g) fo th (by omega)
  have e5b := f5 (k := k + 1) (h := g) fo ts (by omega)
  obtain ⟨to, ro⟩ := open_self ht
  have lo := run_len ls []
  simp only [List.length_nil, Nat.zero_add] at lo
  have e6o := f6 (k := k + 2) (h := g) fo to (by omega)
  rw [ro] at e6o
  have eqo := eq_talk (neg := true) (g := g) fo (run_ok ht) (run_ok ht)
  have dz : decide (run [] ls = run [] ls) = true := decide_eq_true rfl
  rw [dz] at eqo
  obtain ⟨tj1, rj1⟩ := th.join ts rh ph
  obtain ⟨tj2, rj2⟩ := ts.join tj1 rs ps
  have rj : run [] (sh ++ (wh ++ sh)) = [] := by rw [rj2, rj1, rs]
  rw [← List.append_assoc] at tj2 rj
  have e5j := f5 (k := k + 1) (h := g) fo tj2 (by simp; omega)
  rw [rj] at e5j
  have ad1 : fAdd false (talkW sh) (talkW wh) g = .ok (talkW (sh ++ wh)) g := add_talk (by omega)
  have ad2 : fAdd false (talkW (sh ++ wh)) (talkW sh) g = .ok (talkW (sh ++ wh ++ sh)) g := add_talk (by simp; omega)
  have e5s := f5 (k := k + 1) (h := g) fo ht (by omega)
  have en := eq_nil (neg := false) (g := g) fo (run_ok ht)
  rw [rh] at e5a
  rw [rs] at e5b
  obtain ⟨sm1, sm2, sm3⟩ := small17 ls.length (by omega)
  obtain ⟨sw', h', e7, y7, y8, rfl, rfl⟩ := forL_run (src := none) (ws0 := rngC 0 2 (cntC 0 ((ls.length : Int) + 1) 2)) (t := tgW (.nm 7)) (items := rngC 0 2 (cntC 0 ((ls.length : Int) + 1) 2)) (h := g) (body := rightB (prg (k + 6)))
    (sw := [some (.ref r), some (spW f), some (faceW f), some (talkW ls), some (talkW wh), some (talkW sh), some (talkW (run [] ls)), none, none])
    (fun i sw h' => ∃ y7 y8 : Option W, sw = [some (.ref r), some (spW f), some (faceW f), some (talkW ls), some (talkW wh), some (talkW sh), some (talkW (run [] ls)), y7, y8] ∧ h' = g)
    ⟨_, _, rfl, rfl⟩ (fun _ _ _ _ _ => rfl) (by
      rintro i w sw h' hw ⟨y7, y8, rfl, rfl⟩
      obtain ⟨rfl, hi⟩ := rngC_get hw
      rw [sm3] at hi
      have hle : 2 * i ≤ ls.length := by omega
      have sp := List.take_append_drop (2 * i) ls
      have ht' := ht
      rw [← sp] at ht'
      obtain ⟨tp, rp⟩ := ht'.put th rh ph (by rw [List.length_take]; omega)
      rw [sp] at rp
      have lp : (ls.take (2 * i) ++ wh ++ ls.drop (2 * i)).length < 1000 := by simp; omega
      have q4 := f4 (k := k + 2) (h := h') fo tp lp
      have q6 := f6 (k := k + 2) (h := h') fo tp lp
      rw [rp] at q6
      have s1 : fSl false (talkW ls) none (some ((2 * i : Nat) : Int)) h' = .ok (talkW (ls.take (2 * i))) h' := by simp only [fSl, cutTo]
      have s2 : fSl false (talkW ls) (some ((2 * i : Nat) : Int)) none h' = .ok (talkW (ls.drop (2 * i))) h' := by simp only [fSl, cutFrom]
      have b1 : fAdd false (talkW (ls.take (2 * i))) (talkW wh) h' = .ok (talkW (ls.take (2 * i) ++ wh)) h' := add_talk (by simp; omega)
      have b2 : fAdd false (talkW (ls.take (2 * i) ++ wh)) (talkW (ls.drop (2 * i))) h' = .ok (talkW (ls.take (2 * i) ++ wh ++ ls.drop (2 * i))) h' := add_talk (by simp; omega)
      generalize ls.take (2 * i) ++ wh ++ ls.drop (2 * i) = jj at *
      generalize ((2 * i : Nat) : Int) = at_ at *
      refine ⟨_, [some (.ref r), some (spW f), some (faceW f), some (talkW ls), some (talkW wh), some (talkW sh), some (talkW (run [] ls)), some (.int at_), some (talkW jj)], h', rfl, .inl ?_, _, _, rfl, rfl⟩
      simp [-List.map_map, -List.map_take, -List.map_drop, -List.map_append, s1, s2, b1, b2, q4, q6, isTrueB, eqo])
  have bl : bLen [talkW ls] h' = .ok (.int ls.length) h' := by simp [bLen, seqOf]
  have l0 : 0 ≤ lim := by decide
  have gg : gc h.length (.bl true) h h' = h' := by rw [← hg]; exact gc_set
  have ed : d22 (prg (k + 6)) = sSeq (rS1 (prg (k + 6))) (sSeq (rS2 (prg (k + 6))) (sSeq (rS3 (prg (k + 6))) (sSeq (rS4 (prg (k + 6))) (sSeq (rS5 (prg (k + 6))) (sSeq (rS6 (prg (k + 6))) sNil))))) := rfl
  have z1 : rS1 (prg (k + 6)) [some (.ref r), some (spW f), some (faceW f), some (talkW ls), none, none, none, none, none] h = .ok (.next [some (.ref r), some (spW f), some (faceW f), some (talkW ls), some (talkW wh), none, none, none, none]) (h.set r (HO a3)) := by
    simp only [x_set, x_call, x_cons, x_var, x_nil, x_c, x_bind, List.getElem?_cons_zero, List.getElem?_cons_succ]
    rw [e1]; simp only [x_bind]; rw [e2]; simp only [x_bind]; rw [e3]; rfl
  have z2 : rS2 (prg (k + 6)) [some (.ref r), some (spW f), some (faceW f), some (talkW ls), some (talkW wh), none, none, none, none] (h.set r (HO a3)) = .ok (.next [some (.ref r), some (spW f), some (faceW f), some (talkW ls), some (talkW wh), some (talkW sh), some (talkW (run [] ls)), none, none]) h' := by
    simp only [x_par, x_call, x_cons, x_var, x_nil, x_c, x_bind, List.getElem?_cons_zero, List.getElem?_cons_succ]
    rw [e4]; simp only [x_bind]; rw [e6]; rfl
  have z3 : rS3 (prg (k + 6)) [some (.ref r), some (spW f), some (faceW f), some (talkW ls), some (talkW wh), some (talkW sh), some (talkW (run [] ls)), none, none] h' = .ok (.next [some (.ref r), some (spW f), some (faceW f), some (talkW ls), some (talkW wh), some (talkW sh), some (talkW (run [] ls)), none, none]) h' := by
    simp only [x_sif, x_orT, x_notT, x_tru, x_call, x_cons, x_var, x_nil, x_c, x_bind, List.getElem?_cons_zero, List.getElem?_cons_succ]
    rw [e21]; simp only [x_bind, truW]; rw [e5a]; simp only [x_bind, truW]; rw [e5b]; rfl
  have z4 : rS4 (prg (k + 6)) [some (.ref r), some (spW f), some (faceW f), some (talkW ls), some (talkW wh), some (talkW sh), some (talkW (run [] ls)), none, none] h' = .ok (.next [some (.ref r), some (spW f), some (faceW f), some (talkW ls), some (talkW wh), some (talkW sh), some (talkW (run [] ls)), none, none]) h' := by
    simp only [x_sif, x_orT, x_notT, x_tru, x_tst, x_op, x_call, x_cons, x_var, x_nil, x_c, x_bind, List.getElem?_cons_zero, List.getElem?_cons_succ]
    rw [e6o]; simp only [x_bind]; rw [eqo]; simp only [x_bind]; rw [ad1]; simp only [x_bind]; rw [ad2]; simp only [x_bind]; rw [e5j]; rfl
  have z5 : rS5 (prg (k + 6)) [some (.ref r), some (spW f), some (faceW f), some (talkW ls), some (talkW wh), some (talkW sh), some (talkW (run [] ls)), none, none] h' = .ok (.next [some (.ref r), some (spW f), some (faceW f), some (talkW ls), some (talkW wh), some (talkW sh), some (talkW (run [] ls)), y7, y8]) h' := by
    have q0 : aCons (dC (.int 0)) (aCons (dOp (fAdd false) (dBi bLen (aCons (dVar 3) (aNil))) (dC (.int 1))) (aCons (dC (.int 2)) (aNil))) [some (.ref r), some (spW f), some (faceW f), some (talkW ls), some (talkW wh), some (talkW sh), some (talkW (run [] ls)), none, none] h' = .ok [.int 0, .int ((ls.length : Int) + 1), .int 2] h' := by
      simp only [x_op, x_bi, x_cons, x_var, x_nil, x_c, x_bind, List.getElem?_cons_zero, List.getElem?_cons_succ, bl, f_add]
    have q1 := rg3_ok q0 (by decide) (by decide) sm1 sm2
    rw [rS5, x_for, q1, x_st]
    exact e7
  have z6 : rS6 (prg (k + 6)) [some (.ref r), some (spW f), some (faceW f), some (talkW ls), some (talkW wh), some (talkW sh), some (talkW (run [] ls)), y7, y8] h' = .ok (.ret (.bl true)) h' := by
    simp only [x_ret, x_op, x_call, x_cons, x_var, x_nil, x_c, x_bind, List.getElem?_cons_zero, List.getElem?_cons_succ, x_tup, List.length_nil, if_pos l0]
    rw [e5s]; simp only [x_bind]; rw [en]; simp only [x_bind, eqBools, x_st]
    simp
  show fin h (d22 (prg (k + 6)) [some (.ref r), some (spW f), some (faceW f), some (talkW ls), none, none, none, none, none] h) = _
  rw [ed, x_seq, z1, q_next, x_seq, z2, q_next, x_seq, z3, q_next, x_seq, z4, q_next, x_seq, z5, q_next, x_seq, z6, q_ret, fin_ret, gg]
end KW.P

set_option linter.all false
set_option maxRecDepth 100000
set_option maxHeartbeats 4000000
namespace KW.P
open PySem L2 KW TL
theorem en_get {h : WH} {x : Ob} : (h ++ [x])[h.length]? = some x := by simp
theorem en_set {h : WH} {x y : Ob} : (h ++ [x]).set h.length y = h ++ [y] := by
  rw [List.set_append_right _ _ (Nat.le_refl _)]; simp
abbrev lawI (Φ : Fns) : EW := (sSeq (sIf (dNotT (dTru (dCall (Φ 22) (aCons (dVar 2) (aCons (dVar 3) (aCons (dVar 4) (aCons (dCall (Φ 19) (aCons (dVar 2) (aCons (dVar 3) (aCons (dCall (Φ 13) (aCons (dVar 2) (aCons (dC (.int 17)) (aNil)))) (aNil))))) (aNil)))))))) (sSeq (sRet (dC (.bl false)))
 (sNil)) (sNil))
 (sNil))
abbrev lawB (Φ : Fns) : EW := (sSeq (sSet 2 (dCall (Φ 12) (aCons (dVar 0) (aCons (dVar 1) (aNil)))))
 (sSeq (sSet 3 (dCall (Φ 16) (aCons (dVar 2) (aCons (dC (.int 4)) (aNil)))))
 (sSeq (sSet 4 (dMk iniT valT Φ 0 (aCons (dOp fIx (dVar 3) (dC (.int 0))) (aCons (dOp fIx (dVar 3) (dC (.int 1))) (aCons (dOp fIx (dVar 3) (dC (.int 2))) (aNil))))))
 (sSeq (sFor (iRg1 (aCons (dC (.int 3)) (aNil))) (.nm 5) (lawI Φ))
 (sNil)))))
theorem turns_ok {h : WH} {a : Hd} {f : Fc} {w0 w1 w5 : Option W} (fo : f.Ok) (ha : a.Ok 100) : ∃ (y5 : Option W) (a' : Hd), forL none (rngW 0 3) (tgW (.nm 5)) (lawI (prg 29)) (rngW 0 3) [w0, w1, some (.ref h.length), some (spW f), some (faceW f), w5] (h ++ [HO a]) = .ok (.next [w0, w1, some (.ref h.length), some (spW f), some (faceW f), y5]) (h ++ [HO a']) := by
  obtain ⟨sw', h', e, y5, a', rfl, rfl, _⟩ := forL_run (src := none) (ws0 := rngW 0 3) (t := tgW (.nm 5)) (items := rngW 0 3) (h := h ++ [HO a]) (body := lawI (prg 29))
    (sw := [w0, w1, some (.ref h.length), some (spW f), some (faceW f), w5])
    (fun i sw h' => ∃ (y5 : Option W) (a' : Hd), sw = [w0, w1, some (.ref h.length), some (spW f), some (faceW f), y5] ∧ h' = h ++ [HO a'] ∧ a'.Ok (100 + 300 * i))
    ⟨_, _, rfl, rfl, ha⟩ (fun _ _ _ _ _ => rfl) (by
      rintro i w sw h' hw ⟨y5, a', rfl, rfl, ok⟩
      obtain ⟨rfl, hi⟩ := rng_get hw
      have hr : ∀ x : Ob, h.length < (h ++ [x]).length := fun x => by simp
      obtain ⟨n, a1, e1, n0, n1, ok1⟩ := take_ok (k := 28) (n := 17) (en_get (h := h) (x := HO a')) ok (by omega) (by decide) (by decide)
      obtain ⟨m, rfl⟩ : ∃ m : Nat, n = (m : Int) := ⟨n.toNat, by omega⟩
      rw [en_set] at e1
      obtain ⟨ls, a2, e2, tl, ll, ok2⟩ := talk_ok (k := 25) (n := m) fo (hr _) (en_get (h := h) (x := HO a1)) ok1 (by omega) (by omega)
      rw [en_set] at e2
      obtain ⟨a3, e3, ok3⟩ := right_ok (k := 22) fo (hr _) (en_get (h := h) (x := HO a2)) ok2 (by omega) tl (by omega)
      rw [en_set] at e3
      refine ⟨_, [w0, w1, some (.ref h.length), some (spW f), some (faceW f), some (.int i)], h ++ [HO a3], rfl, .inl ?_, _, a3, rfl, rfl, ok3.mono (by omega)⟩
      simp only [Nat.reduceAdd] at e1 e2 e3
      simp [-List.map_map, e1, e2, e3, truW])
  exact ⟨y5, a', e⟩
theorem plain (ns : List Int) (hl : ns.length ≤ 63) : ∃ h', prg 30 23 [.scr ns] [] = .ok (.bl true) h' := by
  obtain ⟨m, hm, m3⟩ : ∃ m : Nat, (if (if (ns.length : Int) < 3 then (ns.length : Int) else 3) > 1 then (if (ns.length : Int) < 3 then (ns.length : Int) else 3) else 1) = (m : Int) ∧ m ≤ 3 := by
    by_cases z : (ns.length : Int) < 3
    · rw [if_pos z]
      by_cases y : (ns.length : Int) > 1
      · exact ⟨ns.length, by rw [if_pos y], by omega⟩
      · exact ⟨1, by rw [if_neg y]; rfl, by decide⟩
    · rw [if_neg z]
      exact ⟨3, by decide, by decide⟩
  obtain ⟨sw', h', e, y1, y2, y3, y4, y5, rfl⟩ := forL_run (src := none) (ws0 := rngW 0 m) (t := tgW (.nm 1)) (items := rngW 0 m) (h := []) (body := lawB (prg 29))
    (sw := [some (.scr ns), none, none, none, none, none])
    (fun i sw h' => ∃ y1 y2 y3 y4 y5 : Option W, sw = [some (.scr ns), y1, y2, y3, y4, y5])
    ⟨_, _, _, _, _, rfl⟩ (fun _ _ _ _ _ => rfl) (by
      rintro i w sw h' hw ⟨y1, y2, y3, y4, y5, rfl⟩
      obtain ⟨rfl, hi⟩ := rng_get hw
      obtain ⟨a, e1, ok⟩ := hand_ok (k := 28) (h := h') (ns := ns) (i := i) (by omega)
      obtain ⟨f, a1, e2, fo, ok1⟩ := face_ok (k := 25) (h := h' ++ [HO a]) (r := h'.length) (by simp) en_get ok (by omega)
      rw [en_set] at e2
      have e3 := mk_face (k := 26) (h := h' ++ [HO a1]) fo
      obtain ⟨z5, a2, e4⟩ := turns_ok (h := h') (a := a1) (f := f) (w0 := some (.scr ns)) (w1 := some (.int i)) (w5 := y5) fo (ok1.mono (by omega))
      simp only [Nat.reduceAdd] at e1 e2 e3
      have l3 : (-(lim : Int) ≤ 3) ∧ (3 : Int) ≤ (lim : Int) := by
        have : (lim : Int) = 1000000 := rfl
        omega
      refine ⟨_, [some (.scr ns), some (.int i), some (.ref h'.length), some (spW f), some (faceW f), z5], h' ++ [HO a2], rfl, .inl ?_, _, _, _, _, _, rfl⟩
      simp [-List.map_map, e1, e2, e3, e4, l3, dMk])
  have nl : (-(lim : Int) ≤ (m : Int)) ∧ (m : Int) ≤ (lim : Int) := by
    have : (lim : Int) = 1000000 := rfl
    omega
  have bl : bLen [.scr ns] [] = .ok (.int ns.length) [] := by simp [bLen, seqOf]
  have b1 : bMin2 [.int 3, .int ns.length] [] = .ok (.int (if (ns.length : Int) < 3 then (ns.length : Int) else 3)) [] := rfl
  have b2 : bMax2 [.int 1, .int (if (ns.length : Int) < 3 then (ns.length : Int) else 3)] [] = .ok (.int m) [] := by
    show R.ok (W.int _) [] = _
    rw [← hm]
  refine Exists.intro ?hh ?pf
  case pf =>
    show runF (slT 23) (npT 23) (DD (prg 29) 23) [.scr ns] [] = _
    rw [run_fin (show [W.scr ns].length = npT 23 from rfl)]
    have ed : d23 (prg 29) = sSeq (sFor (iRg1 (aCons (dBi bMax2 (aCons (dC (.int 1)) (aCons (dBi bMin2 (aCons (dC (.int 3)) (aCons (dBi bLen (aCons (dVar 0) (aNil))) (aNil)))) (aNil)))) (aNil))) (.nm 1) (lawB (prg 29))) (sSeq (sRet (dC (.bl true))) sNil) := rfl
    show fin [] (d23 (prg 29) [some (.scr ns), none, none, none, none, none] []) = _
    rw [ed, x_seq, x_for, x_rg1]
    simp only [x_cons, x_bi, x_c, x_bind, x_var, List.getElem?_cons_zero, x_nil, bl, b1, b2, if_pos nl, x_st, Int.toNat_natCast, e, q_next, x_seq, x_ret, q_ret, fin_ret]
    rfl
end KW.P

namespace KW.P
open PySem L2 KW
theorem all_mk {l : PySem.W.OpenLaw} {w : World} {K : PySem.W.Frag} {h : Heap} {mg : Str → Option Value} {fa : Addr} (X : K.In h) (G : h.Ns mainGlobals mg) (hfa : mg "law" = some (.ref fa))
 {f0 f1 f2 f3 f4 f5 f6 f7 f8 f9 f10 f11 f12 f13 f14 f15 f16 f17 f18 f19 f20 f21 f22 f23 C0 : Addr} {od0 an0 : Option Addr} {sl0 : Array (Option Value)} {oc0 kV0 dc0 pm0 cd0 ct0 : Value} {od1 an1 : Option Addr} {sl1 : Array (Option Value)} {oc1 kV1 dc1 pm1 cd1 ct1 : Value} {od2 an2 : Option Addr} {sl2 : Array (Option Value)} {oc2 kV2 dc2 pm2 cd2 ct2 : Value} {od3 an3 : Option Addr} {sl3 : Array (Option Value)} {oc3 kV3 dc3 pm3 cd3 ct3 : Value} {od4 an4 : Option Addr} {sl4 : Array (Option Value)} {oc4 kV4 dc4 pm4 cd4 ct4 : Value} {od5 an5 : Option Addr} {sl5 : Array (Option Value)} {oc5 kV5 dc5 pm5 cd5 ct5 : Value} {od6 an6 : Option Addr} {sl6 : Array (Option Value)} {oc6 kV6 dc6 pm6 cd6 ct6 : Value} {od7 an7 : Option Addr} {sl7 : Array (Option Value)} {oc7 kV7 dc7 pm7 cd7 ct7 : Value} {od8 an8 : Option Addr} {sl8 : Array (Option Value)} {oc8 kV8 dc8 pm8 cd8 ct8 : Value} {od9 an9 : Option Addr} {sl9 : Array (Option Value)} {oc9 kV9 dc9 pm9 cd9 ct9 : Value} {od10 an10 : Option Addr} {sl10 : Array (Option Value)} {oc10 kV10 dc10 pm10 cd10 ct10 : Value} {od11 an11 : Option Addr} {sl11 : Array (Option Value)} {oc11 kV11 dc11 pm11 cd11 ct11 : Value} {od12 an12 : Option Addr} {sl12 : Array (Option Value)} {oc12 kV12 dc12 pm12 cd12 ct12 : Value} {od13 an13 : Option Addr} {sl13 : Array (Option Value)} {oc13 kV13 dc13 pm13 cd13 ct13 : Value} {od14 an14 : Option Addr} {sl14 : Array (Option Value)} {oc14 kV14 dc14 pm14 cd14 ct14 : Value} {od15 an15 : Option Addr} {sl15 : Array (Option Value)} {oc15 kV15 dc15 pm15 cd15 ct15 : Value} {od16 an16 : Option Addr} {sl16 : Array (Option Value)} {oc16 kV16 dc16 pm16 cd16 ct16 : Value} {od17 an17 : Option Addr} {sl17 : Array (Option Value)} {oc17 kV17 dc17 pm17 cd17 ct17 : Value} {od18 an18 : Option Addr} {sl18 : Array (Option Value)} {oc18 kV18 dc18 pm18 cd18 ct18 : Value} {od19 an19 : Option Addr} {sl19 : Array (Option Value)} {oc19 kV19 dc19 pm19 cd19 ct19 : Value} {od20 an20 : Option Addr} {sl20 : Array (Option Value)} {oc20 kV20 dc20 pm20 cd20 ct20 : Value} {od21 an21 : Option Addr} {sl21 : Array (Option Value)} {oc21 kV21 dc21 pm21 cd21 ct21 : Value} {od22 an22 : Option Addr} {sl22 : Array (Option Value)} {oc22 kV22 dc22 pm22 cd22 ct22 : Value} {od23 an23 : Option Addr} {sl23 : Array (Option Value)} {oc23 kV23 dc23 pm23 cd23 ct23 : Value} {tk0 : Tok} {tk1 : Tok} {tk2 : Tok} {tk3 : Tok} {tk4 : Tok} {tk5 : Tok} {tk6 : Tok} {tk7 : Tok} {tk8 : Tok} {tk9 : Tok}
 (aC0 : PySem.W.nsIn K mainGlobals "Face" = some (some (.ref C0)))
 (a0_0 : PySem.W.nsIn K mainGlobals "is_worth" = some (some (.ref f0)))
 (l0 : K.lookup f0 = some ⟨oc0, od0, .func (PySem.W.fnOf "is_worth" "is_worth" (defArgs t0) (defBody t0) (defScope t0) .none kV0 dc0 pm0 an0 cd0 ct0), sl0⟩)
 (c0 : PySem.W.codeIn K cd0 "is_worth" = true)
 (k0 : PySem.W.keepIn K (.ref f0) = true)
 (a1_0 : PySem.W.nsIn K mainGlobals "is_one_of" = some (some (.ref f1)))
 (l1 : K.lookup f1 = some ⟨oc1, od1, .func (PySem.W.fnOf "is_one_of" "is_one_of" (defArgs t1) (defBody t1) (defScope t1) .none kV1 dc1 pm1 an1 cd1 ct1), sl1⟩)
 (c1 : PySem.W.codeIn K cd1 "is_one_of" = true)
 (k1 : PySem.W.keepIn K (.ref f1) = true)
 (a2_0 : PySem.W.nsIn K mainGlobals "word_of" = some (some (.ref f2)))
 (l2 : K.lookup f2 = some ⟨oc2, od2, .func (PySem.W.fnOf "word_of" "word_of" (defArgs t2) (defBody t2) (defScope t2) .none kV2 dc2 pm2 an2 cd2 ct2), sl2⟩)
 (c2 : PySem.W.codeIn K cd2 "word_of" = true)
 (k2 : PySem.W.keepIn K (.ref f2) = true)
 (a3_0 : PySem.W.nsIn K mainGlobals "gone_through" = some (some (.ref f3)))
 (l3 : K.lookup f3 = some ⟨oc3, od3, .func (PySem.W.fnOf "gone_through" "gone_through" (defArgs t3) (defBody t3) (defScope t3) .none kV3 dc3 pm3 an3 cd3 ct3), sl3⟩)
 (c3 : PySem.W.codeIn K cd3 "gone_through" = true)
 (k3 : PySem.W.keepIn K (.ref f3) = true)
 (a4_0 : PySem.W.nsIn K mainGlobals "is_talk" = some (some (.ref f4)))
 (l4 : K.lookup f4 = some ⟨oc4, od4, .func (PySem.W.fnOf "is_talk" "is_talk" (defArgs t4) (defBody t4) (defScope t4) .none kV4 dc4 pm4 an4 cd4 ct4), sl4⟩)
 (c4 : PySem.W.codeIn K cd4 "is_talk" = true)
 (k4 : PySem.W.keepIn K (.ref f4) = true)
 (a5_0 : PySem.W.nsIn K mainGlobals "is_whole_talks" = some (some (.ref f5)))
 (l5 : K.lookup f5 = some ⟨oc5, od5, .func (PySem.W.fnOf "is_whole" "is_whole" (defArgs t5) (defBody t5) (defScope t5) .none kV5 dc5 pm5 an5 cd5 ct5), sl5⟩)
 (c5 : PySem.W.codeIn K cd5 "is_whole" = true)
 (k5 : PySem.W.keepIn K (.ref f5) = true)
 (a6_0 : PySem.W.nsIn K mainGlobals "opened" = some (some (.ref f6)))
 (l6 : K.lookup f6 = some ⟨oc6, od6, .func (PySem.W.fnOf "opened" "opened" (defArgs t6) (defBody t6) (defScope t6) .none kV6 dc6 pm6 an6 cd6 ct6), sl6⟩)
 (c6 : PySem.W.codeIn K cd6 "opened" = true)
 (k6 : PySem.W.keepIn K (.ref f6) = true)
 (a7_0 : PySem.W.nsIn K mainGlobals "is_whole" = some (some (.ref f7)))
 (a7_1 : PySem.W.nsIn K mainGlobals "is_whole_faces" = some (some (.ref f7)))
 (l7 : K.lookup f7 = some ⟨oc7, od7, .func (PySem.W.fnOf "is_whole" "is_whole" (defArgs t7) (defBody t7) (defScope t7) .none kV7 dc7 pm7 an7 cd7 ct7), sl7⟩)
 (c7 : PySem.W.codeIn K cd7 "is_whole" = true)
 (k7 : PySem.W.keepIn K (.ref f7) = true)
 (a8_0 : PySem.W.nsIn K mainGlobals "is_name" = some (some (.ref f8)))
 (l8 : K.lookup f8 = some ⟨oc8, od8, .func (PySem.W.fnOf "is_name" "is_name" (defArgs t8) (defBody t8) (defScope t8) .none kV8 dc8 pm8 an8 cd8 ct8), sl8⟩)
 (c8 : PySem.W.codeIn K cd8 "is_name" = true)
 (k8 : PySem.W.keepIn K (.ref f8) = true)
 (a9_0 : PySem.W.nsIn K mainGlobals "are_unlike" = some (some (.ref f9)))
 (l9 : K.lookup f9 = some ⟨oc9, od9, .func (PySem.W.fnOf "are_unlike" "are_unlike" (defArgs t9) (defBody t9) (defScope t9) .none kV9 dc9 pm9 an9 cd9 ct9), sl9⟩)
 (c9 : PySem.W.codeIn K cd9 "are_unlike" = true)
 (k9 : PySem.W.keepIn K (.ref f9) = true)
 (a10_0 : PySem.W.nsIn K mainGlobals "are_names" = some (some (.ref f10)))
 (l10 : K.lookup f10 = some ⟨oc10, od10, .func (PySem.W.fnOf "are_names" "are_names" (defArgs t10) (defBody t10) (defScope t10) .none kV10 dc10 pm10 an10 cd10 ct10), sl10⟩)
 (c10 : PySem.W.codeIn K cd10 "are_names" = true)
 (k10 : PySem.W.keepIn K (.ref f10) = true)
 (a11_0 : PySem.W.findIn K (.ref C0) "__init__" = some (some (.ref f11)))
 (i11 : PySem.W.isFn K (.ref f11) = true)
 (l11 : K.lookup f11 = some ⟨oc11, od11, .func (PySem.W.fnOf "__init__" "Face.__init__" (defArgs t11) (defBody t11) (defScope t11) .none kV11 dc11 pm11 an11 cd11 ct11), sl11⟩)
 (c11 : PySem.W.codeIn K cd11 "Face.__init__" = true)
 (k11 : PySem.W.keepIn K (.ref f11) = true)
 (a12_0 : PySem.W.nsIn K mainGlobals "_law_hand" = some (some (.ref f12)))
 (l12 : K.lookup f12 = some ⟨oc12, od12, .func (PySem.W.fnOf "_law_hand" "_law_hand" (defArgs t12) (defBody t12) (defScope t12) .none kV12 dc12 pm12 an12 cd12 ct12), sl12⟩)
 (c12 : PySem.W.codeIn K cd12 "_law_hand" = true)
 (k12 : PySem.W.keepIn K (.ref f12) = true)
 (a13_0 : PySem.W.nsIn K mainGlobals "_law_take" = some (some (.ref f13)))
 (l13 : K.lookup f13 = some ⟨oc13, od13, .func (PySem.W.fnOf "_law_take" "_law_take" (defArgs t13) (defBody t13) (defScope t13) .none kV13 dc13 pm13 an13 cd13 ct13), sl13⟩)
 (c13 : PySem.W.codeIn K cd13 "_law_take" = true)
 (k13 : PySem.W.keepIn K (.ref f13) = true)
 (a14_0 : PySem.W.nsIn K mainGlobals "_law_of" = some (some (.ref f14)))
 (l14 : K.lookup f14 = some ⟨oc14, od14, .func (PySem.W.fnOf "_law_of" "_law_of" (defArgs t14) (defBody t14) (defScope t14) .none kV14 dc14 pm14 an14 cd14 ct14), sl14⟩)
 (c14 : PySem.W.codeIn K cd14 "_law_of" = true)
 (k14 : PySem.W.keepIn K (.ref f14) = true)
 (a15_0 : PySem.W.nsIn K mainGlobals "_law_names" = some (some (.ref f15)))
 (l15 : K.lookup f15 = some ⟨oc15, od15, .func (PySem.W.fnOf "_law_names" "_law_names" (defArgs t15) (defBody t15) (defScope t15) .none kV15 dc15 pm15 an15 cd15 ct15), sl15⟩)
 (c15 : PySem.W.codeIn K cd15 "_law_names" = true)
 (k15 : PySem.W.keepIn K (.ref f15) = true)
 (a16_0 : PySem.W.nsIn K mainGlobals "_law_face" = some (some (.ref f16)))
 (l16 : K.lookup f16 = some ⟨oc16, od16, .func (PySem.W.fnOf "_law_face" "_law_face" (defArgs t16) (defBody t16) (defScope t16) .none kV16 dc16 pm16 an16 cd16 ct16), sl16⟩)
 (c16 : PySem.W.codeIn K cd16 "_law_face" = true)
 (k16 : PySem.W.keepIn K (.ref f16) = true)
 (a17_0 : PySem.W.nsIn K mainGlobals "_law_move" = some (some (.ref f17)))
 (l17 : K.lookup f17 = some ⟨oc17, od17, .func (PySem.W.fnOf "_law_move" "_law_move" (defArgs t17) (defBody t17) (defScope t17) .none kV17 dc17 pm17 an17 cd17 ct17), sl17⟩)
 (c17 : PySem.W.codeIn K cd17 "_law_move" = true)
 (k17 : PySem.W.keepIn K (.ref f17) = true)
 (a18_0 : PySem.W.nsIn K mainGlobals "_law_reply" = some (some (.ref f18)))
 (l18 : K.lookup f18 = some ⟨oc18, od18, .func (PySem.W.fnOf "_law_reply" "_law_reply" (defArgs t18) (defBody t18) (defScope t18) .none kV18 dc18 pm18 an18 cd18 ct18), sl18⟩)
 (c18 : PySem.W.codeIn K cd18 "_law_reply" = true)
 (k18 : PySem.W.keepIn K (.ref f18) = true)
 (a19_0 : PySem.W.nsIn K mainGlobals "_law_talk" = some (some (.ref f19)))
 (l19 : K.lookup f19 = some ⟨oc19, od19, .func (PySem.W.fnOf "_law_talk" "_law_talk" (defArgs t19) (defBody t19) (defScope t19) .none kV19 dc19 pm19 an19 cd19 ct19), sl19⟩)
 (c19 : PySem.W.codeIn K cd19 "_law_talk" = true)
 (k19 : PySem.W.keepIn K (.ref f19) = true)
 (a20_0 : PySem.W.nsIn K mainGlobals "_law_shut" = some (some (.ref f20)))
 (l20 : K.lookup f20 = some ⟨oc20, od20, .func (PySem.W.fnOf "_law_shut" "_law_shut" (defArgs t20) (defBody t20) (defScope t20) .none kV20 dc20 pm20 an20 cd20 ct20), sl20⟩)
 (c20 : PySem.W.codeIn K cd20 "_law_shut" = true)
 (k20 : PySem.W.keepIn K (.ref f20) = true)
 (a21_0 : PySem.W.nsIn K mainGlobals "_law_steps_right" = some (some (.ref f21)))
 (l21 : K.lookup f21 = some ⟨oc21, od21, .func (PySem.W.fnOf "_law_steps_right" "_law_steps_right" (defArgs t21) (defBody t21) (defScope t21) .none kV21 dc21 pm21 an21 cd21 ct21), sl21⟩)
 (c21 : PySem.W.codeIn K cd21 "_law_steps_right" = true)
 (k21 : PySem.W.keepIn K (.ref f21) = true)
 (a22_0 : PySem.W.nsIn K mainGlobals "_law_right" = some (some (.ref f22)))
 (l22 : K.lookup f22 = some ⟨oc22, od22, .func (PySem.W.fnOf "_law_right" "_law_right" (defArgs t22) (defBody t22) (defScope t22) .none kV22 dc22 pm22 an22 cd22 ct22), sl22⟩)
 (c22 : PySem.W.codeIn K cd22 "_law_right" = true)
 (k22 : PySem.W.keepIn K (.ref f22) = true)
 (a23_0 : PySem.W.nsIn K mainGlobals "law" = some (some (.ref f23)))
 (l23 : K.lookup f23 = some ⟨oc23, od23, .func (PySem.W.fnOf "law" "law" (defArgs t23) (defBody t23) (defScope t23) .none kV23 dc23 pm23 an23 cd23 ct23), sl23⟩)
 (c23 : PySem.W.codeIn K cd23 "law" = true)
 (k23 : PySem.W.keepIn K (.ref f23) = true)
 (pg0 : PySem.W.plainGet K C0 Str.empty = true)
 (hd0 : PySem.W.hasDictIn K C0 = true)
 (po0 : PySem.W.plainOver K C0 = true)
 (sa0 : PySem.W.findIn K (.ref C0) "__setattr__" = some (some (.builtin "object.__setattr__")))
 (mk0 : PySem.W.makesIn K C0 = true)
 (kc0 : PySem.W.keepIn K (.ref C0) = true)
 (n0_0 : PySem.W.findIn K (.ref C0) "size" = some none)
 (n0_1 : PySem.W.findIn K (.ref C0) "doors" = some none)
 (n0_2 : PySem.W.findIn K (.ref C0) "strangers" = some none)
 (q0 : PySem.W.nsIn K mainGlobals "ANSWER" = some (some (.str "answer" tk0)))
 (q1 : PySem.W.nsIn K mainGlobals "ASK" = some (some (.str "ask" tk1)))
 (q2 : PySem.W.nsIn K mainGlobals "KNOCK" = some (some (.str "knock" tk2)))
 (q3 : PySem.W.nsIn K mainGlobals "LETTERS" = some (some (.str "abcdefghijklmnopqrstuvwxyz" tk3)))
 (q4 : PySem.W.nsIn K mainGlobals "MAIN" = some (some (.str "main" tk4)))
 (q5 : PySem.W.nsIn K mainGlobals "MOST_DOORS" = some (some (.int 5 tk5)))
 (q6 : PySem.W.nsIn K mainGlobals "MOST_SIGNS" = some (some (.int 6 tk6)))
 (q7 : PySem.W.nsIn K mainGlobals "MOST_SIZE" = some (some (.int 4 tk7)))
 (q8 : PySem.W.nsIn K mainGlobals "MOST_STRANGERS" = some (some (.int 4 tk8)))
 (q9 : PySem.W.nsIn K mainGlobals "TELL" = some (some (.str "tell" tk9)))
 (z0 : PySem.W.nsIn K mainGlobals "abs" = some none)
 (z1 : PySem.W.nsIn K mainGlobals "all" = some none)
 (z2 : PySem.W.nsIn K mainGlobals "bool" = some none)
 (z3 : PySem.W.nsIn K mainGlobals "enumerate" = some none)
 (z4 : PySem.W.nsIn K mainGlobals "int" = some none)
 (z5 : PySem.W.nsIn K mainGlobals "isinstance" = some none)
 (z6 : PySem.W.nsIn K mainGlobals "len" = some none)
 (z7 : PySem.W.nsIn K mainGlobals "max" = some none)
 (z8 : PySem.W.nsIn K mainGlobals "min" = some none)
 (z9 : PySem.W.nsIn K mainGlobals "range" = some none)
 (z10 : PySem.W.nsIn K mainGlobals "set" = some none)
 (z11 : PySem.W.nsIn K mainGlobals "str" = some none)
 (z12 : PySem.W.nsIn K mainGlobals "tuple" = some none) :
 ∃ fd : FuncData, (∀ (s : Shared) (v : Value), BindsTo s fd ⟨[v], []⟩ [("_law_script", v)]) ∧ ∀ base : Heap, K.In base → base.Ns mainGlobals mg → FnOk l.prog w K mg base (L2.CX l.prog w) 60 fa fd ["_law_script"] (spL K) := by
  obtain rfl : f23 = fa := by
    have e := hfa.symm.trans (PySem.W.mg_of X G a23_0)
    cases e; rfl
  have F0 := fun_mk (st := t0) l0 c0 k0
  have F1 := fun_mk (st := t1) l1 c1 k1
  have F2 := fun_mk (st := t2) l2 c2 k2
  have F3 := fun_mk (st := t3) l3 c3 k3
  have F4 := fun_mk (st := t4) l4 c4 k4
  have F5 := fun_mk (st := t5) l5 c5 k5
  have F6 := fun_mk (st := t6) l6 c6 k6
  have F7 := fun_mk (st := t7) l7 c7 k7
  have F8 := fun_mk (st := t8) l8 c8 k8
  have F9 := fun_mk (st := t9) l9 c9 k9
  have F10 := fun_mk (st := t10) l10 c10 k10
  have F11 := fun_mk (st := t11) l11 c11 k11
  have F12 := fun_mk (st := t12) l12 c12 k12
  have F13 := fun_mk (st := t13) l13 c13 k13
  have F14 := fun_mk (st := t14) l14 c14 k14
  have F15 := fun_mk (st := t15) l15 c15 k15
  have F16 := fun_mk (st := t16) l16 c16 k16
  have F17 := fun_mk (st := t17) l17 c17 k17
  have F18 := fun_mk (st := t18) l18 c18 k18
  have F19 := fun_mk (st := t19) l19 c19 k19
  have F20 := fun_mk (st := t20) l20 c20 k20
  have F21 := fun_mk (st := t21) l21 c21 k21
  have F22 := fun_mk (st := t22) l22 c22 k22
  have F23 := fun_mk (st := t23) l23 c23 k23
  have T0 : Cls K C0 := ⟨pg0, hd0, po0, sa0⟩
  have gl : GEs (AA K (fun i => ([some f0, some f1, some f2, some f3, some f4, some f5, some f6, some f7, some f8, some f9, some f10, some f11, some f12, some f13, some f14, some f15, some f16, some f17, some f18, some f19, some f20, some f21, some f22, some f23] : List (Option Addr)).getD i none) (fun i => ([some C0] : List (Option Addr)).getD i none)) mg gtab := ⟨
    ge_str (PySem.W.mg_of X G q0),
    ge_str (PySem.W.mg_of X G q1),
    ⟨_, rfl, PySem.W.mg_of X G aC0⟩,
    ge_str (PySem.W.mg_of X G q2),
    ge_str (PySem.W.mg_of X G q3),
    ge_str (PySem.W.mg_of X G q4),
    ge_int (PySem.W.mg_of X G q5),
    ge_int (PySem.W.mg_of X G q6),
    ge_int (PySem.W.mg_of X G q7),
    ge_int (PySem.W.mg_of X G q8),
    ge_str (PySem.W.mg_of X G q9),
    ⟨_, rfl, PySem.W.mg_of X G a16_0⟩,
    ⟨_, rfl, PySem.W.mg_of X G a12_0⟩,
    ⟨_, rfl, PySem.W.mg_of X G a17_0⟩,
    ⟨_, rfl, PySem.W.mg_of X G a15_0⟩,
    ⟨_, rfl, PySem.W.mg_of X G a14_0⟩,
    ⟨_, rfl, PySem.W.mg_of X G a18_0⟩,
    ⟨_, rfl, PySem.W.mg_of X G a22_0⟩,
    ⟨_, rfl, PySem.W.mg_of X G a20_0⟩,
    ⟨_, rfl, PySem.W.mg_of X G a21_0⟩,
    ⟨_, rfl, PySem.W.mg_of X G a13_0⟩,
    ⟨_, rfl, PySem.W.mg_of X G a19_0⟩,
    PySem.W.mg_none_of X G z0,
    PySem.W.mg_none_of X G z1,
    ⟨_, rfl, PySem.W.mg_of X G a10_0⟩,
    ⟨_, rfl, PySem.W.mg_of X G a9_0⟩,
    PySem.W.mg_none_of X G z2,
    PySem.W.mg_none_of X G z3,
    ⟨_, rfl, PySem.W.mg_of X G a3_0⟩,
    PySem.W.mg_none_of X G z4,
    ⟨_, rfl, PySem.W.mg_of X G a8_0⟩,
    ⟨_, rfl, PySem.W.mg_of X G a1_0⟩,
    ⟨_, rfl, PySem.W.mg_of X G a4_0⟩,
    ⟨_, rfl, PySem.W.mg_of X G a7_1⟩,
    ⟨_, rfl, PySem.W.mg_of X G a5_0⟩,
    ⟨_, rfl, PySem.W.mg_of X G a0_0⟩,
    PySem.W.mg_none_of X G z5,
    PySem.W.mg_none_of X G z6,
    PySem.W.mg_none_of X G z7,
    PySem.W.mg_none_of X G z8,
    ⟨_, rfl, PySem.W.mg_of X G a6_0⟩,
    PySem.W.mg_none_of X G z9,
    PySem.W.mg_none_of X G z10,
    PySem.W.mg_none_of X G z11,
    PySem.W.mg_none_of X G z12,
    ⟨_, rfl, PySem.W.mg_of X G a2_0⟩, trivial⟩
  have FO : FldOk (AA K (fun i => ([some f0, some f1, some f2, some f3, some f4, some f5, some f6, some f7, some f8, some f9, some f10, some f11, some f12, some f13, some f14, some f15, some f16, some f17, some f18, some f19, some f20, some f21, some f22, some f23] : List (Option Addr)).getD i none) (fun i => ([some C0] : List (Option Addr)).getD i none)) := by
    refine ⟨fun c f g h1 h2 e => ?_, fun c C f e h => ?_, fun c C f e h => ?_⟩
    · have b : ∀ c f, layT c f = true → f < 3 := fun c f h => by
        unfold layT at h
        split at h <;> first | decide | cases h
      exact (by decide +kernel : ∀ f, f < 3 → ∀ g, g < 3 → fnmT f = fnmT g → f = g) f (b c f h1) g (b c g h2) e
    · have h : layT c f = true := h
      unfold layT at h
      split at h
      · cases e; exact n0_0
      · cases e; exact n0_1
      · cases e; exact n0_2
      · cases h
    · have h : layT c f = true := h
      unfold layT at h
      split at h
      · cases e; exact T0
      · cases e; exact T0
      · cases e; exact T0
      · cases h
  have PO : PgOk (AA K (fun i => ([some f0, some f1, some f2, some f3, some f4, some f5, some f6, some f7, some f8, some f9, some f10, some f11, some f12, some f13, some f14, some f15, some f16, some f17, some f18, some f19, some f20, some f21, some f22, some f23] : List (Option Addr)).getD i none) (fun i => ([some C0] : List (Option Addr)).getD i none)) l.prog w mg DD slT npT (fun i => ([PySem.W.fnOf "is_worth" "is_worth" (defArgs t0) (defBody t0) (defScope t0) .none kV0 dc0 pm0 an0 cd0 ct0, PySem.W.fnOf "is_one_of" "is_one_of" (defArgs t1) (defBody t1) (defScope t1) .none kV1 dc1 pm1 an1 cd1 ct1, PySem.W.fnOf "word_of" "word_of" (defArgs t2) (defBody t2) (defScope t2) .none kV2 dc2 pm2 an2 cd2 ct2, PySem.W.fnOf "gone_through" "gone_through" (defArgs t3) (defBody t3) (defScope t3) .none kV3 dc3 pm3 an3 cd3 ct3, PySem.W.fnOf "is_talk" "is_talk" (defArgs t4) (defBody t4) (defScope t4) .none kV4 dc4 pm4 an4 cd4 ct4, PySem.W.fnOf "is_whole" "is_whole" (defArgs t5) (defBody t5) (defScope t5) .none kV5 dc5 pm5 an5 cd5 ct5, PySem.W.fnOf "opened" "opened" (defArgs t6) (defBody t6) (defScope t6) .none kV6 dc6 pm6 an6 cd6 ct6, PySem.W.fnOf "is_whole" "is_whole" (defArgs t7) (defBody t7) (defScope t7) .none kV7 dc7 pm7 an7 cd7 ct7, PySem.W.fnOf "is_name" "is_name" (defArgs t8) (defBody t8) (defScope t8) .none kV8 dc8 pm8 an8 cd8 ct8, PySem.W.fnOf "are_unlike" "are_unlike" (defArgs t9) (defBody t9) (defScope t9) .none kV9 dc9 pm9 an9 cd9 ct9, PySem.W.fnOf "are_names" "are_names" (defArgs t10) (defBody t10) (defScope t10) .none kV10 dc10 pm10 an10 cd10 ct10, PySem.W.fnOf "__init__" "Face.__init__" (defArgs t11) (defBody t11) (defScope t11) .none kV11 dc11 pm11 an11 cd11 ct11, PySem.W.fnOf "_law_hand" "_law_hand" (defArgs t12) (defBody t12) (defScope t12) .none kV12 dc12 pm12 an12 cd12 ct12, PySem.W.fnOf "_law_take" "_law_take" (defArgs t13) (defBody t13) (defScope t13) .none kV13 dc13 pm13 an13 cd13 ct13, PySem.W.fnOf "_law_of" "_law_of" (defArgs t14) (defBody t14) (defScope t14) .none kV14 dc14 pm14 an14 cd14 ct14, PySem.W.fnOf "_law_names" "_law_names" (defArgs t15) (defBody t15) (defScope t15) .none kV15 dc15 pm15 an15 cd15 ct15, PySem.W.fnOf "_law_face" "_law_face" (defArgs t16) (defBody t16) (defScope t16) .none kV16 dc16 pm16 an16 cd16 ct16, PySem.W.fnOf "_law_move" "_law_move" (defArgs t17) (defBody t17) (defScope t17) .none kV17 dc17 pm17 an17 cd17 ct17, PySem.W.fnOf "_law_reply" "_law_reply" (defArgs t18) (defBody t18) (defScope t18) .none kV18 dc18 pm18 an18 cd18 ct18, PySem.W.fnOf "_law_talk" "_law_talk" (defArgs t19) (defBody t19) (defScope t19) .none kV19 dc19 pm19 an19 cd19 ct19, PySem.W.fnOf "_law_shut" "_law_shut" (defArgs t20) (defBody t20) (defScope t20) .none kV20 dc20 pm20 an20 cd20 ct20, PySem.W.fnOf "_law_steps_right" "_law_steps_right" (defArgs t21) (defBody t21) (defScope t21) .none kV21 dc21 pm21 an21 cd21 ct21, PySem.W.fnOf "_law_right" "_law_right" (defArgs t22) (defBody t22) (defScope t22) .none kV22 dc22 pm22 an22 cd22 ct22, PySem.W.fnOf "law" "law" (defArgs t23) (defBody t23) (defScope t23) .none kV23 dc23 pm23 an23 cd23 ct23] : List FuncData).getD i (PySem.W.fnOf "law" "law" (defArgs t23) (defBody t23) (defScope t23) .none kV23 dc23 pm23 an23 cd23 ct23)) (fun i => ([["face", "thing"], ["thing", "some"], ["face", "letter"], ["face", "rest", "frames"], ["face", "thing"], ["face", "thing"], ["face", "talk"], ["thing", "low", "high"], ["thing"], ["names"], ["thing", "low", "high"], ["self", "size", "doors", "strangers"], ["_law_script", "_law_k"], ["_law_hand_here", "_law_many"], ["_law_hand_here", "_law_some"], ["_law_hand_here", "_law_many"], ["_law_hand_here", "_law_most"], ["_law_hand_here", "_law_speech", "_law_many"], ["_law_hand_here", "_law_speech"], ["_law_hand_here", "_law_speech", "_law_many"], ["_law_hand_here", "_law_speech", "_law_made", "_law_spoken"], ["_law_made", "_law_spoken"], ["_law_hand_here", "_law_speech", "_law_made", "_law_spoken"], ["_law_script"]] : List (List Str)).getD i []) := by
    refine ⟨glob_of gl, fun f a e => ?_, fun c m f h => ?_, fun c f h => ?_⟩
    · match f, e with
      | 0, e => cases e; exact ⟨⟨_, _, t0, N0, F0, ⟨rfl, rfl, rfl, by decide +kernel, rfl, by decide +kernel, by decide +kernel⟩, rfl, rfl, fun Φ n X x C => w0 x C FO⟩, F0.binds fun _ _ _ _ _ _ us hl => match us, hl with | [_, _], _ => rfl⟩
      | 1, e => cases e; exact ⟨⟨_, _, t1, N1, F1, ⟨rfl, rfl, rfl, by decide +kernel, rfl, by decide +kernel, by decide +kernel⟩, rfl, rfl, fun Φ n X x C => w1 x C FO⟩, F1.binds fun _ _ _ _ _ _ us hl => match us, hl with | [_, _], _ => rfl⟩
      | 2, e => cases e; exact ⟨⟨_, _, t2, N2, F2, ⟨rfl, rfl, rfl, by decide +kernel, rfl, by decide +kernel, by decide +kernel⟩, rfl, rfl, fun Φ n X x C => w2 x C FO⟩, F2.binds fun _ _ _ _ _ _ us hl => match us, hl with | [_, _], _ => rfl⟩
      | 3, e => cases e; exact ⟨⟨_, _, t3, N3, F3, ⟨rfl, rfl, rfl, by decide +kernel, rfl, by decide +kernel, by decide +kernel⟩, rfl, rfl, fun Φ n X x C => w3 x C FO⟩, F3.binds fun _ _ _ _ _ _ us hl => match us, hl with | [_, _, _], _ => rfl⟩
      | 4, e => cases e; exact ⟨⟨_, _, t4, N4, F4, ⟨rfl, rfl, rfl, by decide +kernel, rfl, by decide +kernel, by decide +kernel⟩, rfl, rfl, fun Φ n X x C => w4 x C FO⟩, F4.binds fun _ _ _ _ _ _ us hl => match us, hl with | [_, _], _ => rfl⟩
      | 5, e => cases e; exact ⟨⟨_, _, t5, N5, F5, ⟨rfl, rfl, rfl, by decide +kernel, rfl, by decide +kernel, by decide +kernel⟩, rfl, rfl, fun Φ n X x C => w5 x C FO⟩, F5.binds fun _ _ _ _ _ _ us hl => match us, hl with | [_, _], _ => rfl⟩
      | 6, e => cases e; exact ⟨⟨_, _, t6, N6, F6, ⟨rfl, rfl, rfl, by decide +kernel, rfl, by decide +kernel, by decide +kernel⟩, rfl, rfl, fun Φ n X x C => w6 x C FO⟩, F6.binds fun _ _ _ _ _ _ us hl => match us, hl with | [_, _], _ => rfl⟩
      | 7, e => cases e; exact ⟨⟨_, _, t7, N7, F7, ⟨rfl, rfl, rfl, by decide +kernel, rfl, by decide +kernel, by decide +kernel⟩, rfl, rfl, fun Φ n X x C => w7 x C FO⟩, F7.binds fun _ _ _ _ _ _ us hl => match us, hl with | [_, _, _], _ => rfl⟩
      | 8, e => cases e; exact ⟨⟨_, _, t8, N8, F8, ⟨rfl, rfl, rfl, by decide +kernel, rfl, by decide +kernel, by decide +kernel⟩, rfl, rfl, fun Φ n X x C => w8 x C FO⟩, F8.binds fun _ _ _ _ _ _ us hl => match us, hl with | [_], _ => rfl⟩
      | 9, e => cases e; exact ⟨⟨_, _, t9, N9, F9, ⟨rfl, rfl, rfl, by decide +kernel, rfl, by decide +kernel, by decide +kernel⟩, rfl, rfl, fun Φ n X x C => w9 x C FO⟩, F9.binds fun _ _ _ _ _ _ us hl => match us, hl with | [_], _ => rfl⟩
      | 10, e => cases e; exact ⟨⟨_, _, t10, N10, F10, ⟨rfl, rfl, rfl, by decide +kernel, rfl, by decide +kernel, by decide +kernel⟩, rfl, rfl, fun Φ n X x C => w10 x C FO⟩, F10.binds fun _ _ _ _ _ _ us hl => match us, hl with | [_, _, _], _ => rfl⟩
      | 11, e => cases e; exact ⟨⟨_, _, t11, N11, F11, ⟨rfl, rfl, rfl, by decide +kernel, rfl, by decide +kernel, by decide +kernel⟩, rfl, rfl, fun Φ n X x C => w11 x C FO⟩, F11.binds fun _ _ _ _ _ _ us hl => match us, hl with | [_, _, _, _], _ => rfl⟩
      | 12, e => cases e; exact ⟨⟨_, _, t12, N12, F12, ⟨rfl, rfl, rfl, by decide +kernel, rfl, by decide +kernel, by decide +kernel⟩, rfl, rfl, fun Φ n X x C => w12 x C FO⟩, F12.binds fun _ _ _ _ _ _ us hl => match us, hl with | [_, _], _ => rfl⟩
      | 13, e => cases e; exact ⟨⟨_, _, t13, N13, F13, ⟨rfl, rfl, rfl, by decide +kernel, rfl, by decide +kernel, by decide +kernel⟩, rfl, rfl, fun Φ n X x C => w13 x C FO⟩, F13.binds fun _ _ _ _ _ _ us hl => match us, hl with | [_, _], _ => rfl⟩
      | 14, e => cases e; exact ⟨⟨_, _, t14, N14, F14, ⟨rfl, rfl, rfl, by decide +kernel, rfl, by decide +kernel, by decide +kernel⟩, rfl, rfl, fun Φ n X x C => w14 x C FO⟩, F14.binds fun _ _ _ _ _ _ us hl => match us, hl with | [_, _], _ => rfl⟩
      | 15, e => cases e; exact ⟨⟨_, _, t15, N15, F15, ⟨rfl, rfl, rfl, by decide +kernel, rfl, by decide +kernel, by decide +kernel⟩, rfl, rfl, fun Φ n X x C => w15 x C FO⟩, F15.binds fun _ _ _ _ _ _ us hl => match us, hl with | [_, _], _ => rfl⟩
      | 16, e => cases e; exact ⟨⟨_, _, t16, N16, F16, ⟨rfl, rfl, rfl, by decide +kernel, rfl, by decide +kernel, by decide +kernel⟩, rfl, rfl, fun Φ n X x C => w16 x C FO⟩, F16.binds fun _ _ _ _ _ _ us hl => match us, hl with | [_, _], _ => rfl⟩
      | 17, e => cases e; exact ⟨⟨_, _, t17, N17, F17, ⟨rfl, rfl, rfl, by decide +kernel, rfl, by decide +kernel, by decide +kernel⟩, rfl, rfl, fun Φ n X x C => w17 x C FO⟩, F17.binds fun _ _ _ _ _ _ us hl => match us, hl with | [_, _, _], _ => rfl⟩
      | 18, e => cases e; exact ⟨⟨_, _, t18, N18, F18, ⟨rfl, rfl, rfl, by decide +kernel, rfl, by decide +kernel, by decide +kernel⟩, rfl, rfl, fun Φ n X x C => w18 x C FO⟩, F18.binds fun _ _ _ _ _ _ us hl => match us, hl with | [_, _], _ => rfl⟩
      | 19, e => cases e; exact ⟨⟨_, _, t19, N19, F19, ⟨rfl, rfl, rfl, by decide +kernel, rfl, by decide +kernel, by decide +kernel⟩, rfl, rfl, fun Φ n X x C => w19 x C FO⟩, F19.binds fun _ _ _ _ _ _ us hl => match us, hl with | [_, _, _], _ => rfl⟩
      | 20, e => cases e; exact ⟨⟨_, _, t20, N20, F20, ⟨rfl, rfl, rfl, by decide +kernel, rfl, by decide +kernel, by decide +kernel⟩, rfl, rfl, fun Φ n X x C => w20 x C FO⟩, F20.binds fun _ _ _ _ _ _ us hl => match us, hl with | [_, _, _, _], _ => rfl⟩
      | 21, e => cases e; exact ⟨⟨_, _, t21, N21, F21, ⟨rfl, rfl, rfl, by decide +kernel, rfl, by decide +kernel, by decide +kernel⟩, rfl, rfl, fun Φ n X x C => w21 x C FO⟩, F21.binds fun _ _ _ _ _ _ us hl => match us, hl with | [_, _], _ => rfl⟩
      | 22, e => cases e; exact ⟨⟨_, _, t22, N22, F22, ⟨rfl, rfl, rfl, by decide +kernel, rfl, by decide +kernel, by decide +kernel⟩, rfl, rfl, fun Φ n X x C => w22 x C FO⟩, F22.binds fun _ _ _ _ _ _ us hl => match us, hl with | [_, _, _, _], _ => rfl⟩
      | 23, e => cases e; exact ⟨⟨_, _, t23, N23, F23, ⟨rfl, rfl, rfl, by decide +kernel, rfl, by decide +kernel, by decide +kernel⟩, rfl, rfl, fun Φ n X x C => w23 x C FO⟩, F23.binds fun _ _ _ _ _ _ us hl => match us, hl with | [_], _ => rfl⟩
      | n + 24, e => simp at e
    · have h : mtT c m = some f := h
      unfold mtT at h
      split at h
      · cases h
    · have h : iniT c = some f := h
      unfold iniT at h
      split at h
      · cases h; exact ⟨_, _, rfl, rfl, ⟨mk0, a11_0, i11, kc0⟩⟩
      · cases h
  refine ⟨PySem.W.fnOf "law" "law" (defArgs t23) (defBody t23) (defScope t23) .none kV23 dc23 pm23 an23 cd23 ct23, fun s v => .of_eq rfl, fun base _ _ => FnOk.imp (sem_ok (base := base) PO 30 23 f23 rfl) (spL_of (G := (AA K (fun i => ([some f0, some f1, some f2, some f3, some f4, some f5, some f6, some f7, some f8, some f9, some f10, some f11, some f12, some f13, some f14, some f15, some f16, some f17, some f18, some f19, some f20, some f21, some f22, some f23] : List (Option Addr)).getD i none) (fun i => ([some C0] : List (Option Addr)).getD i none)).toGx) plain)⟩
end KW.P
open PySem PySem.W PyProof.Rows
set_option maxRecDepth 100000 in
set_option maxHeartbeats 0 in
theorem PySem.Challenge.cw_knockamid_k15_whole_talks_cut_and_joined_holds : PySem.Challenge.rw_knockamid_k15_whole_talks_cut_and_joined.Holds := by
  w_on; o_law; k_head; (case hw => w_witness2)
  k_fill
  refine KW.walk (x := "_law_script") (k := 60) (l := PySem.Challenge.rw_knockamid_k15_whole_talks_cut_and_joined) rfl rfl ⟨rfl, by decide, by decide⟩ (fun w h Y => PySem.W.kIn_of Y) ?F
  case F =>
    intro w mg fa h KX G hmg
    refine' KW.P.all_mk KX G hmg ?aC0 ?a0_0 ?l0 ?c0 ?k0 ?a1_0 ?l1 ?c1 ?k1 ?a2_0 ?l2 ?c2 ?k2 ?a3_0 ?l3 ?c3 ?k3 ?a4_0 ?l4 ?c4 ?k4 ?a5_0 ?l5 ?c5 ?k5 ?a6_0 ?l6 ?c6 ?k6 ?a7_0 ?a7_1 ?l7 ?c7 ?k7 ?a8_0 ?l8 ?c8 ?k8 ?a9_0 ?l9 ?c9 ?k9 ?a10_0 ?l10 ?c10 ?k10 ?a11_0 ?i11 ?l11 ?c11 ?k11 ?a12_0 ?l12 ?c12 ?k12 ?a13_0 ?l13 ?c13 ?k13 ?a14_0 ?l14 ?c14 ?k14 ?a15_0 ?l15 ?c15 ?k15 ?a16_0 ?l16 ?c16 ?k16 ?a17_0 ?l17 ?c17 ?k17 ?a18_0 ?l18 ?c18 ?k18 ?a19_0 ?l19 ?c19 ?k19 ?a20_0 ?l20 ?c20 ?k20 ?a21_0 ?l21 ?c21 ?k21 ?a22_0 ?l22 ?c22 ?k22 ?a23_0 ?l23 ?c23 ?k23 ?pg0 ?hd0 ?po0 ?sa0 ?mk0 ?kc0 ?n0_0 ?n0_1 ?n0_2 ?q0 ?q1 ?q2 ?q3 ?q4 ?q5 ?q6 ?q7 ?q8 ?q9 ?z0 ?z1 ?z2 ?z3 ?z4 ?z5 ?z6 ?z7 ?z8 ?z9 ?z10 ?z11 ?z12
    (case aC0 => k_is)
    (case a0_0 => k_is)
    (case l0 => k_is)
    (case c0 => k_is)
    (case k0 => k_is)
    (case a1_0 => k_is)
    (case l1 => k_is)
    (case c1 => k_is)
    (case k1 => k_is)
    (case a2_0 => k_is)
    (case l2 => k_is)
    (case c2 => k_is)
    (case k2 => k_is)
    (case a3_0 => k_is)
    (case l3 => k_is)
    (case c3 => k_is)
    (case k3 => k_is)
    (case a4_0 => k_is)
    (case l4 => k_is)
    (case c4 => k_is)
    (case k4 => k_is)
    (case a5_0 => k_is)
    (case l5 => k_is)
    (case c5 => k_is)
    (case k5 => k_is)
    (case a6_0 => k_is)
    (case l6 => k_is)
    (case c6 => k_is)
    (case k6 => k_is)
    (case a7_0 => k_is)
    (case a7_1 => k_is)
    (case l7 => k_is)
    (case c7 => k_is)
    (case k7 => k_is)
    (case a8_0 => k_is)
    (case l8 => k_is)
    (case c8 => k_is)
    (case k8 => k_is)
    (case a9_0 => k_is)
    (case l9 => k_is)
    (case c9 => k_is)
    (case k9 => k_is)
    (case a10_0 => k_is)
    (case l10 => k_is)
    (case c10 => k_is)
    (case k10 => k_is)
    (case a11_0 => k_is)
    (case i11 => k_is)
    (case l11 => k_is)
    (case c11 => k_is)
    (case k11 => k_is)
    (case a12_0 => k_is)
    (case l12 => k_is)
    (case c12 => k_is)
    (case k12 => k_is)
    (case a13_0 => k_is)
    (case l13 => k_is)
    (case c13 => k_is)
    (case k13 => k_is)
    (case a14_0 => k_is)
    (case l14 => k_is)
    (case c14 => k_is)
    (case k14 => k_is)
    (case a15_0 => k_is)
    (case l15 => k_is)
    (case c15 => k_is)
    (case k15 => k_is)
    (case a16_0 => k_is)
    (case l16 => k_is)
    (case c16 => k_is)
    (case k16 => k_is)
    (case a17_0 => k_is)
    (case l17 => k_is)
    (case c17 => k_is)
    (case k17 => k_is)
    (case a18_0 => k_is)
    (case l18 => k_is)
    (case c18 => k_is)
    (case k18 => k_is)
    (case a19_0 => k_is)
    (case l19 => k_is)
    (case c19 => k_is)
    (case k19 => k_is)
    (case a20_0 => k_is)
    (case l20 => k_is)
    (case c20 => k_is)
    (case k20 => k_is)
    (case a21_0 => k_is)
    (case l21 => k_is)
    (case c21 => k_is)
    (case k21 => k_is)
    (case a22_0 => k_is)
    (case l22 => k_is)
    (case c22 => k_is)
    (case k22 => k_is)
    (case a23_0 => k_is)
    (case l23 => k_is)
    (case c23 => k_is)
    (case k23 => k_is)
    (case pg0 => k_is)
    (case hd0 => k_is)
    (case po0 => k_is)
    (case sa0 => k_is)
    (case mk0 => k_is)
    (case kc0 => k_is)
    (case n0_0 => k_is)
    (case n0_1 => k_is)
    (case n0_2 => k_is)
    (case q0 => k_is)
    (case q1 => k_is)
    (case q2 => k_is)
    (case q3 => k_is)
    (case q4 => k_is)
    (case q5 => k_is)
    (case q6 => k_is)
    (case q7 => k_is)
    (case q8 => k_is)
    (case q9 => k_is)
    (case z0 => k_is)
    (case z1 => k_is)
    (case z2 => k_is)
    (case z3 => k_is)
    (case z4 => k_is)
    (case z5 => k_is)
    (case z6 => k_is)
    (case z7 => k_is)
    (case z8 => k_is)
    (case z9 => k_is)
    (case z10 => k_is)
    (case z11 => k_is)
    (case z12 => k_is)
