import PyProof.Rows.All
import Wide.All
import OpenK.AllK
import Wide.FinOn
import HandS.ForMost
import HandS.TupAny
import HandS.Deep
import HandS.Wide
import HandS.IsInst
import KE.KDictKeyed
import HandS.Exc
import HandS.TupLe
import HandS.More
import PyProof.P3In
import HandS.Iter
import HandS.Conv
import KE.DataFind
import HandS.Dict
import KE.KDictDisplayH
import KE.KDictPairs
import KE.SortData
import PySem.Challenge.RW_viewwood_k93_whole_fewest_moves
import HandS.TupSets
import HandS.Head0
import HandS.Head1
import HandS.Head2
import HandS.HeadEnd
import HandS.HeadHook1
import HandS.HeadHook2
import HandS.HeadHook3
set_option Elab.async false
set_option linter.all false
set_option maxRecDepth 100000
/-! viewwood k93: tuples that are known to be bare (no dict of their own), as they are made. -/
namespace VW
open PySem PySem.Spec PyProof.Rows L2

structure PT0 (o : Obj) : Prop where
  d : o.dict = none
  s : o.slots = #[]
  c : o.cls = .type "tuple"
/-- a bare tuple stands at a -/
def TqT (H : Hp) (a : Addr) (xs : List V) : Prop := ∃ o, PT0 o ∧ H a = some (.frz o (.tup xs))
theorem TqT.sq {K : PySem.W.Frag} {H : Hp} {a : Addr} {xs : List V} (h : TqT H a xs) : SqT K H a xs := let ⟨o, _, e⟩ := h; .inl (.inr ⟨o, e⟩)
abbrev tupObj (its : List Value) : Obj := { cls := .type "tuple", data := .seq its.toArray }
theorem pt0_mk (its : List Value) : PT0 (tupObj its) := ⟨rfl, rfl, rfl⟩
section
variable {X : Cx} {pins : List (Addr × Obj)} {σ : L2.St} {H : Hp} {s : Shared}
theorem tup_laid {its : List Value} {xs : List V} {t : Nat} (I : Inv X pins σ H s) (r : Vals xs its) (z : xs.length ≤ sizeLine) :
    Inv X pins σ (upd H s.heap.objs.size (.frz (tupObj its) (.tup xs))) { s with heap := s.heap.push (tupObj its), toks := t } :=
  I.laid (t' := t) (a := s.heap.objs.size) (fun _ _ e => Heap.get?_push_of_some _ e) (Nat.le_refl _) ⟨Heap.get?_push_size _ rfl, z, its, r, IsTup.new s.heap its.toArray⟩
/-- what comes of a new bare tuple of xs -/
def NewT (xs : List V) (H : Hp) (Q : VK) : Prop := ∀ p o, H p = none → PT0 o → Q (.ref p) (upd H p (.frz o (.tup xs)))
theorem newT_go {its : List Value} {xs : List V} {Q : VK} (I : Inv X pins σ H s) (r : Vals xs its) (z : xs.length ≤ sizeLine) (q : NewT xs H Q) : EP X pins σ Q (.ref s.heap.objs.size) { s with heap := s.heap.push (tupObj its) } :=
  ⟨.ref s.heap.objs.size, _, tup_laid (t := s.toks) I r z, rfl, q _ _ (I.hok.fresh (Nat.le_refl _)) (pt0_mk its)⟩
end
section
variable {X : Cx}
def tTupF (t : TA) : TE := fun σ H Q => t σ H fun xs H1 => xs.length ≤ sizeLine ∧ NewT xs H1 Q
theorem pe_tupF {es : List Expr} {t : TA} {x1} {pos : Pos} (h : PA X es t) : PE X (.Tuple es x1 pos) (tTupF t) :=
  ⟨fun pins s σ H Q I hq => wpAny_Tuple_spliced (thn (h.run pos pins s σ H _ I hq) fun us s1 ⟨xs, H1, I1, r, z, q⟩ => ⟨by rw [← r.length]; exact z, newT_go I1 r z q⟩)⟩
/-- t + u -/
def rCatF (K : PySem.W.Frag) : R2 := fun x y H Q => ∃ a b xs ys, x = .ref a ∧ y = .ref b ∧ SqT K H a xs ∧ SqT K H b ys ∧ xs.length + ys.length ≤ sizeLine ∧
  (xs = [] → Q (.ref b) H) ∧ (xs ≠ [] → ys = [] → Q (.ref a) H) ∧ (xs ≠ [] → ys ≠ [] → NewT (xs ++ ys) H Q)
theorem op_catF : OpR X (binaryOp .Add) (rCatF X.K) := by
  rintro pins s σ H x y v u Q I rx ry ⟨a, b, xs, ys, rfl, rfl, ha, hb, hz, q0, q1, q2⟩
  obtain rfl : v = .ref a := rx
  obtain rfl : u = .ref b := ry
  obtain ⟨its, r1, p1, _⟩ := I.tuple ha
  obtain ⟨its2, r2, p2, _⟩ := I.tuple hb
  by_cases hx : xs = []
  · subst hx
    cases r1
    exact cat_tup0 p1 p2 ⟨.ref b, H, I, rfl, q0 rfl⟩
  · have hi : its ≠ [] := fun z => hx (r1.nil_iff.mp z)
    refine HT.cat_tup p1 p2 hi (fun z => ⟨.ref a, H, I, rfl, q1 hx (r2.nil_iff.mp z)⟩) (fun z => ?_) (by rw [← r1.length, ← r2.length]; exact hz)
    exact newT_go I (r1.append r2) (by rw [List.length_append]; exact hz) (q2 hx fun w => z (r2.nil_iff.mpr w))
/-- t[lo:hi] -/
def rSlF (K : PySem.W.Frag) : V → Option Int → Option Int → Hp → VK → Prop := fun x lo hi H Q => ∃ a xs, x = .ref a ∧ SqT K H a xs ∧
  (HT.sIx xs.length 0 lo = 0 ∧ HT.sIx xs.length xs.length hi = xs.length → Q (.ref a) H) ∧ (¬ (HT.sIx xs.length 0 lo = 0 ∧ HT.sIx xs.length xs.length hi = xs.length) → NewT (cutV xs lo hi) H Q)
theorem sl_tupF : SlR X (rSlF X.K) := by
  rintro pins s σ H x v vl vu lo hi sl Q I rx hs pl pu ⟨a, xs, rfl, hx, q1, q2⟩
  obtain rfl : v = .ref a := rx
  obtain ⟨its, r, ht, hz⟩ := I.tuple hx
  have hlen : its.toArray.size = xs.length := by rw [List.size_toArray]; exact r.length.symm
  refine ⟨"tuple", _, PyProof.Rows.slot_tuple_getitem.lookup, ht.typeIs, ?_⟩
  by_cases hw : HT.sIx xs.length 0 lo = 0 ∧ HT.sIx xs.length xs.length hi = xs.length
  · exact getItem_tuple_whole ht hs pl pu (by rw [hlen]; exact hw) ⟨.ref a, H, I, rfl, q1 hw⟩
  · refine HT.getItem_tuple_cut ht hs pl pu (by rw [hlen]; exact hw) ?_ (by rw [hlen]; exact hz)
    rw [hlen]
    exact newT_go I ((r.drop _).take _) (Nat.le_trans (cutV_length xs lo hi) hz) (q2 hw)
def rTupF (K : PySem.W.Frag) : List V → Hp → VK → Prop := fun xs H Q => ∃ p ys, xs = [.ref p] ∧ ((SqL K H p ys ∧ NewT ys H Q) ∨ (SqT K H p ys ∧ Q (.ref p) H))
theorem call_tupleF : CallR X (.type "tuple") (rTupF X.K) := by
  rintro pins s σ H xs us Q I r ⟨p, ys, rfl, h⟩
  obtain ⟨u, rfl, rx⟩ := vals1 r
  obtain rfl : u = .ref p := rx
  rcases h with ⟨hq, q⟩ | ⟨hq, q⟩
  · obtain ⟨its, r', pl, hz⟩ := I.list hq
    refine call_tuple_list pl.isList (fun h' kp => ?_) (by have := r'.length; simp only [List.size_toArray] <;> omega)
    have I1 : Inv X pins σ H { s with heap := h' } := I.kept (t' := s.toks) kp
    exact newT_go I1 r' hz q
  · obtain ⟨its, r', pl, hz⟩ := I.tuple hq
    exact call_tuple_same pl ⟨.ref p, H, I, rfl, q⟩
end
end VW

/-! viewwood k93: values and heaps of the meanings. -/
namespace VW
open PySem PySem.Spec PyProof.Rows L2

/-- a plain value: what a Python value stands for; ref i is the i-th object of the abstract heap, scr the script -/
inductive SV where
  | non
  | bl (b : Bool)
  | int (i : Int)
  | str (x : Str)
  | tup (xs : List SV)
  | ref (i : Nat)
  | scr (ns : List Int)

namespace SV
mutual
def beq : SV → SV → Bool
  | .non, .non => true
  | .bl a, .bl b => a == b
  | .int a, .int b => decide (a = b)
  | .str a, .str b => decide (a = b)
  | .tup a, .tup b => beqs a b
  | .ref a, .ref b => decide (a = b)
  | .scr a, .scr b => decide (a = b)
  | _, _ => false
def beqs : List SV → List SV → Bool
  | [], [] => true
  | a :: as, b :: bs => beq a b && beqs as bs
  | _, _ => false
end
mutual
theorem beq_self : ∀ a : SV, beq a a = true
  | .non => by simp [beq]
  | .bl _ => by simp [beq]
  | .int _ => by simp [beq]
  | .str _ => by simp [beq]
  | .tup xs => by rw [beq]; exact beqs_self xs
  | .ref _ => by simp [beq]
  | .scr _ => by simp [beq]
theorem beqs_self : ∀ a : List SV, beqs a a = true
  | [] => by simp [beqs]
  | a :: as => by rw [beqs, beq_self a, beqs_self as]; rfl
end
mutual
theorem eq_of_beq : ∀ a b : SV, beq a b = true → a = b
  | .non, b, h => by cases b <;> simp [beq] at h ⊢
  | .bl _, b, h => by cases b <;> simp [beq] at h ⊢; exact h
  | .int _, b, h => by cases b <;> simp [beq] at h ⊢; exact h
  | .str _, b, h => by cases b <;> simp [beq] at h ⊢; exact h
  | .tup xs, b, h => by
    cases b with
    | tup ys => rw [beq] at h; rw [eq_of_beqs xs ys h]
    | _ => simp [beq] at h
  | .ref _, b, h => by cases b <;> simp [beq] at h ⊢; exact h
  | .scr _, b, h => by cases b <;> simp [beq] at h ⊢; exact h
theorem eq_of_beqs : ∀ a b : List SV, beqs a b = true → a = b
  | [], b, h => by cases b <;> simp [beqs] at h ⊢
  | a :: as, b, h => by
    cases b with
    | nil => simp [beqs] at h
    | cons b bs =>
      rw [beqs, Bool.and_eq_true] at h
      rw [eq_of_beq a b h.1, eq_of_beqs as bs h.2]
end
end SV
instance : DecidableEq SV := fun a b => if h : SV.beq a b = true then .isTrue (SV.eq_of_beq a b h) else .isFalse fun e => h (e ▸ SV.beq_self a)

/-- an object of the abstract heap: a list; a dict by keys that are tuples; a dict by texts -/
inductive MO where
  | lst (xs : List SV)
  | dN (kvs : List (SV × SV))
  | dS (kvs : List (Str × SV))

abbrev Mu := List MO
abbrev En := List (Option SV)

/-- what is fixed: the program, the world, the written part, the script's address and its ints -/
structure Wd where
  P : Program
  w : World
  K : PySem.W.Frag
  sa : Addr
  S : List Int
structure Gs where
  sa : Addr
  S : List Int
abbrev wd (X : Cx) (g : Gs) : Wd := ⟨X.prog, X.w, X.K, g.sa, g.S⟩

mutual
inductive SR (W : Wd) (A : List Addr) (H : Hp) : V → SV → Prop
  | non : SR W A H .non .non
  | bl (b : Bool) : SR W A H (.bl b) (.bl b)
  | int (i : Int) : SR W A H (.int i) (.int i)
  | str (x : Str) : SR W A H (.str x) (.str x)
  | tup {a : Addr} {vs : List V} {xs : List SV} : TqT H a vs → SRs W A H vs xs → SR W A H (.ref a) (.tup xs)
  | ref {i : Nat} {a : Addr} : A[i]? = some a → SR W A H (.ref a) (.ref i)
  | scr : SR W A H (.ref W.sa) (.scr W.S)
inductive SRs (W : Wd) (A : List Addr) (H : Hp) : List V → List SV → Prop
  | nil : SRs W A H [] []
  | cons {v : V} {vs : List V} {x : SV} {xs : List SV} : SR W A H v x → SRs W A H vs xs → SRs W A H (v :: vs) (x :: xs)
end

/-- the tuples stay -/
def TK (_K : PySem.W.Frag) (H H' : Hp) : Prop := ∀ a o u, H a = some (.frz o u) → H' a = some (.frz o u)
theorem TqT.go {K : PySem.W.Frag} {H H' : Hp} (k : TK K H H') {a : Addr} {xs : List V} (h : TqT H a xs) : TqT H' a xs := let ⟨o, p, e⟩ := h; ⟨o, p, k _ _ _ e⟩
structure Stp (W : Wd) (A A' : List Addr) (H H' : Hp) : Prop where
  pre : ∃ B, A' = A ++ B
  tk : TK W.K H H'
theorem Stp.refl {W : Wd} {A : List Addr} {H : Hp} : Stp W A A H H := ⟨⟨[], by simp⟩, fun _ _ _ h => h⟩
theorem Stp.trans {W : Wd} {A B C : List Addr} {H H1 H2 : Hp} (a : Stp W A B H H1) (b : Stp W B C H1 H2) : Stp W A C H H2 := by
  obtain ⟨p, ep⟩ := a.pre
  obtain ⟨q, eq⟩ := b.pre
  exact ⟨⟨p ++ q, by rw [eq, ep, List.append_assoc]⟩, fun x o u h => b.tk x o u (a.tk x o u h)⟩
theorem Stp.get {W : Wd} {A A' : List Addr} {H H' : Hp} (s : Stp W A A' H H') {i : Nat} {a : Addr} (h : A[i]? = some a) : A'[i]? = some a := by
  obtain ⟨B, rfl⟩ := s.pre
  rw [List.getElem?_append_left (List.getElem?_eq_some_iff.mp h).1]
  exact h

mutual
theorem SR.mono {W : Wd} {A A' : List Addr} {H H' : Hp} (s : Stp W A A' H H') : ∀ {v : V} {x : SV}, SR W A H v x → SR W A' H' v x
  | _, _, .non => .non
  | _, _, .bl b => .bl b
  | _, _, .int i => .int i
  | _, _, .str x => .str x
  | _, _, .tup h hs => .tup (TqT.go s.tk h) (SRs.mono s hs)
  | _, _, .ref h => .ref (s.get h)
  | _, _, .scr => .scr
theorem SRs.mono {W : Wd} {A A' : List Addr} {H H' : Hp} (s : Stp W A A' H H') : ∀ {vs : List V} {xs : List SV}, SRs W A H vs xs → SRs W A' H' vs xs
  | _, _, .nil => .nil
  | _, _, .cons h hs => .cons (SR.mono s h) (SRs.mono s hs)
end
section
variable {W : Wd} {A A' : List Addr} {H H' : Hp}
theorem SRs.length : ∀ {vs : List V} {xs : List SV}, SRs W A H vs xs → vs.length = xs.length
  | _, _, .nil => rfl
  | _, _, .cons _ t => by simp [SRs.length t]
theorem SRs.get : ∀ {vs : List V} {xs : List SV} {i : Nat} {x : SV}, SRs W A H vs xs → xs[i]? = some x → ∃ v, vs[i]? = some v ∧ SR W A H v x
  | _, _, _, _, .nil, e => by simp at e
  | _, _, 0, _, .cons r _, e => by simp at e; subst e; exact ⟨_, rfl, r⟩
  | _, _, i + 1, x, .cons _ t, e => by
    obtain ⟨v, h1, h2⟩ := SRs.get (i := i) (x := x) t (by simpa using e)
    exact ⟨v, by simpa using h1, h2⟩
theorem SRs.getV : ∀ {vs : List V} {xs : List SV} {i : Nat} {v : V}, SRs W A H vs xs → vs[i]? = some v → ∃ x, xs[i]? = some x ∧ SR W A H v x
  | _, _, _, _, .nil, e => by simp at e
  | _, _, 0, _, .cons r _, e => by simp at e; subst e; exact ⟨_, rfl, r⟩
  | _, _, i + 1, x, .cons _ t, e => by
    obtain ⟨v, h1, h2⟩ := SRs.getV (i := i) (v := x) t (by simpa using e)
    exact ⟨v, by simpa using h1, h2⟩
theorem SRs.append : ∀ {vs us : List V} {xs ys : List SV}, SRs W A H vs xs → SRs W A H us ys → SRs W A H (vs ++ us) (xs ++ ys)
  | _, _, _, _, .nil, s => s
  | _, _, _, _, .cons r t, s => .cons r (SRs.append t s)
theorem SRs.take : ∀ {vs : List V} {xs : List SV} (n : Nat), SRs W A H vs xs → SRs W A H (vs.take n) (xs.take n)
  | _, _, 0, _ => .nil
  | _, _, _ + 1, .nil => .nil
  | _, _, n + 1, .cons r t => .cons r (SRs.take n t)
theorem SRs.drop : ∀ {vs : List V} {xs : List SV} (n : Nat), SRs W A H vs xs → SRs W A H (vs.drop n) (xs.drop n)
  | _, _, 0, r => r
  | _, _, _ + 1, .nil => .nil
  | _, _, n + 1, .cons _ t => SRs.drop n t
theorem SRs.set {v : V} {x : SV} (r : SR W A H v x) : ∀ {vs : List V} {xs : List SV} (i : Nat), SRs W A H vs xs → SRs W A H (vs.set i v) (xs.set i x)
  | _, _, _, .nil => .nil
  | _, _, 0, .cons _ t => .cons r t
  | _, _, i + 1, .cons q t => .cons q (SRs.set r i t)
theorem SRs.reverse {vs : List V} {xs : List SV} (h : SRs W A H vs xs) : SRs W A H vs.reverse xs.reverse := by
  induction xs generalizing vs with
  | nil => cases h; exact .nil
  | cons x xs ih =>
    cases h with
    | cons r t =>
      rw [List.reverse_cons, List.reverse_cons]
      exact (ih t).append (.cons r .nil)
theorem SRs.erase : ∀ {vs : List V} {xs : List SV} (i : Nat), SRs W A H vs xs → SRs W A H (vs.eraseIdx i) (xs.eraseIdx i)
  | _, _, _, .nil => .nil
  | _, _, 0, .cons _ t => t
  | _, _, i + 1, .cons q t => .cons q (SRs.erase i t)
theorem SRs.isEmpty {vs : List V} {xs : List SV} (h : SRs W A H vs xs) : vs.isEmpty = xs.isEmpty := by
  cases h <;> rfl
theorem SR.ex_tup {v : V} {xs : List SV} (h : SR W A H v (.tup xs)) : ∃ a vs, v = .ref a ∧ TqT H a vs ∧ SRs W A H vs xs := by
  cases h with
  | tup h hs => exact ⟨_, _, rfl, h, hs⟩
theorem SR.ex_int {v : V} {i : Int} (h : SR W A H v (.int i)) : v = .int i := by cases h; rfl
theorem SR.ex_bl {v : V} {i : Bool} (h : SR W A H v (.bl i)) : v = .bl i := by cases h; rfl
theorem SR.ex_str {v : V} {i : Str} (h : SR W A H v (.str i)) : v = .str i := by cases h; rfl
theorem SR.ex_non {v : V} (h : SR W A H v .non) : v = .non := by cases h; rfl
theorem SR.ex_ref {v : V} {i : Nat} (h : SR W A H v (.ref i)) : ∃ a, v = .ref a ∧ A[i]? = some a := by
  cases h with
  | ref h => exact ⟨_, rfl, h⟩
theorem SR.ex_scr {v : V} {ns : List Int} (h : SR W A H v (.scr ns)) : v = .ref W.sa ∧ ns = W.S := by cases h; exact ⟨rfl, rfl⟩
end

/-! ### keys -/
mutual
def keyOf : SV → Option NestedKey
  | .non => some .none
  | .int i => some (.num i)
  | .str x => some (.text x)
  | .tup xs => (keysOf xs).map .tup
  | .bl _ => none
  | .ref _ => none
  | .scr _ => none
def keysOf : List SV → Option (List NestedKey)
  | [] => some []
  | x :: xs => match keyOf x, keysOf xs with
    | some k, some ks => some (k :: ks)
    | _, _ => none
end

/-! ### dicts keyed by tuples -/
/-- at a stands a dict with these rows: a key, the address of its tuple, a value -/
def DNO (P : Program) (w : World) (a : Addr) (rows : List (NestedKey × Addr × V)) : HO := .ext fun h =>
  rows.length ≤ sizeLine ∧ (a == sysModules) = false ∧ ∃ xs : List (NestedKey × Addr × Value), Paired (fun (r : NestedKey × Addr × V) (x : NestedKey × Addr × Value) => r.1 = x.1 ∧ r.2.1 = x.2.1 ∧ RelV r.2.2 x.2.2) rows xs ∧
    ∃ o es ep, h.get? a = some o ∧ o.ExactDict ∧ o.data = .dict es ep ∧ es.toList = xs.map (entryOfKey (nestedKind P w)) ∧ (xs.map (·.1)).Nodup

def KR (W : Wd) (A : List Addr) (H : Hp) (a : Addr) (x : SV) (k : NestedKey) : Prop := k.depth ≤ 8 ∧ keyOf x = some k ∧ SR W A H (.ref a) x
def RowR (W : Wd) (A : List Addr) (H : Hp) (kv : SV × SV) (r : NestedKey × Addr × V) : Prop := KR W A H r.2.1 kv.1 r.1 ∧ SR W A H r.2.2 kv.2
def TxtR (W : Wd) (A : List Addr) (H : Hp) (kv : Str × SV) (p : Key × V) : Prop := p.1 = Sum.inr kv.1 ∧ SR W A H p.2 kv.2

def MR (W : Wd) (A : List Addr) (H : Hp) (a : Addr) : MO → Prop
  | .lst xs => ∃ vs, H a = some (.lst vs) ∧ SRs W A H vs xs
  | .dN kvs => ∃ rows, H a = some (DNO W.P W.w a rows) ∧ Paired (RowR W A H) kvs rows
  | .dS kvs => ∃ o ps, H a = some (.frz o (.dK ps)) ∧ Paired (TxtR W A H) kvs ps

def ScrOk (W : Wd) (A : List Addr) (H : Hp) : Prop :=
  (Rd H W.sa (.lst (W.S.map V.int)) ∧ W.sa ∉ A) ∨
    ∃ (o : Obj) (its : Array Value) (n : Nat), W.K.lookup W.sa = some o ∧ o.cls = .type "list" ∧ o.dict = none ∧ o.data = .seq its n ∧ its.size ≤ sizeLine ∧ Vals (W.S.map V.int) its.toList
theorem ScrOk.sq {W : Wd} {A : List Addr} {H : Hp} (h : ScrOk W A H) : SqL W.K H W.sa (W.S.map V.int) := by
  rcases h with ⟨h, _⟩ | h
  · exact .inl h
  · exact .inr h

structure Rl (W : Wd) (A : List Addr) (H : Hp) (m : Mu) : Prop where
  len : A.length = m.length
  nd : A.Nodup
  ob : ∀ (i : Nat) (a : Addr) (o : MO), A[i]? = some a → m[i]? = some o → MR W A H a o
  sc : ScrOk W A H
  bd : W.S.length ≤ 63

section
variable {W : Wd} {A A' : List Addr} {H H' : Hp} {m : Mu}
theorem rd_there {H : Hp} {a : Addr} {u : HO} (h : Rd H a u) : ∃ o, H a = some o := by
  rcases h with h | ⟨o, h⟩ <;> exact ⟨_, h⟩
theorem rd_same {H H' : Hp} {a : Addr} {u : HO} (h : Rd H a u) (e : H' a = H a) : Rd H' a u := by
  rcases h with h | ⟨o, h⟩
  · exact .inl (e.trans h)
  · exact .inr ⟨o, e.trans h⟩
theorem MR.there {a : Addr} {o : MO} (h : MR W A H a o) : ∃ u, H a = some u := by
  cases o with
  | lst xs => obtain ⟨vs, e, _⟩ := h; exact ⟨_, e⟩
  | dN kvs => obtain ⟨vs, e, _⟩ := h; exact ⟨_, e⟩
  | dS kvs => obtain ⟨o, vs, e, _⟩ := h; exact ⟨_, e⟩
theorem MR.mono {a : Addr} {o : MO} (h : MR W A H a o) (s : Stp W A A' H H') (e : H' a = H a) : MR W A' H' a o := by
  cases o with
  | lst xs =>
    obtain ⟨vs, e1, r⟩ := h
    exact ⟨vs, e.trans e1, r.mono s⟩
  | dN kvs =>
    obtain ⟨rows, e1, r⟩ := h
    exact ⟨rows, e.trans e1, L2.Paired.mapP r fun p q z => ⟨⟨z.1.1, z.1.2.1, z.1.2.2.mono s⟩, z.2.mono s⟩⟩
  | dS kvs =>
    obtain ⟨o, ps, e1, r⟩ := h
    exact ⟨o, ps, e.trans e1, L2.Paired.mapP r fun p q z => ⟨z.1, z.2.mono s⟩⟩
theorem Rl.there (R : Rl W A H m) {a : Addr} (h : a ∈ A) : ∃ u, H a = some u := by
  obtain ⟨i, hi, e⟩ := List.getElem_of_mem h
  have e1 : A[i]? = Option.some a := by rw [List.getElem?_eq_getElem hi, e]
  have hi2 : i < m.length := by rw [← R.len]; exact hi
  exact (R.ob i a _ e1 (List.getElem?_eq_getElem hi2)).there
theorem Rl.fresh (R : Rl W A H m) {p : Addr} (h : H p = none) : p ∉ A := fun hp => by
  obtain ⟨u, e⟩ := R.there hp
  rw [h] at e; cases e
theorem tk_upd {K : PySem.W.Frag} {H : Hp} {p : Addr} {o : HO} (h : H p = none) : TK K H (upd H p o) := fun a b u e => (upd_ne (ne_of_none e h)).trans e
/-- a change of what is not fixed -/
theorem tk_write {K : PySem.W.Frag} {H : Hp} {p : Addr} {o u : HO} (h : H p = some u) (_n1 : ∀ xs, u ≠ .tup xs) (n2 : ∀ b v, u ≠ .frz b v) : TK K H (upd H p o) := fun a b v e => by
  refine (upd_ne fun z => ?_).trans e
  subst z
  rw [h] at e
  exact n2 _ _ (Option.some.inj e)
theorem Stp.new {p : Addr} {o : HO} (h : H p = none) : Stp W A (A ++ [p]) H (upd H p o) := ⟨⟨[p], rfl⟩, tk_upd h⟩
theorem Stp.tup {p : Addr} {o : HO} (h : H p = none) : Stp W A A H (upd H p o) := ⟨⟨[], by simp⟩, tk_upd h⟩
/-- a new thing beside -/
theorem Rl.beside (R : Rl W A H m) {p : Addr} {o : HO} (h : H p = none) : Rl W A (upd H p o) m := by
  refine ⟨R.len, R.nd, fun i a u e1 e2 => ?_, ?_, R.bd⟩
  · have q := R.ob i a u e1 e2
    obtain ⟨x, e⟩ := q.there
    exact q.mono (Stp.tup h) (upd_ne (ne_of_none e h))
  · rcases R.sc with ⟨q, n⟩ | q
    · obtain ⟨x, e⟩ := rd_there q
      exact .inl ⟨rd_same q (upd_ne (ne_of_none e h)), n⟩
    · exact .inr q
/-- a new object of the heap -/
theorem Rl.alloc (R : Rl W A H m) {p : Addr} {o : HO} {u : MO} (h : H p = none) (hu : MR W (A ++ [p]) (upd H p o) p u) : Rl W (A ++ [p]) (upd H p o) (m ++ [u]) := by
  have hp := R.fresh h
  refine ⟨by simp [R.len], ?_, fun i a x e1 e2 => ?_, ?_, R.bd⟩
  · rw [List.nodup_append]
    exact ⟨R.nd, by simp, fun a ha b hb e => by simp at hb; subst hb; subst e; exact hp ha⟩
  · have hl := R.len
    rcases Nat.lt_or_ge i A.length with z | z
    · rw [List.getElem?_append_left z] at e1
      rw [List.getElem?_append_left (by omega)] at e2
      have q := R.ob i a x e1 e2
      obtain ⟨y, e⟩ := q.there
      exact q.mono (Stp.new h) (upd_ne (ne_of_none e h))
    · rw [List.getElem?_append_right z] at e1
      rw [List.getElem?_append_right (by omega)] at e2
      have hi : i - A.length = 0 := by
        have := (List.getElem?_eq_some_iff.mp e1).1
        simp at this
        omega
      rw [hi] at e1
      rw [← hl, hi] at e2
      simp at e1 e2
      subst e1 e2
      exact hu
  · rcases R.sc with ⟨q, n⟩ | q
    · obtain ⟨x, e⟩ := rd_there q
      refine .inl ⟨rd_same q (upd_ne (ne_of_none e h)), fun z => ?_⟩
      rcases List.mem_append.mp z with z | z
      · exact n z
      · simp at z
        rw [z, h] at e; cases e
    · exact .inr q
/-- an object is changed -/
theorem Rl.write (R : Rl W A H m) {i : Nat} {a : Addr} {o : HO} {u : MO} {ho : HO} (ha : A[i]? = some a) (h : H a = some ho) (n1 : ∀ xs, ho ≠ .tup xs) (n2 : ∀ b v, ho ≠ .frz b v) (hu : MR W A (upd H a o) a u) :
    Rl W A (upd H a o) (m.set i u) ∧ Stp W A A H (upd H a o) := by
  have st : Stp W A A H (upd H a o) := ⟨⟨[], by simp⟩, tk_write h n1 n2⟩
  refine ⟨⟨by simp [R.len], R.nd, fun j b x e1 e2 => ?_, ?_, R.bd⟩, st⟩
  · by_cases hj : j = i
    · subst hj
      rw [ha] at e1; cases e1
      have hl : j < m.length := by rw [← R.len]; exact (List.getElem?_eq_some_iff.mp ha).1
      rw [List.getElem?_set_self hl] at e2; cases e2
      exact hu
    · rw [List.getElem?_set_ne (Ne.symm hj)] at e2
      refine (R.ob j b x e1 e2).mono st (upd_ne fun e => hj ?_)
      subst e
      obtain ⟨h1, e1'⟩ := List.getElem?_eq_some_iff.mp e1
      obtain ⟨h2, e2'⟩ := List.getElem?_eq_some_iff.mp ha
      exact (List.getElem_inj R.nd).mp (e1'.trans e2'.symm)
  · rcases R.sc with ⟨q, n⟩ | q
    · exact .inl ⟨rd_same q (upd_ne fun e => n (by rw [e]; exact List.mem_of_getElem? ha)), n⟩
    · exact .inr q
theorem Rl.lst (R : Rl W A H m) {i : Nat} {a : Addr} {xs : List SV} (ha : A[i]? = some a) (e : m[i]? = some (.lst xs)) : ∃ vs, H a = some (.lst vs) ∧ SRs W A H vs xs := R.ob i a _ ha e
end

/-! ### slots -/
def EnR (W : Wd) (A : List Addr) (H : Hp) (s : L2.St) (r : En) : Prop := s.length = r.length ∧ ∀ (i : Nat) (x : SV), r[i]? = some (some x) → ∃ v, s[i]? = some (some v) ∧ SR W A H v x
section
variable {W : Wd} {A A' : List Addr} {H H' : Hp} {m : Mu} {s : L2.St} {r : En}
theorem EnR.mono (h : EnR W A H s r) (st : Stp W A A' H H') : EnR W A' H' s r := ⟨h.1, fun i x e => let ⟨v, e1, q⟩ := h.2 i x e; ⟨v, e1, q.mono st⟩⟩
theorem EnR.set (h : EnR W A H s r) {v : V} {x : SV} (q : SR W A H v x) (i : Nat) : EnR W A H (s.set i (some v)) (r.set i (some x)) := by
  refine ⟨by simp [h.1], fun j y e => ?_⟩
  by_cases hj : j = i
  · subst hj
    have hl : j < r.length := by
      have := (List.getElem?_eq_some_iff.mp e).1
      simpa using this
    rw [List.getElem?_set_self hl] at e
    cases e
    exact ⟨v, List.getElem?_set_self (by rw [h.1]; exact hl), q⟩
  · rw [List.getElem?_set_ne (Ne.symm hj)] at e
    rw [List.getElem?_set_ne (Ne.symm hj)]
    exact h.2 j y e
/-- names forgotten -/
def wipeE (r : En) : List Nat → En
  | [] => r
  | v :: vs => (wipeE r vs).set v none
theorem EnR.unset (h : EnR W A H s r) (i : Nat) : EnR W A H (s.set i none) (r.set i none) := by
  refine ⟨by simp [h.1], fun j y e => ?_⟩
  by_cases hj : j = i
  · subst hj
    have hl : j < r.length := by
      have := (List.getElem?_eq_some_iff.mp e).1
      simpa using this
    rw [List.getElem?_set_self hl] at e
    cases e
  · rw [List.getElem?_set_ne (Ne.symm hj)] at e
    rw [List.getElem?_set_ne (Ne.symm hj)]
    exact h.2 j y e
theorem EnR.wipe (h : EnR W A H s r) : ∀ vs : List Nat, EnR W A H (wipe s vs) (wipeE r vs)
  | [] => h
  | v :: vs => (EnR.wipe h vs).unset v
theorem EnR.get (h : EnR W A H s r) {i : Nat} {x : SV} (e : r[i]? = some (some x)) : ∃ v, s[i]? = some (some v) ∧ SR W A H v x := h.2 i x e
end
end VW

/-! viewwood k93: meanings of expressions, tests, statements; one soundness lemma a construct. -/
namespace VW
open PySem PySem.Spec PyProof.Rows L2

abbrev DE := En → Mu → Option (SV × Mu)
abbrev DA := En → Mu → Option (List SV × Mu)
abbrev DT := En → Mu → Option (Bool × Mu)
inductive Out where
  | nx (r : En)
  | rt (x : SV)
  | bk (r : En)
  | ct (r : En)
abbrev DS := En → Mu → Option (Out × Mu)
abbrev DF := List SV → Mu → Option (SV × Mu)

/-! ### what is wanted behind -/
def FinV (W : Wd) (A : List Addr) (H : Hp) (m' : Mu) (x : SV) (Q : VK) : Prop := ∀ v H' A', Stp W A A' H H' → Rl W A' H' m' → SR W A' H' v x → Q v H'
def FinA (W : Wd) (A : List Addr) (H : Hp) (m' : Mu) (xs : List SV) (Q : List V → Hp → Prop) : Prop := ∀ vs H' A', Stp W A A' H H' → Rl W A' H' m' → SRs W A' H' vs xs → Q vs H'
def FinT (W : Wd) (A : List Addr) (H : Hp) (m' : Mu) (Q : Hp → Prop) : Prop := ∀ H' A', Stp W A A' H H' → Rl W A' H' m' → Q H'
def FinE (W : Wd) (A : List Addr) (H : Hp) (m' : Mu) (r : En) (Q : L2.St → Hp → Prop) : Prop := ∀ s H' A', Stp W A A' H H' → Rl W A' H' m' → EnR W A' H' s r → Q s H'
def FinS (W : Wd) (A : List Addr) (H : Hp) (m' : Mu) (o : Out) (D : Ends) : Prop :=
  match o with
  | .nx r => FinE W A H m' r D.nx
  | .rt x => FinV W A H m' x D.rt
  | .bk r => FinE W A H m' r D.bk
  | .ct r => FinE W A H m' r D.ct
section
variable {W : Wd} {A A1 : List Addr} {H H1 : Hp} {m : Mu}
theorem FinV.after {x : SV} {Q : VK} (k : FinV W A H m x Q) (s : Stp W A A1 H H1) : FinV W A1 H1 m x Q := fun v H' A' s' => k v H' A' (s.trans s')
theorem FinA.after {x : List SV} {Q} (k : FinA W A H m x Q) (s : Stp W A A1 H H1) : FinA W A1 H1 m x Q := fun v H' A' s' => k v H' A' (s.trans s')
theorem FinT.after {Q : Hp → Prop} (k : FinT W A H m Q) (s : Stp W A A1 H H1) : FinT W A1 H1 m Q := fun H' A' s' => k H' A' (s.trans s')
theorem FinE.after {r : En} {Q} (k : FinE W A H m r Q) (s : Stp W A A1 H H1) : FinE W A1 H1 m r Q := fun v H' A' s' => k v H' A' (s.trans s')
theorem FinS.after {o : Out} {D : Ends} (k : FinS W A H m o D) (s : Stp W A A1 H H1) : FinS W A1 H1 m o D := by
  cases o with
  | nx r => exact FinE.after k s
  | rt x => exact FinV.after k s
  | bk r => exact FinE.after k s
  | ct r => exact FinE.after k s
theorem FinV.now {x : SV} {Q : VK} {v : V} (k : FinV W A H m x Q) (R : Rl W A H m) (h : SR W A H v x) : Q v H := k v H A .refl R h
end

/-! ### readings -/
def tD (W : Wd) (F : DE) : TE := fun s H Q => ∃ A r m x m', Rl W A H m ∧ EnR W A H s r ∧ F r m = some (x, m') ∧ FinV W A H m' x Q
def tA (W : Wd) (F : DA) : TA := fun s H Q => ∃ A r m xs m', Rl W A H m ∧ EnR W A H s r ∧ F r m = some (xs, m') ∧ FinA W A H m' xs Q
def tT (W : Wd) (F : DT) : TT := fun s H Q => ∃ A r m b m', Rl W A H m ∧ EnR W A H s r ∧ F r m = some (b, m') ∧ FinT W A H m' (Q b)
def tS (W : Wd) (F : DS) : TS := fun D s H => ∃ A r m o m', Rl W A H m ∧ EnR W A H s r ∧ F r m = some (o, m') ∧ FinS W A H m' o D
def spD (W : Wd) (F : DF) : Sp := fun vs H Q _ => ∃ A m xs x m', Rl W A H m ∧ SRs W A H vs xs ∧ F xs m = some (x, m') ∧ FinV W A H m' x Q

theorem pe_weak {X : Cx} {e : Expr} {t t' : TE} (h : PE X e t) (w : ∀ s H Q, t' s H Q → t s H Q) : PE X e t' := ⟨fun pins s σ H Q I q => h.run pins s σ H Q I (w σ H Q q)⟩
theorem pt_weak {X : Cx} {e : Expr} {t t' : TT} (h : PT X e t) (w : ∀ s H Q, t' s H Q → t s H Q) : PT X e t' := ⟨fun pins s σ H Q I q => h.run pins s σ H Q I (w σ H Q q)⟩
theorem pw_weak {X : Cx} {e : Expr} {t t' : TT} (h : PW X e t) (w : ∀ s H Q, t' s H Q → t s H Q) : PW X e t' := ⟨fun wh pins s σ H Q I q => h.run wh pins s σ H Q I (w σ H Q q)⟩
theorem pa_weak {X : Cx} {e : List Expr} {t t' : TA} (h : PA X e t) (w : ∀ s H Q, t' s H Q → t s H Q) : PA X e t' := ⟨fun pos pins s σ H Q I q => h.run pos pins s σ H Q I (w σ H Q q)⟩
theorem ps_weak {X : Cx} {e : Stmt} {t t' : TS} (h : PS X e t) (w : ∀ D s H, t' D s H → t D s H) : PS X e t' := ⟨fun pins s σ H D I q => h.run pins s σ H D I (w D σ H q)⟩
theorem pss_weak {X : Cx} {e : List Stmt} {t t' : TS} (h : PSs X e t) (w : ∀ D s H, t' D s H → t D s H) : PSs X e t' := ⟨fun pins s σ H D I q => h.run pins s σ H D I (w D σ H q)⟩

/-! ### small expressions -/
def dVar (i : Nat) : DE := fun r m => match r[i]? with
  | some (some x) => some (x, m)
  | _ => none
def dC (x : SV) : DE := fun _ m => some (x, m)
section
variable {X : Cx} {g : Gs}
theorem de_var (i : Nat) {x : Str} {pos : Pos} (hN : X.N[i]? = some x := by rfl) (hv : Vis X.env.scope x := by first | exact Or.inl rfl | exact Or.inr (Or.inl rfl) | exact Or.inr (Or.inr rfl)) (hd : (x == ("__debug__" : Str)) = false := by decide)
    (hcd : (x == ("__classdict__" : Str)) = false := by decide) : PE X (.Name x pos) (tD (wd X g) (dVar i)) :=
  pe_weak (pe_var hN hv hd hcd) fun s H Q ⟨A, r, m, x, m', R, E, e, k⟩ => by
    unfold dVar at e
    split at e
    · rename_i y hy
      cases e
      obtain ⟨v, ev, q⟩ := E.get hy
      exact ⟨v, ev, k.now R q⟩
    · cases e
theorem de_c {e : Expr} {v : V} {x : SV} (h : PE X e (tC v)) (q : ∀ A H, SR (wd X g) A H v x) : PE X e (tD (wd X g) (dC x)) :=
  pe_weak h fun s H Q ⟨A, r, m, y, m', R, E, e, k⟩ => by
    cases e
    exact k.now R (q A H)
theorem de_int {i : Int} {j pos} : PE X (.Constant (.int i) j pos) (tD (wd X g) (dC (.int i))) := de_c pe_int fun _ _ => .int i
theorem de_str {i : Str} {j pos} : PE X (.Constant (.str i) j pos) (tD (wd X g) (dC (.str i))) := de_c pe_str fun _ _ => .str i
theorem de_bl {i : Bool} {j pos} : PE X (.Constant (.bool i) j pos) (tD (wd X g) (dC (.bl i))) := de_c pe_bl fun _ _ => .bl i
theorem de_non {j pos} : PE X (.Constant .none j pos) (tD (wd X g) (dC .non)) := de_c pe_non fun _ _ => .non
theorem de_globI {x : Str} {i : Int} {pos : Pos} (hg : Gl X x) (hm : ∃ t, X.mg x = some (.int i t)) (hd : (x == ("__debug__" : Str)) = false := by decide) : PE X (.Name x pos) (tD (wd X g) (dC (.int i))) := by
  obtain ⟨t, hm⟩ := hm
  exact de_c (pe_glob hg hm (v := .int i) ⟨t, rfl⟩ hd) fun _ _ => .int i
theorem de_globS {x : Str} {i : Str} {pos : Pos} (hg : Gl X x) (hm : ∃ t, X.mg x = some (.str i t)) (hd : (x == ("__debug__" : Str)) = false := by decide) : PE X (.Name x pos) (tD (wd X g) (dC (.str i))) := by
  obtain ⟨t, hm⟩ := hm
  exact de_c (pe_glob hg hm (v := .str i) ⟨t, rfl⟩ hd) fun _ _ => .str i

/-! ### lists of arguments, displays -/
def dNil : DA := fun _ m => some ([], m)
def dCons (F : DE) (G : DA) : DA := fun r m => (F r m).bind fun p => (G r p.2).bind fun q => some (p.1 :: q.1, q.2)
theorem da_nil : PA X [] (tA (wd X g) dNil) := pa_weak pa_nil fun s H Q ⟨A, r, m, y, m', R, E, e, k⟩ => by
  cases e
  exact k [] H A .refl R .nil
theorem da_cons {e : Expr} {es : List Expr} {F : DE} {G : DA} (ha : PE X e (tD (wd X g) F)) (hr : PA X es (tA (wd X g) G)) (hs : starEach (e :: es) X.env = (false, eval e X.env) :: starEach es X.env := by rfl) :
    PA X (e :: es) (tA (wd X g) (dCons F G)) := pa_weak (pa_cons ha hr hs) fun s H Q ⟨A, r, m, y, m', R, E, e, k⟩ => by
  obtain ⟨⟨x, m1⟩, e1, e⟩ := Option.bind_eq_some_iff.mp e
  obtain ⟨⟨xs, m2⟩, e2, e⟩ := Option.bind_eq_some_iff.mp e
  cases e
  refine ⟨A, r, m, x, m1, R, E, e1, fun v H1 A1 s1 R1 q1 => ?_⟩
  refine ⟨A1, r, m1, xs, m2, R1, E.mono s1, e2, fun vs H2 A2 s2 R2 q2 => ?_⟩
  exact k (v :: vs) H2 A2 (s1.trans s2) R2 (.cons (q1.mono s2) q2)
def dTup (F : DA) : DE := fun r m => (F r m).bind fun p => if p.1.length ≤ 1000 then some (.tup p.1, p.2) else none
def dLst (F : DA) : DE := fun r m => (F r m).bind fun p => if p.1.length ≤ 1000 then some (.ref p.2.length, p.2 ++ [.lst p.1]) else none
theorem le_line {n : Nat} (h : n ≤ 100000) : n ≤ sizeLine := Nat.le_trans h (by decide)
theorem lt_line {n : Nat} (h : n ≤ 100000) : n < sizeLine := Nat.lt_of_le_of_lt h (by decide)
theorem tup_new {W : Wd} {A : List Addr} {H : Hp} {m : Mu} {vs : List V} {xs : List SV} (R : Rl W A H m) (q : SRs W A H vs xs) {Q : VK} (k : FinV W A H m (.tup xs) Q) : NewT vs H Q := fun p o h po =>
  k _ _ A (.tup h) (R.beside h) (.tup ⟨o, po, upd_same⟩ (q.mono (.tup h)))
theorem sr_new {W : Wd} {A : List Addr} {H : Hp} {m : Mu} (R : Rl W A H m) {p : Addr} : SR W (A ++ [p]) H (.ref p) (.ref m.length) := .ref (by rw [← R.len]; simp)
theorem lst_new {W : Wd} {A : List Addr} {H : Hp} {m : Mu} {p : Addr} {vs : List V} {xs : List SV} (R : Rl W A H m) (q : SRs W A H vs xs) (h : H p = none) {Q : VK} (k : FinV W A H (m ++ [.lst xs]) (.ref m.length) Q) : Q (.ref p) (upd H p (.lst vs)) := by
  have s : Stp W A (A ++ [p]) H (upd H p (.lst vs)) := .new h
  exact k _ _ (A ++ [p]) s (R.alloc h ⟨vs, upd_same, q.mono s⟩) (.ref (by rw [← R.len]; simp))
theorem de_tup {es : List Expr} {F : DA} {x1} {pos : Pos} (h : PA X es (tA (wd X g) F)) : PE X (.Tuple es x1 pos) (tD (wd X g) (dTup F)) := pe_weak (pe_tupF h) fun s H Q ⟨A, r, m, y, m', R, E, e, k⟩ => by
  obtain ⟨⟨xs, m1⟩, e1, e⟩ := Option.bind_eq_some_iff.mp e
  refine ⟨A, r, m, xs, m1, R, E, e1, fun vs H1 A1 s1 R1 q1 => ?_⟩
  dsimp only at e
  split at e
  · cases e
    exact ⟨by rw [q1.length]; exact le_line (by omega), tup_new R1 q1 (k.after s1)⟩
  · cases e
theorem de_lst {es : List Expr} {F : DA} {pos : Pos} (h : PA X es (tA (wd X g) F)) : PE X (.List es pos) (tD (wd X g) (dLst F)) := pe_weak (pe_lst h) fun s H Q ⟨A, r, m, y, m', R, E, e, k⟩ => by
  obtain ⟨⟨xs, m1⟩, e1, e⟩ := Option.bind_eq_some_iff.mp e
  refine ⟨A, r, m, xs, m1, R, E, e1, fun vs H1 A1 s1 R1 q1 => ?_⟩
  dsimp only at e
  split at e
  · cases e
    exact ⟨by rw [q1.length]; exact le_line (by omega), fun p hp => lst_new R1 q1 hp (k.after s1)⟩
  · cases e

/-! ### operations by values -/
abbrev F1 := SV → Mu → Option (SV × Mu)
abbrev F2 := SV → SV → Mu → Option (SV × Mu)
abbrev FL := List SV → Mu → Option (SV × Mu)
def dUn (f : F1) (F : DE) : DE := fun r m => (F r m).bind fun p => f p.1 p.2
def dBin (f : F2) (F G : DE) : DE := fun r m => (F r m).bind fun p => (G r p.2).bind fun q => f p.1 q.1 q.2
def dApp (f : FL) (F : DA) : DE := fun r m => (F r m).bind fun p => f p.1 p.2
def Sem1 (W : Wd) (rd : V → Hp → VK → Prop) (f : F1) : Prop := ∀ A H m v x z m' Q, Rl W A H m → SR W A H v x → f x m = some (z, m') → FinV W A H m' z Q → rd v H Q
def Sem2 (W : Wd) (rd : R2) (f : F2) : Prop := ∀ A H m v u x y z m' Q, Rl W A H m → SR W A H v x → SR W A H u y → f x y m = some (z, m') → FinV W A H m' z Q → rd v u H Q
def SemL (W : Wd) (rd : List V → Hp → VK → Prop) (f : FL) : Prop := ∀ A H m vs xs z m' Q, Rl W A H m → SRs W A H vs xs → f xs m = some (z, m') → FinV W A H m' z Q → rd vs H Q
theorem sem2_run {W : Wd} {rd : R2} {f : F2} {F G : DE} (hs : Sem2 W rd f) : ∀ s H Q, tD W (dBin f F G) s H Q → tOp rd (tD W F) (tD W G) s H Q := fun s H Q ⟨A, r, m, y, m', R, E, e, k⟩ => by
  obtain ⟨⟨x, m1⟩, e1, e⟩ := Option.bind_eq_some_iff.mp e
  obtain ⟨⟨y, m2⟩, e2, e⟩ := Option.bind_eq_some_iff.mp e
  refine ⟨A, r, m, x, m1, R, E, e1, fun v H1 A1 s1 R1 q1 => ?_⟩
  refine ⟨A1, r, m1, y, m2, R1, E.mono s1, e2, fun u H2 A2 s2 R2 q2 => ?_⟩
  exact hs A2 H2 m2 v u x y _ m' Q R2 (q1.mono s2) q2 e (k.after (s1.trans s2))
theorem sem1_run {W : Wd} {rd : V → Hp → VK → Prop} {f : F1} {F : DE} (hs : Sem1 W rd f) : ∀ s H Q, tD W (dUn f F) s H Q → tUn rd (tD W F) s H Q := fun s H Q ⟨A, r, m, y, m', R, E, e, k⟩ => by
  obtain ⟨⟨x, m1⟩, e1, e⟩ := Option.bind_eq_some_iff.mp e
  refine ⟨A, r, m, x, m1, R, E, e1, fun v H1 A1 s1 R1 q1 => ?_⟩
  exact hs A1 H1 m1 v x _ m' Q R1 q1 e (k.after s1)
theorem semL_run {W : Wd} {rd : List V → Hp → VK → Prop} {f : FL} {F : DA} (hs : SemL W rd f) : ∀ s H Q, tD W (dApp f F) s H Q → tCB rd (tA W F) s H Q := fun s H Q ⟨A, r, m, y, m', R, E, e, k⟩ => by
  obtain ⟨⟨x, m1⟩, e1, e⟩ := Option.bind_eq_some_iff.mp e
  refine ⟨A, r, m, x, m1, R, E, e1, fun v H1 A1 s1 R1 q1 => ?_⟩
  exact hs A1 H1 m1 v x _ m' Q R1 q1 e (k.after s1)
variable {a b c : Expr} {F G F' : DE} {pos : Pos}
theorem de_op {op : Operator} {rd : R2} {f : F2} (ho : OpR X (binaryOp op) rd) (hs : Sem2 (wd X g) rd f) (ha : PE X a (tD (wd X g) F)) (hb : PE X b (tD (wd X g) G)) : PE X (.BinOp a op b pos) (tD (wd X g) (dBin f F G)) :=
  pe_weak (pe_op ho ha hb) (sem2_run hs)
theorem de_un {op : UnaryOp} {rd : V → Hp → VK → Prop} {f : F1} (ho : UnR X (unaryOp op) rd) (hs : Sem1 (wd X g) rd f) (ha : PE X a (tD (wd X g) F)) : PE X (.UnaryOp op a pos) (tD (wd X g) (dUn f F)) :=
  pe_weak (pe_un ho ha) (sem1_run hs)
theorem de_cmp {op : CmpOp} {rd : R2} {f : F2} (ho : OpR X (compareOp op) rd) (hs : Sem2 (wd X g) rd f) (ha : PE X a (tD (wd X g) F)) (hb : PE X b (tD (wd X g) G)) (hm : behindInMarks op b = false) :
    PE X (.Compare a [op] [b] pos) (tD (wd X g) (dBin f F G)) := pe_weak (pe_cmpR ho ha hb hm) (sem2_run hs)
theorem de_ix {rd : R2} {f : F2} (ho : IxR X rd) (hs : Sem2 (wd X g) rd f) (ha : PE X a (tD (wd X g) F)) (hb : PE X b (tD (wd X g) G)) (hp : PlainIx b := by exact fun _ _ => rfl) : PE X (.Subscript a b pos) (tD (wd X g) (dBin f F G)) :=
  pe_weak (pe_ix ho ha hb hp) (sem2_run hs)
/-- a op1 b op2 c -/
def dChain (f f' : F2) (F G K : DE) : DE := fun r m => (F r m).bind fun p => (G r p.2).bind fun q => (f p.1 q.1 q.2).bind fun z => match z with
  | (.bl true, m3) => (K r m3).bind fun w => f' q.1 w.1 w.2
  | (.bl false, m3) => some (.bl false, m3)
  | _ => none
theorem chain_run {W : Wd} {rd rd' : R2} {f f' : F2} {F G K : DE} (hs : Sem2 W rd f) (hs' : Sem2 W rd' f') : ∀ s H Q, tD W (dChain f f' F G K) s H Q → tChain rd rd' (tD W F) (tD W G) (tD W K) s H Q := fun s H Q ⟨A, r, m, y, m', R, E, e, k⟩ => by
  obtain ⟨⟨x, m1⟩, e1, e⟩ := Option.bind_eq_some_iff.mp e
  obtain ⟨⟨y, m2⟩, e2, e⟩ := Option.bind_eq_some_iff.mp e
  obtain ⟨⟨z, m3⟩, e3, e⟩ := Option.bind_eq_some_iff.mp e
  refine ⟨A, r, m, x, m1, R, E, e1, fun v H1 A1 s1 R1 q1 => ?_⟩
  refine ⟨A1, r, m1, y, m2, R1, E.mono s1, e2, fun u H2 A2 s2 R2 q2 => ?_⟩
  refine hs A2 H2 m2 v u x y z m3 _ R2 (q1.mono s2) q2 e3 fun c H3 A3 s3 R3 q3 => ?_
  have s03 := (s1.trans s2).trans s3
  split at e
  · rename_i mm heq
    cases heq
    cases q3
    obtain ⟨⟨w, m4⟩, e4, e⟩ := Option.bind_eq_some_iff.mp e
    refine ⟨true, rfl, iteT ?_⟩
    refine ⟨A3, r, m3, w, m4, R3, E.mono s03, e4, fun t H4 A4 s4 R4 q4 => ?_⟩
    exact hs' A4 H4 m4 u t y w _ m' Q R4 (q2.mono (s3.trans s4)) q4 e (k.after (s03.trans s4))
  · rename_i mm heq
    cases heq
    cases e
    cases q3
    exact ⟨false, rfl, iteF (k _ H3 A3 s03 R3 (.bl false))⟩
  · cases e
theorem de_chain {op op' : CmpOp} {rd rd' : R2} {f f' : F2} (ho : OpR X (compareOp op) rd) (hs : Sem2 (wd X g) rd f) (ho' : OpR X (compareOp op') rd') (hs' : Sem2 (wd X g) rd' f') (ha : PE X a (tD (wd X g) F)) (hb : PE X b (tD (wd X g) G)) (hc : PE X c (tD (wd X g) F'))
    (hm : lastMarks [op, op'] [b, c] = false := by with_unfolding_all rfl) : PE X (.Compare a [op, op'] [b, c] pos) (tD (wd X g) (dChain f f' F G F')) := pe_weak (pe_chain ho ho' ha hb hc hm) (chain_run hs hs')

/-! ### tests -/
/-- a value that is a truth, as a test -/
def dTr (F : DE) : DT := fun r m => (F r m).bind fun p => match p with
  | (.bl b, m') => some (b, m')
  | _ => none
theorem tr_run {W : Wd} {F : DE} {s : L2.St} {H : Hp} {Q : Bool → Hp → Prop} (h : tT W (dTr F) s H Q) : tD W F s H fun x H1 => ∃ c, x = .bl c ∧ Q c H1 := by
  obtain ⟨A, r, m, y, m', R, E, e, k⟩ := h
  obtain ⟨⟨x, m1⟩, e1, e⟩ := Option.bind_eq_some_iff.mp e
  refine ⟨A, r, m, x, m1, R, E, e1, fun v H1 A1 s1 R1 q1 => ?_⟩
  split at e
  · rename_i b mm heq
    cases heq
    cases e
    cases q1
    exact ⟨_, rfl, k H1 A1 s1 R1⟩
  · cases e
theorem dt_val (h : PE X a (tD (wd X g) F)) (he : ∀ whole, isTrue a X.env whole = (do let v ← whole; standAt a.pos; holding [v] (truthy v)) := by intro _; rfl) : PT X a (tT (wd X g) (dTr F)) :=
  pt_weak (pt_val h he) fun s H Q q => tr_run q
theorem dt_cmp {op : CmpOp} {rd : R2} {f : F2} (ho : OpR X (compareOp op) rd) (hs : Sem2 (wd X g) rd f) (ha : PE X a (tD (wd X g) F)) (hb : PE X b (tD (wd X g) G)) (hm : behindInMarks op b = false) :
    PT X (.Compare a [op] [b] pos) (tT (wd X g) (dTr (dBin f F G))) := pt_weak (pt_cmpR ho ha hb hm) fun s H Q q => sem2_run hs _ _ _ (tr_run q)
theorem dt_chain {op op' : CmpOp} {rd rd' : R2} {f f' : F2} (ho : OpR X (compareOp op) rd) (hs : Sem2 (wd X g) rd f) (ho' : OpR X (compareOp op') rd') (hs' : Sem2 (wd X g) rd' f') (ha : PE X a (tD (wd X g) F)) (hb : PE X b (tD (wd X g) G)) (hc : PE X c (tD (wd X g) F'))
    (hm : lastMarks [op, op'] [b, c] = false := by with_unfolding_all rfl) : PT X (.Compare a [op, op'] [b, c] pos) (tT (wd X g) (dTr (dChain f f' F G F'))) :=
  pt_weak (pt_chain ho ho' ha hb hc hm) fun s H Q q => chain_run hs hs' _ _ _ (tr_run q)
def dNotT (F : DT) : DT := fun r m => (F r m).bind fun p => some (!p.1, p.2)
def dAndT (F G : DT) : DT := fun r m => (F r m).bind fun p => if p.1 = true then G r p.2 else some (false, p.2)
def dOrT (F G : DT) : DT := fun r m => (F r m).bind fun p => if p.1 = true then some (true, p.2) else G r p.2
variable {T U : DT} {rest : List Expr}
theorem dt_not (h : PT X a (tT (wd X g) T)) : PT X (.UnaryOp .Not a pos) (tT (wd X g) (dNotT T)) := pt_weak (pt_not h) fun s H Q ⟨A, r, m, y, m', R, E, e, k⟩ => by
  obtain ⟨⟨x, m1⟩, e1, e⟩ := Option.bind_eq_some_iff.mp e
  cases e
  exact ⟨A, r, m, x, m1, R, E, e1, k⟩
theorem dw_and1 (h : PT X a (tT (wd X g) T)) : PW X (.BoolOp .And [a] pos) (tT (wd X g) T) := pw_and1 h
theorem dw_or1 (h : PT X a (tT (wd X g) T)) : PW X (.BoolOp .Or [a] pos) (tT (wd X g) T) := pw_or1 h
theorem dw_and (ha : PT X a (tT (wd X g) T)) (hb : PW X (.BoolOp .And (b :: rest) pos) (tT (wd X g) U)) : PW X (.BoolOp .And (a :: b :: rest) pos) (tT (wd X g) (dAndT T U)) := pw_weak (pw_and ha hb) fun s H Q ⟨A, r, m, y, m', R, E, e, k⟩ => by
  obtain ⟨⟨x, m1⟩, e1, e⟩ := Option.bind_eq_some_iff.mp e
  refine ⟨A, r, m, x, m1, R, E, e1, fun H1 A1 s1 R1 => ?_⟩
  dsimp only at e
  split at e
  · rename_i hx
    refine ite2 (fun _ => ?_) (fun z => absurd hx z)
    exact ⟨A1, r, m1, y, m', R1, E.mono s1, e, k.after s1⟩
  · rename_i hx
    refine ite2 (fun z => absurd z hx) (fun _ => ?_)
    cases e
    exact k H1 A1 s1 R1
theorem dw_or (ha : PT X a (tT (wd X g) T)) (hb : PW X (.BoolOp .Or (b :: rest) pos) (tT (wd X g) U)) : PW X (.BoolOp .Or (a :: b :: rest) pos) (tT (wd X g) (dOrT T U)) := pw_weak (pw_or ha hb) fun s H Q ⟨A, r, m, y, m', R, E, e, k⟩ => by
  obtain ⟨⟨x, m1⟩, e1, e⟩ := Option.bind_eq_some_iff.mp e
  refine ⟨A, r, m, x, m1, R, E, e1, fun H1 A1 s1 R1 => ?_⟩
  dsimp only at e
  split at e
  · rename_i hx
    refine ite2 (fun _ => ?_) (fun z => absurd hx z)
    cases e
    exact k H1 A1 s1 R1
  · rename_i hx
    refine ite2 (fun z => absurd z hx) (fun _ => ?_)
    exact ⟨A1, r, m1, y, m', R1, E.mono s1, e, k.after s1⟩
/-- and, or, not as values -/
def dAnd (F G : DE) : DE := fun r m => (F r m).bind fun p => match p with
  | (.bl true, m1) => G r m1
  | (.bl false, m1) => some (.bl false, m1)
  | _ => none
def dOr (F G : DE) : DE := fun r m => (F r m).bind fun p => match p with
  | (.bl true, m1) => some (.bl true, m1)
  | (.bl false, m1) => G r m1
  | _ => none
def dNot (F : DE) : DE := fun r m => (F r m).bind fun p => match p with
  | (.bl b, m1) => some (.bl (!b), m1)
  | _ => none
theorem de_one {op} (h : PE X a (tD (wd X g) F)) : PE X (.BoolOp op [a] pos) (tD (wd X g) F) := pe_one h
theorem de_and (ha : PE X a (tD (wd X g) F)) (hb : PE X (.BoolOp .And (b :: rest) pos) (tD (wd X g) G)) : PE X (.BoolOp .And (a :: b :: rest) pos) (tD (wd X g) (dAnd F G)) := pe_weak (pe_and ha hb) fun s H Q ⟨A, r, m, y, m', R, E, e, k⟩ => by
  obtain ⟨⟨x, m1⟩, e1, e⟩ := Option.bind_eq_some_iff.mp e
  refine ⟨A, r, m, x, m1, R, E, e1, fun v H1 A1 s1 R1 q1 => ?_⟩
  split at e
  · rename_i mm heq
    cases heq; cases q1
    exact ⟨_, rfl, iteT ⟨A1, r, _, y, m', R1, E.mono s1, e, k.after s1⟩⟩
  · rename_i mm heq
    cases heq; cases q1; cases e
    exact ⟨_, rfl, iteF (k _ H1 A1 s1 R1 (.bl false))⟩
  · cases e
theorem de_or (ha : PE X a (tD (wd X g) F)) (hb : PE X (.BoolOp .Or (b :: rest) pos) (tD (wd X g) G)) : PE X (.BoolOp .Or (a :: b :: rest) pos) (tD (wd X g) (dOr F G)) := pe_weak (pe_or ha hb) fun s H Q ⟨A, r, m, y, m', R, E, e, k⟩ => by
  obtain ⟨⟨x, m1⟩, e1, e⟩ := Option.bind_eq_some_iff.mp e
  refine ⟨A, r, m, x, m1, R, E, e1, fun v H1 A1 s1 R1 q1 => ?_⟩
  split at e
  · rename_i mm heq
    cases heq; cases q1; cases e
    exact ⟨_, rfl, iteT (k _ H1 A1 s1 R1 (.bl true))⟩
  · rename_i mm heq
    cases heq; cases q1
    exact ⟨_, rfl, iteF ⟨A1, r, _, y, m', R1, E.mono s1, e, k.after s1⟩⟩
  · cases e
theorem de_not (ha : PE X a (tD (wd X g) F)) : PE X (.UnaryOp .Not a pos) (tD (wd X g) (dNot F)) := pe_weak (pe_not ha) fun s H Q ⟨A, r, m, y, m', R, E, e, k⟩ => by
  obtain ⟨⟨x, m1⟩, e1, e⟩ := Option.bind_eq_some_iff.mp e
  refine ⟨A, r, m, x, m1, R, E, e1, fun v H1 A1 s1 R1 q1 => ?_⟩
  split at e
  · rename_i b mm heq
    cases heq; cases q1; cases e
    exact ⟨_, rfl, k _ H1 A1 s1 R1 (.bl _)⟩
  · cases e

/-! ### calls -/
theorem de_callB {id : String} {rd} {f : FL} {x : Str} {e : Expr} {es : List Expr} {p : Pos} {Fs : DA} (hc : CallR X (.builtin id) rd) (hs : SemL (wd X g) rd f) (hg : Gl X x) (hm : X.mg x = none) (hv : bootBuiltins x = some (.builtin id)) (ha : PA X (e :: es) (tA (wd X g) Fs))
    (hn : x ≠ "__name__" := by decide) (hdb : (x == ("__debug__" : Str)) = false := by decide) (he : starEach (e :: es) X.env = (false, eval e X.env) :: starEach es X.env := by rfl) (hpl : (backTo pos (starEach es X.env)).any (·.1) = false := by rfl) :
    PE X (.Call (.Name x p) (e :: es) [] pos) (tD (wd X g) (dApp f Fs)) := pe_weak (pe_callB hc hg hm hv ha hn hdb he hpl) (semL_run hs)
theorem de_callTy {id : String} {rd} {f : FL} {x : Str} {e : Expr} {es : List Expr} {p : Pos} {Fs : DA} (hc : CallR X (.type id) rd) (hs : SemL (wd X g) rd f) (hg : Gl X x) (hm : X.mg x = none) (hv : bootBuiltins x = some (.type id)) (ha : PA X (e :: es) (tA (wd X g) Fs))
    (hn : x ≠ "__name__" := by decide) (hdb : (x == ("__debug__" : Str)) = false := by decide) (he : starEach (e :: es) X.env = (false, eval e X.env) :: starEach es X.env := by rfl) (hpl : (backTo pos (starEach es X.env)).any (·.1) = false := by rfl) :
    PE X (.Call (.Name x p) (e :: es) [] pos) (tD (wd X g) (dApp f Fs)) := pe_weak (pe_callTy hc hg hm hv ha hn hdb he hpl) (semL_run hs)

/-- a def of the text that means f, at level k -/
structure Dn (P : Program) (w : World) (K : PySem.W.Frag) (mg : Str → Option Value) (base : Heap) (g : Gs) (x : Str) (ps : List Str) (k : Nat) (f : DF) : Prop where
  ex : ∃ a fd, FnOk P w K mg base CX0 k a fd ps (spD ⟨P, w, K, g.sa, g.S⟩ f) ∧ mg x = some (.ref a) ∧ PySem.W.keepIn K (.ref a) = true ∧ Binds K fd ps []
theorem de_call {x : Str} {ps : List Str} {k : Nat} {f : DF} {e : Expr} {es : List Expr} {p : Pos} {Fs : DA} (D : Dn X.prog X.w X.K X.mg X.base g x ps k f) (hr : Room k X.A) (hg : Gl X x) (ha : PA X (e :: es) (tA (wd X g) Fs))
    (hdb : (x == ("__debug__" : Str)) = false := by decide) (he : starEach (e :: es) X.env = (false, eval e X.env) :: starEach es X.env := by rfl) (hpl : (backTo pos (starEach es X.env)).any (·.1) = false := by rfl) :
    PE X (.Call (.Name x p) (e :: es) [] pos) (tD (wd X g) (dApp f Fs)) := by
  obtain ⟨a, fd, F, hm, hk, hb⟩ := D.ex
  refine pe_weak (pe_call F hr hg hm hk hb .nil pass0 ha hdb he hpl) fun s H Q ⟨A, r, m, y, m', R, E, e, k⟩ => ?_
  obtain ⟨⟨xs, m1⟩, e1, e⟩ := Option.bind_eq_some_iff.mp e
  refine ⟨A, r, m, xs, m1, R, E, e1, fun vs H1 A1 s1 R1 q1 => ?_⟩
  exact ⟨A1, m1, xs, y, m', R1, by rw [List.append_nil]; exact q1, e, k.after s1⟩
end
end VW

/-! viewwood k93: meanings of statements, loops, comprehensions, defs. -/
namespace VW
open PySem PySem.Spec PyProof.Rows L2

/-! ### targets -/
abbrev DG := SV → En → Option En
abbrev DGs := List SV → En → Option En
def bName (i : Nat) : DG := fun x r => some (r.set i (some x))
def bNil : DGs := fun xs r => match xs with
  | [] => some r
  | _ :: _ => none
def bCons (b : DG) (bs : DGs) : DGs := fun xs r => match xs with
  | [] => none
  | x :: xs => (b x r).bind (bs xs)
def bTup (n : Nat) (bs : DGs) : DG := fun x r => match x with
  | .tup xs => if xs.length = n then bs xs r else none
  | _ => none
/-- only the slots of is change -/
def Only' (is : List Nat) (s s' : L2.St) : Prop := s'.length = s.length ∧ ∀ i, i ∉ is → s'[i]? = s[i]?
def SemG (W : Wd) (t : TG) (b : DG) (is : List Nat) : Prop := ∀ A H v x s r r' Q, EnR W A H s r → SR W A H v x → b x r = some r' → (∀ s', EnR W A H s' r' → Only' is s s' → Q s' H) → t v s H Q
def SemGs (W : Wd) (t : TGs) (b : DGs) (is : List Nat) : Prop := ∀ A H vs xs s r r' Q, EnR W A H s r → SRs W A H vs xs → b xs r = some r' → (∀ s', EnR W A H s' r' → Only' is s s' → Q s' H) → t vs s H Q
theorem Only'.refl {is : List Nat} {s : L2.St} : Only' is s s := ⟨rfl, fun _ _ => rfl⟩
theorem sg_name {W : Wd} (i : Nat) : SemG W (gName i) (bName i) [i] := fun A H v x s r r' Q E q e k => by
  cases e
  refine k _ (E.set q i) ⟨by simp, fun j hj => ?_⟩
  rw [List.getElem?_set_ne (by simpa using fun z => hj (by simp [z]))]
theorem sg_nil {W : Wd} : SemGs W gNil bNil [] := fun A H vs xs s r r' Q E q e k => by
  cases q with
  | nil => cases e; exact ⟨rfl, k _ E .refl⟩
  | cons _ _ => cases e
theorem sg_cons {W : Wd} {t : TG} {u : TGs} {b : DG} {bs : DGs} {is js : List Nat} (h1 : SemG W t b is) (h2 : SemGs W u bs js) : SemGs W (gCons t u) (bCons b bs) (is ++ js) := fun A H vs xs s r r' Q E q e k => by
  cases q with
  | nil => cases e
  | cons q qs =>
    obtain ⟨r1, e1, e2⟩ := Option.bind_eq_some_iff.mp e
    refine ⟨_, _, rfl, h1 A H _ _ s r r1 _ E q e1 fun s1 E1 o1 => h2 A H _ _ s1 r1 r' _ E1 qs e2 fun s2 E2 o2 => k s2 E2 ⟨o2.1.trans o1.1, fun i hi => ?_⟩⟩
    rw [List.mem_append] at hi
    exact (o2.2 i fun z => hi (.inr z)).trans (o1.2 i fun z => hi (.inl z))
theorem sg_tup {W : Wd} {n : Nat} {t : TGs} {bs : DGs} {is : List Nat} (h : SemGs W t bs is) : SemG W (gTup W.K n t) (bTup n bs) is := fun A H v x s r r' Q E q e k => by
  unfold bTup at e
  split at e
  · split at e
    · rename_i xs hn
      obtain ⟨a, vs, rfl, ht, qs⟩ := q.ex_tup
      exact ⟨a, vs, rfl, ht.sq, by rw [qs.length]; exact hn, h A H vs _ s r r' Q E qs e k⟩
    · cases e
  · cases e
/-- a target and its meaning, the slots that it stores -/
structure PGd (X : Cx) (g : Gs) (tg : Expr) (b : DG) (is : List Nat) : Prop where
  ex : ∃ t, PG X tg t ∧ SemG (wd X g) t b is
structure PGsd (X : Cx) (g : Gs) (tg : List Expr) (b : DGs) (is : List Nat) : Prop where
  ex : ∃ t, PGs X tg t ∧ SemGs (wd X g) t b is
section
variable {X : Cx} {g : Gs}
theorem dg_name {i : Nat} {x : Str} {pos : Pos} (hN : X.N.Nodup) (hi : X.N[i]? = some x := by rfl) (hx : Loc X.env.scope x := by first | exact Or.inl rfl | exact Or.inr rfl) (hf : X.fn x = true ∨ X.env.scope.names.lookup x = some .local := by first | exact .inl rfl | exact .inr rfl) :
    PGd X g (.Name x pos) (bName i) [i] := ⟨_, pg_name hN hi hx hf, sg_name i⟩
theorem dg_nil : PGsd X g [] bNil [] := ⟨_, pgs_nil, sg_nil⟩
theorem dg_cons {e : Expr} {es : List Expr} {b : DG} {bs : DGs} {is js : List Nat} (h1 : PGd X g e b is) (h2 : PGsd X g es bs js) (hs : (assignEach (e :: es) X.env).map (·.2) = assign e X.env :: (assignEach es X.env).map (·.2) := by rfl) : PGsd X g (e :: es) (bCons b bs) (is ++ js) := by
  obtain ⟨t, p, q⟩ := h1.ex
  obtain ⟨u, p2, q2⟩ := h2.ex
  exact ⟨_, pgs_cons p p2 hs, sg_cons q q2⟩
theorem dg_tup {es : List Expr} {k : Nat} {bs : DGs} {is : List Nat} {n : Nat} {pos : Pos} (hc : X.calm = true) (h : PGsd X g es bs is) (hn : (assignEach es X.env).length = n := by rfl) (hst : (assignEach es X.env).findIdx? (·.1) = none := by rfl) : PGd X g (.Tuple es k pos) (bTup n bs) is := by
  obtain ⟨t, p, q⟩ := h.ex
  exact ⟨_, pg_tup hc p hn hst, sg_tup q⟩

/-! ### statements -/
def dNext : DS := fun r m => some (.nx r, m)
def dSeq (S T : DS) : DS := fun r m => (S r m).bind fun p => match p with
  | (.nx r', m') => T r' m'
  | (.rt x, m') => some (.rt x, m')
  | (.bk r', m') => some (.bk r', m')
  | (.ct r', m') => some (.ct r', m')
variable {st : Stmt} {rest : List Stmt} {S T : DS} {e : Expr} {F G : DE} {pos : Pos}
theorem dss_nil : PSs X [] (tS (wd X g) dNext) := pss_weak pss_nil fun D s H ⟨A, r, m, o, m', R, E, e, k⟩ => by
  cases e
  exact k s H A .refl R E
theorem dss_one (h : PS X st (tS (wd X g) S)) : PSs X [st] (tS (wd X g) S) := pss_one h
theorem dss_cons (h1 : PS X st (tS (wd X g) S)) (h2 : PSs X rest (tS (wd X g) T)) : PSs X (st :: rest) (tS (wd X g) (dSeq S T)) := pss_weak (pss_cons h1 h2) fun D s H ⟨A, r, m, o, m', R, E, e, k⟩ => by
  obtain ⟨⟨o1, m1⟩, e1, e⟩ := Option.bind_eq_some_iff.mp e
  refine ⟨A, r, m, o1, m1, R, E, e1, ?_⟩
  cases o1 with
  | nx r1 => exact fun s1 H1 A1 t1 R1 E1 => ⟨A1, r1, m1, o, m', R1, E1, e, k.after t1⟩
  | rt x => cases e; exact k
  | bk r1 => cases e; exact k
  | ct r1 => cases e; exact k
def dExp (F : DE) : DS := fun r m => (F r m).bind fun p => some (.nx r, p.2)
def dRet (F : DE) : DS := fun r m => (F r m).bind fun p => some (.rt p.1, p.2)
def dAsg (b : DG) (F : DE) : DS := fun r m => (F r m).bind fun p => (b p.1 r).bind fun r' => some (.nx r', p.2)
theorem ds_exp (he : PE X e (tD (wd X g) F)) (hs : swapsWith e none pos.line X.env = pure false := by rfl) : PS X (.Expr e pos) (tS (wd X g) (dExp F)) := ps_weak (ps_expr he hs) fun D s H ⟨A, r, m, o, m', R, E, e, k⟩ => by
  obtain ⟨⟨x, m1⟩, e1, e⟩ := Option.bind_eq_some_iff.mp e
  cases e
  exact ⟨A, r, m, x, m1, R, E, e1, fun v H1 A1 t1 R1 q1 => k s H1 A1 t1 R1 (E.mono t1)⟩
theorem ds_ret (he : PE X e (tD (wd X g) F)) : PS X (.Return (some e) pos) (tS (wd X g) (dRet F)) := ps_weak (ps_ret he) fun D s H ⟨A, r, m, o, m', R, E, e, k⟩ => by
  obtain ⟨⟨x, m1⟩, e1, e⟩ := Option.bind_eq_some_iff.mp e
  cases e
  exact ⟨A, r, m, x, m1, R, E, e1, k⟩
theorem asg_run {W : Wd} {t : TG} {b : DG} {is : List Nat} {F : DE} (hg : SemG W t b is) : ∀ D s H, tS W (dAsg b F) D s H → tAsg (tD W F) t D s H := fun D s H ⟨A, r, m, o, m', R, E, e, k⟩ => by
  obtain ⟨⟨x, m1⟩, e1, e⟩ := Option.bind_eq_some_iff.mp e
  obtain ⟨r1, e2, e⟩ := Option.bind_eq_some_iff.mp e
  cases e
  exact ⟨A, r, m, x, m1, R, E, e1, fun v H1 A1 t1 R1 q1 => hg A1 H1 v x s r r1 _ (E.mono t1) q1 e2 fun s' E' _ => k s' H1 A1 t1 R1 E'⟩
theorem ds_set {i : Nat} {x : Str} {pos' : Pos} (hN : X.N.Nodup) (he : PE X e (tD (wd X g) F)) (hi : X.N[i]? = some x := by rfl) (hx : Loc X.env.scope x := by first | exact Or.inl rfl | exact Or.inr rfl) (hs : swapsWith e (some (.Name x pos')) pos.line X.env = pure false := by rfl)
    (hf : X.fn x = true ∨ X.env.scope.names.lookup x = some .local := by first | exact .inl rfl | exact .inr rfl) : PS X (.Assign [.Name x pos'] e pos) (tS (wd X g) (dAsg (bName i) F)) :=
  ps_weak (ps_set hN hi hx he hs hf) (asg_run (sg_name i))
theorem ds_asg {tg : Expr} {b : DG} {is : List Nat} (he : PE X e (tD (wd X g) F)) (hg : PGd X g tg b is) (hs : swapsWithSole [tg] e pos.line X.env = pure false := by rfl) (hw : swappedStores [tg] e X.env = pure none := by rfl)
    (h1 : (assignEach [tg] X.env).map (·.2) = [assign tg X.env] := by rfl) : PS X (.Assign [tg] e pos) (tS (wd X g) (dAsg b F)) := by
  obtain ⟨t, p, q⟩ := hg.ex
  exact ps_weak (ps_asg he p hs hw h1) (asg_run q)
/-- a, b = x, y -/
def dPar (i j : Nat) (F : DA) : DS := fun r m => (F r m).bind fun p => match p with
  | ([x, y], m') => some (.nx ((r.set i (some x)).set j (some y)), m')
  | _ => none
theorem ds_par {i j : Nat} {x y : Str} {a b : Expr} {Fs : DA} {px py pt : Pos} {kt k2 pt2} (hc : X.calm = true) (hN : X.N.Nodup) (ha : PA X [a, b] (tA (wd X g) Fs)) (hij : i ≠ j := by decide) (hi : X.N[i]? = some x := by rfl) (hj : X.N[j]? = some y := by rfl)
    (hx : X.env.scope.names.lookup x = some .local := by rfl) (hy : X.env.scope.names.lookup y = some .local := by rfl)
    (hw : swappedStores [.Tuple [.Name x px, .Name y py] kt pt] (.Tuple [a, b] k2 pt2) X.env = pure (some [x, y]) := by rfl)
    (hs : swapsWithSole [.Tuple [.Name x px, .Name y py] kt pt] (.Tuple [a, b] k2 pt2) pos.line X.env = pure false := by rfl) :
    PS X (.Assign [.Tuple [.Name x px, .Name y py] kt pt] (.Tuple [a, b] k2 pt2) pos) (tS (wd X g) (dPar i j Fs)) := ps_weak (ps_par hc hN hi hj hij hx hy ha hw hs) fun D s H ⟨A, r, m, o, m', R, E, e, k⟩ => by
  obtain ⟨⟨xs, m1⟩, e1, e⟩ := Option.bind_eq_some_iff.mp e
  refine ⟨A, r, m, xs, m1, R, E, e1, fun vs H1 A1 t1 R1 q1 => ?_⟩
  split at e
  · rename_i u w mm heq
    cases heq
    cases e
    cases q1 with
    | cons q q1 => cases q1 with
      | cons q' q1 =>
        cases q1
        exact ⟨_, _, rfl, k _ H1 A1 t1 R1 (((E.mono t1).set q i).set q' j)⟩
  · cases e
/-- o[i] = e -/
abbrev F3 := SV → SV → SV → Mu → Option Mu
def SemP (W : Wd) (t : TSet) (f : F3) : Prop := ∀ A H m o i v x y z m' Q, Rl W A H m → SR W A H o x → SR W A H i y → SR W A H v z → f x y z m = some m' → (∀ H' A', Stp W A A' H H' → Rl W A' H' m' → Q H') → t o i v H Q
def dPut (f : F3) (Fo Fi Fe : DE) : DS := fun r m => (Fe r m).bind fun p => (Fo r p.2).bind fun q => (Fi r q.2).bind fun u => (f q.1 u.1 p.1 u.2).bind fun m' => some (.nx r, m')
theorem ds_put {o i : Expr} {f : F3} {Fo Fi : DE} {t : TSet} {pos' : Pos} (ho : PE X o (tD (wd X g) Fo)) (hi : PE X i (tD (wd X g) Fi)) (hp : PSet X t) (hs : SemP (wd X g) t f) (he : PE X e (tD (wd X g) F))
    (ha : ∀ v, assign (.Subscript o i pos') X.env v = (do
      let ov ← holding [v] (eval o X.env)
      let iv ← holding [v, ov] (eval i X.env)
      standAt pos'
      holding [v, ov, iv] (setItem ov iv v)
      release [v, ov, iv] []) := by intro _; rfl)
    (h2 : swapsWithSole [.Subscript o i pos'] e pos.line X.env = pure false := by rfl) (hw : swappedStores [.Subscript o i pos'] e X.env = pure none := by rfl)
    (h1 : (assignEach [.Subscript o i pos'] X.env).map (·.2) = [assign (.Subscript o i pos') X.env] := by rfl) : PS X (.Assign [.Subscript o i pos'] e pos) (tS (wd X g) (dPut f Fo Fi F)) :=
  ps_weak (ps_asg he (pg_sub ho hi hp ha) h2 hw h1) fun D s H ⟨A, r, m, o, m', R, E, e, k⟩ => by
    obtain ⟨⟨x, m1⟩, e1, e⟩ := Option.bind_eq_some_iff.mp e
    obtain ⟨⟨y, m2⟩, e2, e⟩ := Option.bind_eq_some_iff.mp e
    obtain ⟨⟨z, m3⟩, e3, e⟩ := Option.bind_eq_some_iff.mp e
    obtain ⟨m4, e4, e⟩ := Option.bind_eq_some_iff.mp e
    cases e
    refine ⟨A, r, m, x, m1, R, E, e1, fun v H1 A1 t1 R1 q1 => ?_⟩
    refine ⟨A1, r, m1, y, m2, R1, E.mono t1, e2, fun v2 H2 A2 t2 R2 q2 => ?_⟩
    refine ⟨A2, r, m2, z, m3, R2, (E.mono t1).mono t2, e3, fun v3 H3 A3 t3 R3 q3 => ?_⟩
    exact hs A3 H3 m3 v2 v3 v y z x _ _ R3 (q2.mono t3) q3 (q1.mono (t2.trans t3)) e4 fun H4 A4 t4 R4 => k s H4 A4 (((t1.trans t2).trans t3).trans t4) R4 (E.mono (((t1.trans t2).trans t3).trans t4))
def dIf (T : DT) (S U : DS) : DS := fun r m => (T r m).bind fun p => if p.1 = true then S r p.2 else U r p.2
theorem ds_if {c : Expr} {p q : List Stmt} {T : DT} {S U : DS} (hc : PT X c (tT (wd X g) T)) (hp : PSs X p (tS (wd X g) S)) (hq : PSs X q (tS (wd X g) U)) : PS X (.If c p q pos) (tS (wd X g) (dIf T S U)) := ps_weak (ps_if hc hp hq) fun D s H ⟨A, r, m, o, m', R, E, e, k⟩ => by
  obtain ⟨⟨b, m1⟩, e1, e⟩ := Option.bind_eq_some_iff.mp e
  refine ⟨A, r, m, b, m1, R, E, e1, fun H1 A1 t1 R1 => ?_⟩
  dsimp only at e
  split at e
  · rename_i hb
    exact ite2 (fun _ => ⟨A1, r, m1, o, m', R1, E.mono t1, e, k.after t1⟩) fun z => absurd hb z
  · rename_i hb
    exact ite2 (fun z => absurd z hb) fun _ => ⟨A1, r, m1, o, m', R1, E.mono t1, e, k.after t1⟩
theorem ds_try {body : List Stmt} {h₀ : ExceptHandler} {hs : List ExceptHandler} (hb : PSs X.nox body (tS (wd X g) S)) : PS X (.Try body (h₀ :: hs) [] [] pos) (tS (wd X g) S) := ps_try_thru0 hb

/-! ### loops -/
def dFor (b : DG) (S : DS) : List SV → DS
  | [] => fun r m => some (.nx r, m)
  | x :: xs => fun r m => (b x r).bind fun r1 => (S r1 m).bind fun p => match p with
    | (.nx r2, m2) => dFor b S xs r2 m2
    | (.ct r2, m2) => dFor b S xs r2 m2
    | (.bk r2, m2) => some (.nx r2, m2)
    | (.rt x, m2) => some (.rt x, m2)
/-- what is left of a walk -/
def Left (W : Wd) (b : DG) (S : DS) (xs : List SV) (D : Ends) (s : L2.St) (H : Hp) : Prop := ∃ A r m o m', Rl W A H m ∧ EnR W A H s r ∧ dFor b S xs r m = some (o, m') ∧ FinS W A H m' o D
theorem left_end {W : Wd} {b : DG} {S : DS} {D : Ends} {s : L2.St} {H : Hp} (h : Left W b S [] D s H) : D.nx s H := by
  obtain ⟨A, r, m, o, m', R, E, e, k⟩ := h
  cases e
  exact k s H A .refl R E
theorem left_turn {W : Wd} {b : DG} {is : List Nat} {S : DS} {t : TG} {x : SV} {xs : List SV} {D : Ends} {s : L2.St} {H : Hp} (hg : SemG W t b is) (h : Left W b S (x :: xs) D s H) (v : V) (q : ∀ A m, Rl W A H m → (∃ r, EnR W A H s r) → SR W A H v x) :
    t v s H fun s2 H2 => tS W S { D with nx := Left W b S xs D, ct := Left W b S xs D, bk := D.nx } s2 H2 := by
  obtain ⟨A, r, m, o, m', R, E, e, k⟩ := h
  obtain ⟨r1, e1, e⟩ := Option.bind_eq_some_iff.mp e
  obtain ⟨⟨o1, m1⟩, e2, e⟩ := Option.bind_eq_some_iff.mp e
  refine hg A H v x s r r1 _ E (q A m R ⟨r, E⟩) e1 fun s' E' _ => ?_
  refine ⟨A, r1, m, o1, m1, R, E', e2, ?_⟩
  cases o1 with
  | nx r2 => exact fun s2 H2 A2 t2 R2 E2 => ⟨A2, r2, m1, o, m', R2, E2, e, k.after t2⟩
  | ct r2 => exact fun s2 H2 A2 t2 R2 E2 => ⟨A2, r2, m1, o, m', R2, E2, e, k.after t2⟩
  | bk r2 => cases e; exact k
  | rt y => cases e; exact k
def dForT (F : DE) (b : DG) (S : DS) : DS := fun r m => (F r m).bind fun p => match p with
  | (.tup xs, m1) => dFor b S xs r m1
  | _ => none
theorem ds_forT {tg it : Expr} {body : List Stmt} {b : DG} {is : List Nat} (hc : X.calm = true) (hi : PE X it (tD (wd X g) F)) (hg : PGd X g tg b is) (hb : PSs X body (tS (wd X g) S)) (hp : PassesOwn (model X.prog X.w) X.A X.env X.xe := by exact PassesOwn.never)
    (hs : ∀ x, foldedSetIterable it X.env x = pure x := by intro _; rfl) : PS X (.For tg it body [] pos) (tS (wd X g) (dForT F b S)) := by
  obtain ⟨t, p, q⟩ := hg.ex
  refine ps_weak (ps_for hp hc (pi_tup hi) p hb hs) fun D s H ⟨A, r, m, o, m', R, E, e, k⟩ => ?_
  obtain ⟨⟨x, m1⟩, e1, e⟩ := Option.bind_eq_some_iff.mp e
  refine ⟨A, r, m, x, m1, R, E, e1, fun v H1 A1 t1 R1 q1 => ?_⟩
  split at e
  · rename_i xs mm heq
    cases heq
    obtain ⟨a, vs, rfl, ht, qs⟩ := q1.ex_tup
    refine ⟨a, rfl, ⟨vs, ht.sq⟩, for_tup (xs := vs) (fun i s' H' => TK X.K H1 H' ∧ (∃ A', (∃ B, A' = A1 ++ B) ∧ ∃ r m o m', Rl (wd X g) A' H' m ∧ EnR (wd X g) A' H' s' r ∧ dFor b S (xs.drop i) r m = some (o, m') ∧ FinS (wd X g) A' H' m' o D)) ?_ (fun i s' H' _ z => (TqT.go z.1 ht).sq) (fun i v s' H' hv z => ?_) (fun s' H' z => ?_)⟩
    · exact ⟨fun _ _ _ h => h, A1, ⟨[], by simp⟩, r, _, o, m', R1, E.mono t1, by rw [List.drop_zero]; exact e, k.after t1⟩
    · obtain ⟨tk, A2, pr, r2, m2, o2, m2', R2, E2, e2, k2⟩ := z
      obtain ⟨x, hx, qx⟩ := qs.getV hv
      have st : Stp (wd X g) A1 A2 H1 H' := ⟨pr, tk⟩
      have hl := (List.getElem?_eq_some_iff.mp hx).1
      have ed : xs.drop i = x :: xs.drop (i + 1) := by
        rw [List.drop_eq_getElem_cons hl]
        congr 1
        exact (List.getElem?_eq_some_iff.mp hx).2
      rw [ed] at e2
      obtain ⟨r3, e3, e2⟩ := Option.bind_eq_some_iff.mp e2
      obtain ⟨⟨o4, m4⟩, e4, e2⟩ := Option.bind_eq_some_iff.mp e2
      refine q A2 H' v x s' r2 r3 _ E2 (qx.mono st) e3 fun s3 E3 _ => ?_
      refine ⟨A2, r3, m2, o4, m4, R2, E3, e4, ?_⟩
      have go : ∀ r5, dFor b S (xs.drop (i + 1)) r5 m4 = some (o2, m2') → FinE (wd X g) A2 H' m4 r5 (fun s' H' => TK X.K H1 H' ∧ (∃ A', (∃ B, A' = A1 ++ B) ∧ ∃ r m o m', Rl (wd X g) A' H' m ∧ EnR (wd X g) A' H' s' r ∧ dFor b S (xs.drop (i + 1)) r m = some (o, m') ∧ FinS (wd X g) A' H' m' o D)) :=
        fun r5 e5 s5 H5 A5 t5 R5 E5 => ⟨(st.trans t5).tk, A5, (st.trans t5).pre, r5, m4, o2, m2', R5, E5, e5, k2.after t5⟩
      cases o4 with
      | nx r5 => exact go r5 e2
      | ct r5 => exact go r5 e2
      | bk r5 => cases e2; exact k2
      | rt y => cases e2; exact k2
    · obtain ⟨tk, A2, pr, r2, m2, o2, m2', R2, E2, e2, k2⟩ := z
      rw [show xs.drop vs.length = [] from List.drop_eq_nil_iff.mpr (Nat.le_of_eq qs.length.symm)] at e2
      cases e2
      exact k2 s' H' A2 .refl R2 E2
  · cases e
def intsV (lo : Int) (n : Nat) : List SV := (List.range n).map fun i => .int (lo + (i : Nat))
theorem intsV_len (lo : Int) (n : Nat) : (intsV lo n).length = n := by simp [intsV]
theorem intsV_get {lo : Int} {n i : Nat} (h : i < n) : (intsV lo n)[i]? = some (.int (lo + i)) := by simp [intsV, h]
theorem rng_run {W : Wd} {t : TG} {b : DG} {is : List Nat} {lo : Int} {n : Nat} {D : Ends} {A : List Addr} {r : En} {m m' : Mu} {o : Out} {s : L2.St} {H : Hp} (hg : SemG W t b is) (R : Rl W A H m) (E : EnR W A H s r) (e : dFor b S (intsV lo n) r m = some (o, m')) (k : FinS W A H m' o D) :
    ∃ W' : Nat → Nat → L2.St → Hp → Prop, (∃ m, W' 0 m s H) ∧ ∀ i m s H, W' i m s H → ((Itr lo n).stop i H ∧ D.nx s H) ∨ ((Itr lo n).go i H ∧ ∃ N : L2.St → Hp → Prop, (∀ s' H', N s' H' → ∃ m', m' < m ∧ W' (i + 1) m' s' H') ∧
      ∀ x H', (Itr lo n).yld i H x H' → t x s H' fun s2 H2 => tS W S { D with nx := N, ct := N, bk := D.nx } s2 H2) := by
  refine for_range (fun i s' H' => Left W b S ((intsV lo n).drop i) D s' H') ⟨A, r, m, o, m', R, E, e, k⟩ (fun i s' H' hi z => ?_) fun s' H' z => ?_
  · have ed : (intsV lo n).drop i = .int (lo + i) :: (intsV lo n).drop (i + 1) := by
      have hl : i < (intsV lo n).length := by rw [intsV_len]; exact hi
      rw [List.drop_eq_getElem_cons hl]
      congr 1
      exact (List.getElem?_eq_some_iff.mp (intsV_get (lo := lo) hi)).2
    rw [ed] at z
    exact left_turn hg z _ fun _ _ _ _ => .int _
  · rw [show (intsV lo n).drop n = [] from List.drop_eq_nil_iff.mpr (Nat.le_of_eq (intsV_len lo n))] at z
    exact left_end z
def dForR1 (F : DA) (b : DG) (S : DS) : DS := fun r m => (F r m).bind fun p => match p with
  | ([.int n], m1) => if -(2 ^ 62) ≤ n ∧ n < 2 ^ 62 then dFor b S (intsV 0 n.toNat) r m1 else none
  | _ => none
def dForR2 (F : DA) (b : DG) (S : DS) : DS := fun r m => (F r m).bind fun p => match p with
  | ([.int i, .int j], m1) => if -(2 ^ 62) ≤ i ∧ i < 2 ^ 62 ∧ -(2 ^ 62) ≤ j ∧ j < 2 ^ 62 then dFor b S (intsV i (j - i).toNat) r m1 else none
  | _ => none
theorem ds_forR1 {tg a : Expr} {Fs : DA} {body : List Stmt} {b : DG} {is : List Nat} {p1 p2 : Pos} (hc : X.calm = true) (hm : X.mg "range" = none) (ha : PA X [a] (tA (wd X g) Fs)) (hg : PGd X g tg b is) (hb : PSs X body (tS (wd X g) S)) (hgl : Gl X "range" := by rfl)
    (hs1 : starEach [a] X.env = [(false, eval a X.env)] := by rfl) (hp : PassesOwn (model X.prog X.w) X.A X.env X.xe := by exact PassesOwn.never) (hs : ∀ x, foldedSetIterable (.Call (.Name "range" p1) [a] [] p2) X.env x = pure x := by intro _; rfl) :
    PS X (.For tg (.Call (.Name "range" p1) [a] [] p2) body [] pos) (tS (wd X g) (dForR1 Fs b S)) := by
  obtain ⟨t, p, q⟩ := hg.ex
  refine ps_weak (ps_for hp hc (pi_range1 hgl hm ha hs1) p hb hs) fun D s H ⟨A, r, m, o, m', R, E, e, k⟩ => ?_
  obtain ⟨⟨xs, m1⟩, e1, e⟩ := Option.bind_eq_some_iff.mp e
  refine ⟨A, r, m, xs, m1, R, E, e1, fun vs H1 A1 t1 R1 q1 => ?_⟩
  split at e
  · rename_i n mm heq
    cases heq
    split at e
    · rename_i hn
      cases q1 with
      | cons q0 q1 =>
        cases q1
        cases q0
        exact ⟨n, rfl, hn.1, hn.2, rng_run q R1 (E.mono t1) e (k.after t1)⟩
    · cases e
  · cases e
theorem ds_forR2 {tg a c : Expr} {Fs : DA} {body : List Stmt} {b : DG} {is : List Nat} {p1 p2 : Pos} (hc : X.calm = true) (hm : X.mg "range" = none) (ha : PA X [a, c] (tA (wd X g) Fs)) (hg : PGd X g tg b is) (hb : PSs X body (tS (wd X g) S)) (hgl : Gl X "range" := by rfl)
    (hs1 : starEach [a, c] X.env = [(false, eval a X.env), (false, eval c X.env)] := by rfl) (hs2 : starEach [c] X.env = [(false, eval c X.env)] := by rfl) (hp : PassesOwn (model X.prog X.w) X.A X.env X.xe := by exact PassesOwn.never)
    (hs : ∀ x, foldedSetIterable (.Call (.Name "range" p1) [a, c] [] p2) X.env x = pure x := by intro _; rfl) :
    PS X (.For tg (.Call (.Name "range" p1) [a, c] [] p2) body [] pos) (tS (wd X g) (dForR2 Fs b S)) := by
  obtain ⟨t, p, q⟩ := hg.ex
  refine ps_weak (ps_for hp hc (pi_range2 hgl hm ha hs1 hs2) p hb hs) fun D s H ⟨A, r, m, o, m', R, E, e, k⟩ => ?_
  obtain ⟨⟨xs, m1⟩, e1, e⟩ := Option.bind_eq_some_iff.mp e
  refine ⟨A, r, m, xs, m1, R, E, e1, fun vs H1 A1 t1 R1 q1 => ?_⟩
  split at e
  · rename_i i j mm heq
    cases heq
    split at e
    · rename_i hn
      cases q1 with
      | cons q0 q1 => cases q1 with
        | cons q2 q1 =>
          cases q1
          cases q0
          cases q2
          exact ⟨i, j, rfl, hn, rng_run q R1 (E.mono t1) e (k.after t1)⟩
    · cases e
  · cases e
/-- over a list object, as it stands at each turn -/
def dForLs (b : DG) (S : DS) (i : Nat) : Nat → Nat → DS
  | 0, _ => fun _ _ => none
  | f + 1, j => fun r m => match m[i]? with
    | some (.lst xs) => match xs[j]? with
      | none => some (.nx r, m)
      | some x => (b x r).bind fun r1 => (S r1 m).bind fun p => match p with
        | (.nx r2, m2) => dForLs b S i f (j + 1) r2 m2
        | (.ct r2, m2) => dForLs b S i f (j + 1) r2 m2
        | (.bk r2, m2) => some (.nx r2, m2)
        | (.rt x, m2) => some (.rt x, m2)
    | _ => none
def dForL (F : DE) (b : DG) (S : DS) : DS := fun r m => (F r m).bind fun p => match p with
  | (.ref i, m1) => match m1[i]? with
    | some (.lst xs) => dForLs b S i (xs.length + 1) 0 r m1
    | _ => none
  | _ => none
theorem ds_forL {tg it : Expr} {body : List Stmt} {b : DG} {is : List Nat} (hc : X.calm = true) (hi : PE X it (tD (wd X g) F)) (hg : PGd X g tg b is) (hb : PSs X body (tS (wd X g) S)) (hp : PassesOwn (model X.prog X.w) X.A X.env X.xe := by exact PassesOwn.never)
    (hs : ∀ x, foldedSetIterable it X.env x = pure x := by intro _; rfl) : PS X (.For tg it body [] pos) (tS (wd X g) (dForL F b S)) := by
  obtain ⟨t, p, q⟩ := hg.ex
  refine ps_weak (ps_for hp hc (pi_list hi) p hb hs) fun D s H ⟨A, r, m, o, m', R, E, e, k⟩ => ?_
  obtain ⟨⟨x, m1⟩, e1, e⟩ := Option.bind_eq_some_iff.mp e
  refine ⟨A, r, m, x, m1, R, E, e1, fun v H1 A1 t1 R1 q1 => ?_⟩
  split at e
  · rename_i i mm heq
    cases heq
    split at e
    · rename_i xs hxs
      obtain ⟨a, rfl, ha⟩ := q1.ex_ref
      obtain ⟨vs, hv, qs⟩ := R1.lst ha hxs
      refine ⟨a, rfl, ⟨vs, .of hv⟩, fun j n s' H' => ∃ A' r m o m', A'[i]? = some a ∧ Rl (wd X g) A' H' m ∧ EnR (wd X g) A' H' s' r ∧ dForLs b S i n j r m = some (o, m') ∧ FinS (wd X g) A' H' m' o D, ⟨_, A1, r, _, o, m', ha, R1, E.mono t1, e, k.after t1⟩, ?_⟩
      rintro j n s' H' ⟨A2, r2, m2, o2, m2', ha2, R2, E2, e2, k2⟩
      cases n with
      | zero => cases e2
      | succ n =>
        unfold dForLs at e2
        split at e2
        · rename_i ys hys
          obtain ⟨us, hu, qu⟩ := R2.lst ha2 hys
          split at e2
          · rename_i hj
            cases e2
            refine .inl ⟨⟨us, .of hu, ?_⟩, k2 s' H' A2 .refl R2 E2⟩
            rw [qu.length]
            exact List.getElem?_eq_none_iff.mp hj
          · rename_i y hy
            obtain ⟨w, hw, qw⟩ := qu.get hy
            obtain ⟨r3, e3, e2⟩ := Option.bind_eq_some_iff.mp e2
            obtain ⟨⟨o4, m4⟩, e4, e2⟩ := Option.bind_eq_some_iff.mp e2
            refine .inr ⟨⟨us, w, .of hu, hw⟩, fun s5 H5 => ∃ A' r m o m', A'[i]? = some a ∧ Rl (wd X g) A' H5 m ∧ EnR (wd X g) A' H5 s5 r ∧ dForLs b S i n (j + 1) r m = some (o, m') ∧ FinS (wd X g) A' H5 m' o D, fun s5 H5 z => ⟨n, Nat.lt_succ_self n, z⟩, fun x H5 hy5 => ?_⟩
            obtain ⟨rfl, hx⟩ := hy5
            have ex : us[j]? = some x := hx us (.of hu)
            rw [hw] at ex
            cases ex
            refine q A2 H5 w y s' r2 r3 _ E2 qw e3 fun s3 E3 _ => ?_
            refine ⟨A2, r3, m2, o4, m4, R2, E3, e4, ?_⟩
            cases o4 with
            | nx r5 => exact fun s6 H6 A6 t6 R6 E6 => ⟨A6, r5, m4, o2, m2', t6.get ha2, R6, E6, e2, k2.after t6⟩
            | ct r5 => exact fun s6 H6 A6 t6 R6 E6 => ⟨A6, r5, m4, o2, m2', t6.get ha2, R6, E6, e2, k2.after t6⟩
            | bk r5 => cases e2; exact k2
            | rt y => cases e2; exact k2
        · cases e2
    · cases e
  · cases e
def dWhile (T : DT) (S : DS) : Nat → DS
  | 0 => fun _ _ => none
  | f + 1 => fun r m => (T r m).bind fun p => if p.1 = true then (S r p.2).bind fun q => match q with
      | (.nx r2, m2) => dWhile T S f r2 m2
      | (.ct r2, m2) => dWhile T S f r2 m2
      | (.bk r2, m2) => some (.nx r2, m2)
      | (.rt x, m2) => some (.rt x, m2)
    else some (.nx r, p.2)
theorem ds_while {c : Expr} {body : List Stmt} {T : DT} (f : Nat) (hc : PT X c (tT (wd X g) T)) (hb : PSs X body (tS (wd X g) S)) (hp : PassesOwn (model X.prog X.w) X.A X.env X.xe := by exact PassesOwn.never) : PS X (.While c body [] pos) (tS (wd X g) (dWhile T S f)) :=
  ps_weak (ps_while hp hc hb) fun D s H ⟨A, r, m, o, m', R, E, e, k⟩ => by
    refine ⟨fun n s' H' => ∃ A r m o m', Rl (wd X g) A H' m ∧ EnR (wd X g) A H' s' r ∧ dWhile T S n r m = some (o, m') ∧ FinS (wd X g) A H' m' o D, ⟨f, A, r, m, o, m', R, E, e, k⟩, ?_⟩
    rintro n s1 H1 ⟨A1, r1, m1, o1, m1', R1, E1, e1, k1⟩
    cases n with
    | zero => cases e1
    | succ n =>
      obtain ⟨⟨b, m2⟩, e2, e1⟩ := Option.bind_eq_some_iff.mp e1
      refine ⟨A1, r1, m1, b, m2, R1, E1, e2, fun H2 A2 t2 R2 => ?_⟩
      dsimp only at e1
      split at e1
      · rename_i hb'
        obtain ⟨⟨o3, m3⟩, e3, e1⟩ := Option.bind_eq_some_iff.mp e1
        refine ite2 (fun _ => ?_) fun z => absurd hb' z
        refine ⟨fun s' H' => ∃ A r m o m', Rl (wd X g) A H' m ∧ EnR (wd X g) A H' s' r ∧ dWhile T S n r m = some (o, m') ∧ FinS (wd X g) A H' m' o D, fun s' H' z => ⟨n, Nat.lt_succ_self n, z⟩, A2, r1, m2, o3, m3, R2, E1.mono t2, e3, ?_⟩
        cases o3 with
        | nx r5 => exact fun s6 H6 A6 t6 R6 E6 => ⟨A6, r5, m3, o1, m1', R6, E6, e1, (k1.after t2).after t6⟩
        | ct r5 => exact fun s6 H6 A6 t6 R6 E6 => ⟨A6, r5, m3, o1, m1', R6, E6, e1, (k1.after t2).after t6⟩
        | bk r5 => cases e1; exact k1.after t2
        | rt y => cases e1; exact k1.after t2
      · rename_i hb'
        cases e1
        exact ite2 (fun z => absurd z hb') fun _ => k1 s1 H2 A2 t2 R2 (E1.mono t2)
end

/-! ### a def -/
def dFn (k n : Nat) (S : DS) : DF := fun xs m => if xs.length = k then (S (xs.map some ++ List.replicate (n - k) none) m).bind fun p => match p with
    | (.rt x, m') => some (x, m')
    | (.nx _, m') => some (.non, m')
    | _ => none
  else none
theorem en_start {W : Wd} {A : List Addr} {H : Hp} (N : List Str) {vs : List V} {xs : List SV} (q : SRs W A H vs xs) : EnR W A H (L2.start N vs) (xs.map some ++ List.replicate (N.length - xs.length) none) := by
  have hl := q.length
  refine ⟨by simp [L2.start, hl], fun i x e => ?_⟩
  rcases Nat.lt_or_ge i xs.length with z | z
  · rw [List.getElem?_append_left (by simpa using z), List.getElem?_map] at e
    obtain ⟨y, e1, e2⟩ := Option.map_eq_some_iff.mp e
    cases e2
    obtain ⟨v, h1, h2⟩ := q.get e1
    refine ⟨v, ?_, h2⟩
    show (vs.map some ++ _)[i]? = _
    rw [List.getElem?_append_left (by rw [List.length_map, hl]; exact z), List.getElem?_map, h1]
    rfl
  · rw [List.getElem?_append_right (by simpa using z), List.getElem?_replicate] at e
    split at e <;> cases e
section
variable {P : Program} {w : World} {K : PySem.W.Frag} {mg : Str → Option Value} {base : Heap} {g : Gs}
theorem Fn.mk' {x qual : Str} {st : Stmt} {f : Addr} {fd : FuncData} {N ps : List Str} {k : Nat} {S : DS} (F : Fun K x qual st f fd) (sc : FnScope N ps (defScope st))
    (body : ∀ (cdv : Value) (A : Around) (outer : List Env) (s : Shared) (H : Hp) (E : XK), Room k (A.deeper (envOfC qual (defScope st) s.heap.objs.size f cdv)) → PSs (cxOf CX0 P w K mg base N qual (defScope st) f cdv A outer s H E).nox (defBody st) (tS ⟨P, w, K, g.sa, g.S⟩ S)) :
    FnOk P w K mg base CX0 (k + 1) f fd ps (spD ⟨P, w, K, g.sa, g.S⟩ (dFn ps.length N.length S)) := by
  refine F.ok sc (fun vs H Q E h => ?_) (fun cdv A outer s H vs Q E hr h => ⟨_, body cdv A outer s H E hr, ?_⟩)
  · obtain ⟨A, m, xs, y, m', R, q, e, k⟩ := h
    unfold dFn at e
    split at e
    · rename_i hl
      rw [q.length, hl]
    · cases e
  · obtain ⟨A, m, xs, y, m', R, q, e, k⟩ := h
    unfold dFn at e
    split at e
    · rename_i hl
      obtain ⟨⟨o, m1⟩, e1, e⟩ := Option.bind_eq_some_iff.mp e
      have es := en_start (W := ⟨P, w, K, g.sa, g.S⟩) N q
      rw [hl] at es
      refine ⟨A, _, m, o, m1, R, es, e1, ?_⟩
      split at e
      · rename_i z mm heq
        cases heq
        cases e
        exact k
      · rename_i z mm heq
        cases heq
        cases e
        exact fun s' H' A' t' R' _ => k _ H' A' t' R' .non
      · cases e
    · cases e
theorem Dn.mk' {x qual : Str} {st : Stmt} {f : Addr} {fd : FuncData} {N ps : List Str} {k : Nat} {S : DS} (F : Fun K x qual st f fd) (hm : mg x = some (.ref f)) (hb : Binds K fd ps []) (sc : FnScope N ps (defScope st))
    (body : ∀ (cdv : Value) (A : Around) (outer : List Env) (s : Shared) (H : Hp) (E : XK), Room k (A.deeper (envOfC qual (defScope st) s.heap.objs.size f cdv)) → PSs (cxOf CX0 P w K mg base N qual (defScope st) f cdv A outer s H E).nox (defBody st) (tS ⟨P, w, K, g.sa, g.S⟩ S)) :
    Dn P w K mg base g x ps (k + 1) (dFn ps.length N.length S) := ⟨f, fd, Fn.mk' F sc body, hm, F.kp, hb⟩
theorem Dn.mono {x : Str} {ps : List Str} {j k : Nat} {f : DF} (D : Dn P w K mg base g x ps j f) (h : j ≤ k) : Dn P w K mg base g x ps k f := by
  obtain ⟨a, fd, F, r⟩ := D.ex
  exact ⟨a, fd, F.mono h, r⟩
/-- another meaning that tells less -/
theorem Dn.imp {x : Str} {ps : List Str} {k : Nat} {f f' : DF} (D : Dn P w K mg base g x ps k f) (h : ∀ xs m y m', f' xs m = some (y, m') → f xs m = some (y, m')) : Dn P w K mg base g x ps k f' := by
  obtain ⟨a, fd, F, r⟩ := D.ex
  exact ⟨a, fd, F.imp fun vs H Q E ⟨A, m, xs, y, m', R, q, e, k⟩ => ⟨A, m, xs, y, m', R, q, h _ _ _ _ e, k⟩, r⟩
end
end VW

/-! viewwood k93: operations by values. -/
namespace VW
open PySem PySem.Spec PyProof.Rows L2

/-! ### plain data -/
mutual
def dataOf : SV → Option PyData
  | .non => some .none
  | .bl b => some (.bool b)
  | .int i => some (.int i)
  | .str x => some (.str x)
  | .tup xs => (datasOf xs).map .tuple
  | .ref _ => none
  | .scr _ => none
def datasOf : List SV → Option (List PyData)
  | [] => some []
  | x :: xs => (dataOf x).bind fun d => (datasOf xs).map (d :: ·)
end
mutual
theorem dp_of {W : Wd} {A : List Addr} {H : Hp} : ∀ {v : V} {x : SV} {d : PyData}, SR W A H v x → dataOf x = some d → Dp W.K H v d
  | _, _, _, .non, e => by cases e; exact .non
  | _, _, _, .bl b, e => by cases e; exact .bl b
  | _, _, _, .int i, e => by cases e; exact .int i
  | _, _, _, .str x, e => by cases e; exact .str x
  | _, _, _, .tup h hs, e => by
    obtain ⟨ds, e1, e2⟩ := Option.map_eq_some_iff.mp (by rw [dataOf] at e; exact e)
    subst e2
    exact .tup h.sq (dps_of hs e1)
  | _, _, _, .ref h, e => by cases e
  | _, _, _, .scr, e => by cases e
theorem dps_of {W : Wd} {A : List Addr} {H : Hp} : ∀ {vs : List V} {xs : List SV} {ds : List PyData}, SRs W A H vs xs → datasOf xs = some ds → DpAll W.K H vs ds
  | _, _, _, .nil, e => by cases e; exact .nil
  | _, _, _, .cons h hs, e => by
    rw [datasOf] at e
    obtain ⟨d, e1, e⟩ := Option.bind_eq_some_iff.mp e
    obtain ⟨ds, e2, e3⟩ := Option.map_eq_some_iff.mp e
    subst e3
    exact .cons (dp_of h e1) (dps_of hs e2)
end
/-- plain, nested at most n deep: no truth, no object -/
def pl : Nat → SV → Bool
  | _, .non => true
  | _, .int _ => true
  | _, .str x => PyData.strOk x
  | 0, .tup _ => false
  | n + 1, .tup xs => xs.attach.all fun ⟨x, _⟩ => pl n x
  | _, .bl _ => false
  | _, .ref _ => false
  | _, .scr _ => false
theorem pl_tup (n : Nat) (xs : List SV) : pl (n + 1) (.tup xs) = xs.all (pl n) := by
  rw [pl]
  rw [List.all_eq, List.all_eq]
  simp
def pls (n : Nat) (xs : List SV) : Bool := xs.all (pl n)
mutual
theorem pl_data : ∀ (n : Nat) (x : SV), pl n x = true → ∃ d, dataOf x = some d ∧ d.canLay0 = true ∧ d.depth ≤ n
  | n, .non, _ => ⟨_, rfl, rfl, by simp [PyData.depth]⟩
  | n, .int i, _ => ⟨_, rfl, rfl, by simp [PyData.depth]⟩
  | n, .str x, h => ⟨_, rfl, by simpa [pl, PyData.canLay0] using h, by simp [PyData.depth]⟩
  | 0, .tup xs, h => by simp [pl] at h
  | n + 1, .tup xs, h => by
    rw [pl_tup] at h
    obtain ⟨ds, e, c, d⟩ := pls_data n xs h
    exact ⟨.tuple ds, by rw [dataOf, e]; rfl, by simpa [PyData.canLay0] using c, by simp only [PyData.depth]; omega⟩
  | n, .bl b, h => by simp [pl] at h
  | n, .ref b, h => by simp [pl] at h
  | n, .scr b, h => by simp [pl] at h
theorem pls_data : ∀ (n : Nat) (xs : List SV), xs.all (pl n) = true → ∃ ds, datasOf xs = some ds ∧ PyData.canLayAll0 ds = true ∧ PyData.depthAll ds ≤ n
  | n, [], _ => ⟨[], rfl, by simp [PyData.canLayAll0], by simp [PyData.depthAll]⟩
  | n, x :: xs, h => by
    rw [List.all_cons, Bool.and_eq_true] at h
    obtain ⟨d, e, c, l⟩ := pl_data n x h.1
    obtain ⟨ds, e2, c2, l2⟩ := pls_data n xs h.2
    exact ⟨d :: ds, by rw [datasOf, e, e2]; rfl, by simp [PyData.canLayAll0, c, c2], by simp only [PyData.depthAll]; omega⟩
end
mutual
theorem eqv_pl : ∀ (n k : Nat) (x y : SV) (d e : PyData), pl n x = true → pl k y = true → dataOf x = some d → dataOf y = some e → PyData.eqv d e = decide (x = y)
  | n, k, .non, y, d, e, hx, hy, ex, ey => by
    cases ex
    cases y with
    | non => cases ey; simp [PyData.eqv]
    | bl b => simp [pl] at hy
    | int i => cases ey; simp [PyData.eqv]
    | str i => cases ey; simp [PyData.eqv]
    | tup ys => rw [dataOf] at ey; obtain ⟨ds, _, e2⟩ := Option.map_eq_some_iff.mp ey; subst e2; simp [PyData.eqv]
    | ref i => cases ey
    | scr i => cases ey
  | n, k, .int i, y, d, e, hx, hy, ex, ey => by
    cases ex
    cases y with
    | non => cases ey; simp [PyData.eqv]
    | bl b => simp [pl] at hy
    | int j => cases ey; rw [PyData.eqv]; simp [Bool.beq_eq_decide_eq]
    | str i => cases ey; simp [PyData.eqv]
    | tup ys => rw [dataOf] at ey; obtain ⟨ds, _, e2⟩ := Option.map_eq_some_iff.mp ey; subst e2; simp [PyData.eqv]
    | ref i => cases ey
    | scr i => cases ey
  | n, k, .str x, y, d, e, hx, hy, ex, ey => by
    cases ex
    cases y with
    | non => cases ey; simp [PyData.eqv]
    | bl b => simp [pl] at hy
    | int j => cases ey; simp [PyData.eqv]
    | str z =>
      cases ey
      rw [PyData.eqv]
      by_cases h : x = z
      · subst h; simp
      · simp [h]
    | tup ys => rw [dataOf] at ey; obtain ⟨ds, _, e2⟩ := Option.map_eq_some_iff.mp ey; subst e2; simp [PyData.eqv]
    | ref i => cases ey
    | scr i => cases ey
  | 0, _, .tup xs, y, d, e, hx, hy, ex, ey => by simp [pl] at hx
  | n + 1, k, .tup xs, y, d, e, hx, hy, ex, ey => by
    rw [dataOf] at ex
    obtain ⟨ds, e1, e2⟩ := Option.map_eq_some_iff.mp ex
    subst e2
    cases y with
    | non => cases ey; simp [PyData.eqv]
    | bl b => simp [pl] at hy
    | int j => cases ey; simp [PyData.eqv]
    | str z => cases ey; simp [PyData.eqv]
    | tup ys =>
      rw [dataOf] at ey
      obtain ⟨es, e3, e4⟩ := Option.map_eq_some_iff.mp ey
      subst e4
      cases k with
      | zero => simp [pl] at hy
      | succ k =>
        rw [pl_tup] at hx hy
        rw [PyData.eqv, eqvs_pl n k xs ys ds es hx hy e1 e3]
        simp
    | ref i => cases ey
    | scr i => cases ey
  | _, _, .bl b, y, d, e, hx, hy, ex, ey => by simp [pl] at hx
  | _, _, .ref b, y, d, e, hx, hy, ex, ey => by cases ex
  | _, _, .scr b, y, d, e, hx, hy, ex, ey => by cases ex
theorem eqvs_pl : ∀ (n k : Nat) (xs ys : List SV) (ds es : List PyData), xs.all (pl n) = true → ys.all (pl k) = true → datasOf xs = some ds → datasOf ys = some es → PyData.eqvAll ds es = decide (xs = ys)
  | n, k, [], ys, ds, es, hx, hy, ex, ey => by
    cases ex
    cases ys with
    | nil => cases ey; simp [PyData.eqvAll]
    | cons y ys =>
      rw [datasOf] at ey
      obtain ⟨d, e1, ey⟩ := Option.bind_eq_some_iff.mp ey
      obtain ⟨ds, e2, e3⟩ := Option.map_eq_some_iff.mp ey
      subst e3
      simp [PyData.eqvAll]
  | n, k, x :: xs, ys, ds, es, hx, hy, ex, ey => by
    rw [datasOf] at ex
    obtain ⟨d1, e1, ex⟩ := Option.bind_eq_some_iff.mp ex
    obtain ⟨ds1, e2, e3⟩ := Option.map_eq_some_iff.mp ex
    subst e3
    cases ys with
    | nil => cases ey; simp [PyData.eqvAll]
    | cons y ys =>
      rw [datasOf] at ey
      obtain ⟨d2, e4, ey⟩ := Option.bind_eq_some_iff.mp ey
      obtain ⟨ds2, e5, e6⟩ := Option.map_eq_some_iff.mp ey
      subst e6
      rw [List.all_cons, Bool.and_eq_true] at hx hy
      rw [PyData.eqvAll, eqv_pl n k x y d1 d2 hx.1 hy.1 e1 e4, eqvs_pl n k xs ys ds1 ds2 hx.2 hy.2 e2 e5]
      simp [Bool.decide_and]
end
theorem pl_shaped {x : SV} {d : PyData} (h : pl 60 x = true) (e : dataOf x = some d) : SeqAt.shaped d = true := by
  obtain ⟨d', e', c, l⟩ := pl_data 60 x h
  rw [e] at e'; cases e'
  unfold SeqAt.shaped
  rw [c, decide_eq_true (by omega)]
  rfl

/-! ### ==, != -/
def dataM (m : Mu) : SV → Option PyData
  | .ref i => match m[i]? with
    | some (.lst xs) => (datasOf xs).map .list
    | _ => none
  | x => dataOf x
theorem dpM {W : Wd} {A : List Addr} {H : Hp} {m : Mu} (R : Rl W A H m) {v : V} {x : SV} {d : PyData} (q : SR W A H v x) (e : dataM m x = some d) : Dp W.K H v d := by
  cases x with
  | ref i =>
    unfold dataM at e
    dsimp only at e
    split at e
    · rename_i xs hx
      obtain ⟨ds, e1, e2⟩ := Option.map_eq_some_iff.mp e
      subst e2
      obtain ⟨a, rfl, ha⟩ := q.ex_ref
      obtain ⟨vs, hv, qs⟩ := R.lst ha hx
      exact .lst (.of hv) (dps_of qs e1)
    · cases e
  | _ => exact dp_of q e
def fEq : F2 := fun x y m => match dataM m x, dataM m y with
  | some d, some e => if SeqAt.shaped d && SeqAt.shaped e then some (.bl (PyData.eqv d e), m) else none
  | _, _ => none
def fNe : F2 := fun x y m => match dataM m x, dataM m y with
  | some d, some e => if SeqAt.shaped d && SeqAt.shaped e then some (.bl (!PyData.eqv d e), m) else none
  | _, _ => none
section
variable {W : Wd}
theorem se_eq : Sem2 W (rEqD W.K) fEq := fun A H m v u x y z m' Q R qx qy e k => by
  unfold fEq at e
  split at e
  · rename_i d e' hd he
    split at e
    · rename_i hs
      rw [Bool.and_eq_true] at hs
      cases e
      exact ⟨d, e', dpM R qx hd, dpM R qy he, hs.1, hs.2, k.now R (.bl _)⟩
    · cases e
  · cases e
theorem se_ne : Sem2 W (rNeD W.K) fNe := fun A H m v u x y z m' Q R qx qy e k => by
  unfold fNe at e
  split at e
  · rename_i d e' hd he
    split at e
    · rename_i hs
      rw [Bool.and_eq_true] at hs
      cases e
      exact ⟨d, e', dpM R qx hd, dpM R qy he, hs.1, hs.2, k.now R (.bl _)⟩
    · cases e
  · cases e
theorem dataM_pl {m : Mu} {n : Nat} {x : SV} (h : pl n x = true) : dataM m x = dataOf x := by
  cases x <;> first | rfl | simp [pl] at h
theorem fEq_pl {x y : SV} {m : Mu} (hx : pl 60 x = true) (hy : pl 60 y = true) : fEq x y m = some (.bl (decide (x = y)), m) := by
  obtain ⟨d, e, _⟩ := pl_data 60 x hx
  obtain ⟨d', e', _⟩ := pl_data 60 y hy
  unfold fEq
  rw [dataM_pl hx, dataM_pl hy, e, e']
  dsimp only
  rw [pl_shaped hx e, pl_shaped hy e', eqv_pl 60 60 x y d d' hx hy e e']
  rfl
theorem fNe_pl {x y : SV} {m : Mu} (hx : pl 60 x = true) (hy : pl 60 y = true) : fNe x y m = some (.bl (!decide (x = y)), m) := by
  obtain ⟨d, e, _⟩ := pl_data 60 x hx
  obtain ⟨d', e', _⟩ := pl_data 60 y hy
  unfold fNe
  rw [dataM_pl hx, dataM_pl hy, e, e']
  dsimp only
  rw [pl_shaped hx e, pl_shaped hy e', eqv_pl 60 60 x y d d' hx hy e e']
  rfl
theorem fNe_bl {a b : Bool} {m : Mu} : fNe (.bl a) (.bl b) m = some (.bl (!decide (a = b)), m) := by
  cases a <;> cases b <;> simp [fNe, dataM, dataOf, SeqAt.shaped, PyData.canLay0, PyData.depth, PyData.eqv]
theorem fNe_lst {i j : Nat} {xs ys : List SV} {m : Mu} (hi : m[i]? = some (.lst xs)) (hj : m[j]? = some (.lst ys)) (hx : pls 40 xs = true) (hy : pls 40 ys = true) : fNe (.ref i) (.ref j) m = some (.bl (!decide (xs = ys)), m) := by
  obtain ⟨d, e, c, l⟩ := pls_data 40 xs hx
  obtain ⟨d', e', c', l'⟩ := pls_data 40 ys hy
  unfold fNe
  have s : ∀ {ds : List PyData}, PyData.canLayAll0 ds = true → PyData.depthAll ds ≤ 40 → SeqAt.shaped (.list ds) = true := fun {ds} a b => by
    unfold SeqAt.shaped
    rw [show PyData.canLay0 (.list ds) = true by simpa [PyData.canLay0] using a, decide_eq_true (by simp only [PyData.depth]; omega)]
    rfl
  simp only [dataM, hi, hj, e, e', Option.map_some]
  rw [s c l, s c' l']
  show some (SV.bl (!PyData.eqv (.list d) (.list d')), m) = _
  rw [show PyData.eqv (.list d) (.list d') = PyData.eqvAll d d' by rw [PyData.eqv], eqvs_pl 40 40 xs ys d d' hx hy e e']

/-! ### in -/
def itemsM (m : Mu) : SV → Option (List SV)
  | .tup xs => some xs
  | .ref i => match m[i]? with
    | some (.lst xs) => some xs
    | _ => none
  | _ => none
def inS (x y : SV) (m : Mu) : Option Bool := match dataOf x, (itemsM m y).bind datasOf with
  | some d, some ds => if SeqAt.shaped d && SeqAt.shaped (.list ds) then some (ds.any fun z => PyData.eqv z d) else none
  | _, _ => none
def fInS : F2 := fun x y m => (inS x y m).map fun b => (.bl b, m)
def fNinS : F2 := fun x y m => (inS x y m).map fun b => (.bl (!b), m)
end
section
variable {X : Cx} {g : Gs}
def rInQ (K : PySem.W.Frag) (neg : Bool) : R2 := fun x y H Q => ∃ d ds, Dp K H x d ∧ (Dp K H y (.list ds) ∨ Dp K H y (.tuple ds)) ∧ SeqAt.shaped d = true ∧ SeqAt.shaped (.list ds) = true ∧ Q (.bl (if neg then !ds.any fun z => PyData.eqv z d else ds.any fun z => PyData.eqv z d)) H
theorem canAll_shaped {ds : List PyData} (h : SeqAt.shaped (.list ds) = true) : PyData.canLayAll0 ds = true := by simpa [PyData.canLay0] using SeqAt.canLay_of_shaped h
theorem op_inQ {k : Nat} (hr : Room k X.A) : OpR X (compareOp .In) (rInQ X.K false) := by
  intro pins s σ H x y v u Q I rx ry h
  obtain ⟨d, ds, hd, he, sd, se, q⟩ := h
  have hu : X.A.units + 65 < cLine := by have := hr.un; omega
  obtain ⟨as, r1⟩ := Dp.reads I d x v hd rx
  rcases he with he | he
  · obtain ⟨bs, r2⟩ := Dp.reads I (.list ds) y u he ry
    exact SeqAt.in_list_reads r2 r1 (canAll_shaped se) (SeqAt.canLay_of_shaped sd) (room_in_shaped sd hu) ⟨.bl _, H, I, rfl, q⟩
  · obtain ⟨bs, r2⟩ := Dp.reads I (.tuple ds) y u he ry
    exact SeqAt.in_tuple_reads r2 r1 (canAll_shaped se) (SeqAt.canLay_of_shaped sd) (room_in_shaped sd hu) ⟨.bl _, H, I, rfl, q⟩
theorem op_ninQ {k : Nat} (hr : Room k X.A) : OpR X (compareOp .NotIn) (rInQ X.K true) := by
  intro pins s σ H x y v u Q I rx ry h
  obtain ⟨d, ds, hd, he, sd, se, q⟩ := h
  have hu : X.A.units + 65 < cLine := by have := hr.un; omega
  obtain ⟨as, r1⟩ := Dp.reads I d x v hd rx
  rcases he with he | he
  · obtain ⟨bs, r2⟩ := Dp.reads I (.list ds) y u he ry
    exact SeqAt.notIn_list_reads r2 r1 (canAll_shaped se) (SeqAt.canLay_of_shaped sd) (room_in_shaped sd hu) ⟨.bl _, H, I, rfl, q⟩
  · obtain ⟨bs, r2⟩ := Dp.reads I (.tuple ds) y u he ry
    exact SeqAt.notIn_tuple_reads r2 r1 (canAll_shaped se) (SeqAt.canLay_of_shaped sd) (room_in_shaped sd hu) ⟨.bl _, H, I, rfl, q⟩
end
section
variable {W : Wd}
theorem inS_dp {A : List Addr} {H : Hp} {m : Mu} (R : Rl W A H m) {v u : V} {x y : SV} (qx : SR W A H v x) (qy : SR W A H u y) {b : Bool} (e : inS x y m = some b) :
    ∃ d ds, Dp W.K H v d ∧ (Dp W.K H u (.list ds) ∨ Dp W.K H u (.tuple ds)) ∧ SeqAt.shaped d = true ∧ SeqAt.shaped (.list ds) = true ∧ b = ds.any fun z => PyData.eqv z d := by
  unfold inS at e
  split at e
  · rename_i d ds hd hds
    split at e
    · rename_i hs
      rw [Bool.and_eq_true] at hs
      cases e
      refine ⟨d, ds, dp_of qx hd, ?_, hs.1, hs.2, rfl⟩
      obtain ⟨xs, h1, h2⟩ := Option.bind_eq_some_iff.mp hds
      cases y with
      | tup ys =>
        cases h1
        obtain ⟨a, vs, rfl, ht, qs⟩ := qy.ex_tup
        exact .inr (.tup ht.sq (dps_of qs h2))
      | ref i =>
        unfold itemsM at h1
        dsimp only at h1
        split at h1
        · rename_i ys hy
          cases h1
          obtain ⟨a, rfl, ha⟩ := qy.ex_ref
          obtain ⟨vs, hv, qs⟩ := R.lst ha hy
          exact .inl (.lst (.of hv) (dps_of qs h2))
        · cases h1
      | _ => cases h1
    · cases e
  · cases e
theorem se_inS : Sem2 W (rInQ W.K false) fInS := fun A H m v u x y z m' Q R qx qy e k => by
  obtain ⟨b, e1, e2⟩ := Option.map_eq_some_iff.mp e
  cases e2
  obtain ⟨d, ds, h1, h2, h3, h4, rfl⟩ := inS_dp R qx qy e1
  exact ⟨d, ds, h1, h2, h3, h4, k.now R (.bl _)⟩
theorem se_ninS : Sem2 W (rInQ W.K true) fNinS := fun A H m v u x y z m' Q R qx qy e k => by
  obtain ⟨b, e1, e2⟩ := Option.map_eq_some_iff.mp e
  cases e2
  obtain ⟨d, ds, h1, h2, h3, h4, rfl⟩ := inS_dp R qx qy e1
  exact ⟨d, ds, h1, h2, h3, h4, k.now R (.bl _)⟩
theorem any_pl (x : SV) (d : PyData) (hx : pl 40 x = true) (ed : dataOf x = some d) : ∀ (ys : List SV) (ds : List PyData), ys.all (pl 40) = true → datasOf ys = some ds → (ds.any fun z => PyData.eqv z d) = decide (x ∈ ys)
  | [], ds, _, e => by cases e; simp
  | y :: ys, ds, h, e => by
    rw [datasOf] at e
    obtain ⟨d1, e1, e⟩ := Option.bind_eq_some_iff.mp e
    obtain ⟨ds1, e2, e3⟩ := Option.map_eq_some_iff.mp e
    subst e3
    rw [List.all_cons, Bool.and_eq_true] at h
    rw [List.any_cons, any_pl x d hx ed ys ds1 h.2 e2, eqv_pl 40 40 y x d1 d h.1 hx e1 ed, ← Bool.decide_or]
    refine decide_eq_decide.mpr ?_
    rw [List.mem_cons]
    constructor
    · rintro (h | h)
      · exact .inl h.symm
      · exact .inr h
    · rintro (h | h)
      · exact .inl h.symm
      · exact .inr h
theorem inS_pl {x y : SV} {ys : List SV} {m : Mu} (hi : itemsM m y = some ys) (hx : pl 40 x = true) (hy : pls 40 ys = true) : inS x y m = some (decide (x ∈ ys)) := by
  obtain ⟨d, e, c, l⟩ := pl_data 40 x hx
  obtain ⟨ds, e', c', l'⟩ := pls_data 40 ys hy
  have s : SeqAt.shaped (.list ds) = true := by
    unfold SeqAt.shaped
    rw [show PyData.canLay0 (.list ds) = true by simpa [PyData.canLay0] using c', decide_eq_true (by simp only [PyData.depth]; omega)]
    rfl
  have s' : SeqAt.shaped d = true := by
    unfold SeqAt.shaped
    rw [c, decide_eq_true (by omega)]
    rfl
  unfold inS
  rw [hi, e]
  simp only [Option.bind_some, e', s, s', Bool.and_self, if_true]
  rw [any_pl x d hx e ys ds hy e']
theorem fInS_pl {x y : SV} {ys : List SV} {m : Mu} (hi : itemsM m y = some ys) (hx : pl 40 x = true) (hy : pls 40 ys = true) : fInS x y m = some (.bl (decide (x ∈ ys)), m) := by
  unfold fInS; rw [inS_pl hi hx hy]; rfl
theorem fNinS_pl {x y : SV} {ys : List SV} {m : Mu} (hi : itemsM m y = some ys) (hx : pl 40 x = true) (hy : pls 40 ys = true) : fNinS x y m = some (.bl (!decide (x ∈ ys)), m) := by
  unfold fNinS; rw [inS_pl hi hx hy]; rfl

/-! ### ints -/
def fII (f : Int → Int → SV) : F2 := fun x y m => match x, y with
  | .int i, .int j => some (f i j, m)
  | _, _ => none
theorem se_II {f : Int → Int → SV} {f' : Int → Int → V} (h : ∀ A H i j, SR W A H (f' i j) (f i j)) : Sem2 W (rI0 f') (fII f) := fun A H m v u x y z m' Q R qx qy e k => by
  unfold fII at e
  split at e
  · cases e
    cases qx
    cases qy
    exact ⟨_, _, rfl, rfl, k.now R (h A H _ _)⟩
  · cases e
def fIIc (C : Int → Int → Prop) [∀ i j, Decidable (C i j)] (f : Int → Int → SV) : F2 := fun x y m => match x, y with
  | .int i, .int j => if C i j then some (f i j, m) else none
  | _, _ => none
theorem se_IIc {C C' : Int → Int → Prop} [∀ i j, Decidable (C i j)] {f : Int → Int → SV} {f' : Int → Int → V} (hc : ∀ i j, C i j → C' i j) (h : ∀ A H i j, SR W A H (f' i j) (f i j)) : Sem2 W (rI C' f') (fIIc C f) := fun A H m v u x y z m' Q R qx qy e k => by
  unfold fIIc at e
  split at e
  · split at e
    · cases e
      cases qx
      cases qy
      exact ⟨_, _, rfl, rfl, hc _ _ (by assumption), k.now R (h A H _ _)⟩
    · cases e
  · cases e
def fLt : F2 := fII fun i j => .bl (decide (i < j))
def fLe : F2 := fII fun i j => .bl (decide (i ≤ j))
def fGt : F2 := fII fun i j => .bl (decide (j < i))
def fGe : F2 := fII fun i j => .bl (decide (j ≤ i))
def fSub : F2 := fII fun i j => .int (i - j)
theorem se_lt : Sem2 W (rI0 fun i j => .bl (decide (i < j))) fLt := se_II fun _ _ _ _ => .bl _
theorem se_le : Sem2 W (rI0 fun i j => .bl (decide (i ≤ j))) fLe := se_II fun _ _ _ _ => .bl _
theorem se_gt : Sem2 W (rI0 fun i j => .bl (decide (j < i))) fGt := se_II fun _ _ _ _ => .bl _
theorem se_ge : Sem2 W (rI0 fun i j => .bl (decide (j ≤ i))) fGe := se_II fun _ _ _ _ => .bl _
theorem se_sub : Sem2 W (rI0 fun i j => .int (i - j)) fSub := se_II fun _ _ _ _ => .int _
def cMul (i j : Int) : Prop := -4611686018427387904 < i ∧ i < 4611686018427387904
instance (i j : Int) : Decidable (cMul i j) := inferInstanceAs (Decidable (_ ∧ _))
def fMul : F2 := fIIc cMul fun i j => .int (i * j)
theorem se_mul : Sem2 W (rI CMul fun i j => .int (i * j)) fMul := se_IIc (fun i j h => .inl ⟨by have := h.1; omega, by have := h.2; omega⟩) fun _ _ _ _ => .int _
def fMod : F2 := fIIc (fun _ j => 0 < j) fun i j => .int (i % j)
theorem se_mod : Sem2 W (rI (fun _ j => 0 < j) fun i j => .int (i % j)) fMod := se_IIc (fun _ _ h => h) fun _ _ _ _ => .int _
def cDiv (_ j : Int) : Prop := 0 < j ∧ j < 4611686018427387904
instance (i j : Int) : Decidable (cDiv i j) := inferInstanceAs (Decidable (_ ∧ _))
def fDiv : F2 := fIIc cDiv fun i j => .int (i / j)
theorem se_div : Sem2 W (rI CDivW fun i j => .int (i / j)) fDiv := se_IIc (C' := CDivW) (fun i j h => by
  obtain ⟨h1, h2⟩ := h
  refine wide_div h1 (b := 62) ?_ (by decide) (by decide)
  have h3 : (2 : Nat) ^ 62 = 4611686018427387904 := by decide
  omega) fun _ _ _ _ => .int _
def cPow (i j : Int) : Prop := 0 ≤ j ∧ j ≤ 100 ∧ 0 ≤ i ∧ i ≤ 100
instance (i j : Int) : Decidable (cPow i j) := inferInstanceAs (Decidable (_ ∧ _))
def fPow : F2 := fIIc cPow fun i j => .int (i ^ j.toNat)
theorem se_pow : Sem2 W (rI CPow fun i j => .int (i ^ j.toNat)) fPow := se_IIc (fun i j h => ⟨h.1, by have := h.2.1; omega, by have := h.2.2; omega⟩) fun _ _ _ _ => .int _
def fNeg : F1 := fun x m => match x with
  | .int i => some (.int (-i), m)
  | _ => none
theorem se_neg : Sem1 W (rU fun i => .int (-i)) fNeg := fun A H m v x z m' Q R qx e k => by
  unfold fNeg at e
  split at e
  · cases e
    cases qx
    exact ⟨_, rfl, k.now R (.int _)⟩
  · cases e

/-! ### is -/
def fIsN : F2 := fun x y m => match y with
  | .non => some (.bl (decide (x = .non)), m)
  | _ => none
def fNotN : F2 := fun x y m => match y with
  | .non => some (.bl (!decide (x = .non)), m)
  | _ => none
theorem non_iff {A : List Addr} {H : Hp} {v : V} {x : SV} (q : SR W A H v x) : decide (v = .non) = decide (x = .non) := by
  cases q <;> simp
theorem se_isN : Sem2 W (fun x y H Q => y = .non ∧ Q (.bl (decide (x = .non))) H) fIsN := fun A H m v u x y z m' Q R qx qy e k => by
  unfold fIsN at e
  split at e
  · cases e
    cases qy
    exact ⟨rfl, k.now R (by rw [non_iff qx]; exact .bl _)⟩
  · cases e
theorem se_notN : Sem2 W (fun x y H Q => y = .non ∧ Q (.bl (!decide (x = .non))) H) fNotN := fun A H m v u x y z m' Q R qx qy e k => by
  unfold fNotN at e
  split at e
  · cases e
    cases qy
    exact ⟨rfl, k.now R (by rw [non_iff qx]; exact .bl _)⟩
  · cases e
def fIsB : F2 := fun x y m => match x, y with
  | .bl a, .bl b => some (.bl (decide (a = b)), m)
  | _, _ => none
def fNotB : F2 := fun x y m => match x, y with
  | .bl a, .bl b => some (.bl (!decide (a = b)), m)
  | _, _ => none
theorem se_isB : Sem2 W (fun x y H Q => ∃ a b, x = .bl a ∧ y = .bl b ∧ Q (.bl (decide (a = b))) H) fIsB := fun A H m v u x y z m' Q R qx qy e k => by
  unfold fIsB at e
  split at e
  · cases e
    cases qx
    cases qy
    exact ⟨_, _, rfl, rfl, k.now R (.bl _)⟩
  · cases e
theorem se_notB : Sem2 W (fun x y H Q => ∃ a b, x = .bl a ∧ y = .bl b ∧ Q (.bl (!decide (a = b))) H) fNotB := fun A H m v u x y z m' Q R qx qy e k => by
  unfold fNotB at e
  split at e
  · cases e
    cases qx
    cases qy
    exact ⟨_, _, rfl, rfl, k.now R (.bl _)⟩
  · cases e

/-! ### + -/
def fAdd : F2 := fun x y m => match x, y with
  | .int i, .int j => some (.int (i + j), m)
  | .tup xs, .tup ys => if xs.length + ys.length ≤ 1000 then some (.tup (xs ++ ys), m) else none
  | .ref i, .ref j => match m[i]?, m[j]? with
    | some (.lst xs), some (.lst ys) => if xs.length + ys.length ≤ 1000 then some (.ref m.length, m ++ [.lst (xs ++ ys)]) else none
    | _, _ => none
  | _, _ => none
theorem se_add : Sem2 W (fun x y H Q => rI0 (fun i j => .int (i + j)) x y H Q ∨ (rCatF W.K x y H Q ∨ rCat x y H Q)) fAdd := fun A H m v u x y z m' Q R qx qy e k => by
  unfold fAdd at e
  split at e
  · cases e
    cases qx
    cases qy
    exact .inl ⟨_, _, rfl, rfl, k.now R (.int _)⟩
  · split at e
    · rename_i xs ys hl
      cases e
      obtain ⟨a, vs, rfl, ha, qa⟩ := qx.ex_tup
      obtain ⟨b, us, rfl, hb, qb⟩ := qy.ex_tup
      refine .inr (.inl ⟨a, b, vs, us, rfl, rfl, ha.sq, hb.sq, by rw [qa.length, qb.length]; exact le_line (by omega), fun h => ?_, fun _ h => ?_, fun _ _ => tup_new R (qa.append qb) k⟩)
      · subst h; cases qa
        exact k.now R (.tup hb qb)
      · subst h; cases qb
        rw [List.append_nil] at k
        exact k.now R (.tup ha qa)
    · cases e
  · split at e
    · rename_i i j xs ys h1 h2
      split at e
      · rename_i hl
        cases e
        obtain ⟨a, rfl, ha⟩ := qx.ex_ref
        obtain ⟨b, rfl, hb⟩ := qy.ex_ref
        obtain ⟨vs, hv, qa⟩ := R.lst ha h1
        obtain ⟨us, hu, qb⟩ := R.lst hb h2
        exact .inr (.inr ⟨a, b, vs, us, rfl, rfl, hv, hu, by rw [qa.length, qb.length]; exact le_line (by omega), fun p hp => lst_new R (qa.append qb) hp k⟩)
      · cases e
    · cases e
  · cases e
theorem op_addA {X : Cx} : OpR X (binaryOp .Add) (fun x y H Q => rI0 (fun i j => .int (i + j)) x y H Q ∨ (rCatF X.K x y H Q ∨ rCat x y H Q)) := op_add.or (op_catF.or op_cat)

/-! ### subscripts -/
def fIx : F2 := fun x y m => match y with
  | .int i => match x with
    | .scr ns => (atI ns i).map fun n => (.int n, m)
    | _ => (itemsM m x).bind fun xs => (atI xs i).map fun z => (z, m)
  | _ => none
theorem atI_sr {A : List Addr} {H : Hp} {vs : List V} {xs : List SV} (q : SRs W A H vs xs) {i : Int} {z : SV} (e : atI xs i = some z) : ∃ v, atI vs i = some v ∧ SR W A H v z := by
  unfold atI at e ⊢
  rw [q.length]
  obtain ⟨j, h1, h2⟩ := Option.bind_eq_some_iff.mp e
  obtain ⟨v, h3, h4⟩ := q.get h2
  exact ⟨v, by rw [h1]; exact h3, h4⟩
theorem atI_map {α β : Type} (f : α → β) (xs : List α) (i : Int) : atI (xs.map f) i = (atI xs i).map f := by
  unfold atI
  rw [List.length_map]
  cases ixN xs.length i with
  | none => rfl
  | some j => simp
theorem se_ix : Sem2 W (fun x y H Q => rIxL W.K x y H Q ∨ rIxT W.K x y H Q) fIx := fun A H m v u x y z m' Q R qx qy e k => by
  unfold fIx at e
  split at e
  · rename_i i
    cases qy
    split at e
    · rename_i ns
      obtain ⟨n, e1, e2⟩ := Option.map_eq_some_iff.mp e
      cases e2
      obtain ⟨rfl, rfl⟩ := qx.ex_scr
      exact .inl ⟨_, _, i, .int n, rfl, rfl, R.sc.sq, by rw [atI_map, e1]; rfl, k.now R (.int n)⟩
    · obtain ⟨xs, e1, e2⟩ := Option.bind_eq_some_iff.mp e
      obtain ⟨z', e3, e4⟩ := Option.map_eq_some_iff.mp e2
      cases e4
      cases x with
      | tup ys =>
        cases e1
        obtain ⟨a, vs, rfl, ht, qs⟩ := qx.ex_tup
        obtain ⟨w, h1, h2⟩ := atI_sr qs e3
        exact .inr ⟨a, vs, i, w, rfl, rfl, ht.sq, h1, k.now R h2⟩
      | ref j =>
        unfold itemsM at e1
        dsimp only at e1
        split at e1
        · rename_i ys hy
          cases e1
          obtain ⟨a, rfl, ha⟩ := qx.ex_ref
          obtain ⟨vs, hv, qs⟩ := R.lst ha hy
          obtain ⟨w, h1, h2⟩ := atI_sr qs e3
          exact .inl ⟨a, vs, i, w, rfl, rfl, .of hv, h1, k.now R h2⟩
        · cases e1
      | _ => cases e1
  · cases e
theorem ix_both {X : Cx} : IxR X (fun x y H Q => rIxL X.K x y H Q ∨ rIxT X.K x y H Q) := ix_list.or ix_tup

/-! ### slices of tuples -/
def cutS {α : Type} (xs : List α) (lo hi : Option Int) : List α := (xs.drop (HT.sIx xs.length 0 lo)).take (HT.sIx xs.length xs.length hi - HT.sIx xs.length 0 lo)
abbrev DO := En → Mu → Option (Option Int × Mu)
def tO (W : Wd) (F : DO) : TO := fun s H Q => ∃ A r m o m', Rl W A H m ∧ EnR W A H s r ∧ F r m = some (o, m') ∧ FinT W A H m' (Q o)
def dNoP : DO := fun _ m => some (none, m)
def dPart (F : DE) : DO := fun r m => (F r m).bind fun p => match p with
  | (.int i, m1) => some (some i, m1)
  | _ => none
def dSlice (F : DE) (L U : DO) : DE := fun r m => (F r m).bind fun p => (L r p.2).bind fun q => (U r q.2).bind fun w => match p.1 with
  | .tup xs => some (.tup (cutS xs q.1 w.1), w.2)
  | _ => none
end
section
variable {X : Cx} {g : Gs} {e : Expr} {F : DE} {pos p2 : Pos}
structure POd (X : Cx) (g : Gs) (e : Option Expr) (F : DO) : Prop where
  ex : ∃ t, PO X e t ∧ ∀ s H Q, tO (wd X g) F s H Q → t s H Q
theorem do_none : POd X g none dNoP := ⟨_, po_none, fun s H Q ⟨A, r, m, o, m', R, E, e, k⟩ => by
  cases e
  exact k H A .refl R⟩
theorem do_some (h : PE X e (tD (wd X g) F)) : POd X g (some e) (dPart F) := ⟨_, po_some h, fun s H Q ⟨A, r, m, o, m', R, E, e, k⟩ => by
  obtain ⟨⟨x, m1⟩, e1, e⟩ := Option.bind_eq_some_iff.mp e
  refine ⟨A, r, m, x, m1, R, E, e1, fun v H1 A1 s1 R1 q1 => ?_⟩
  split at e
  · rename_i i mm heq
    cases heq; cases e; cases q1
    exact ⟨_, rfl, k H1 A1 s1 R1⟩
  · cases e⟩
theorem de_slice {lo hi : Option Expr} {L U : DO} (h : PE X e (tD (wd X g) F)) (hl : POd X g lo L) (hu : POd X g hi U) : PE X (.Subscript e (.Slice lo hi none p2) pos) (tD (wd X g) (dSlice F L U)) := by
  obtain ⟨tl, pl', wl⟩ := hl.ex
  obtain ⟨tu, pu, wu⟩ := hu.ex
  refine pe_weak (pe_slice sl_tupF h pl' pu) fun s H Q ⟨A, r, m, o, m', R, E, e, k⟩ => ?_
  obtain ⟨⟨x, m1⟩, e1, e⟩ := Option.bind_eq_some_iff.mp e
  obtain ⟨⟨l, m2⟩, e2, e⟩ := Option.bind_eq_some_iff.mp e
  obtain ⟨⟨w, m3⟩, e3, e⟩ := Option.bind_eq_some_iff.mp e
  refine ⟨A, r, m, x, m1, R, E, e1, fun v H1 A1 s1 R1 q1 => ?_⟩
  refine wl _ _ _ ⟨A1, r, m1, l, m2, R1, E.mono s1, e2, fun H2 A2 s2 R2 => ?_⟩
  refine wu _ _ _ ⟨A2, r, m2, w, m3, R2, E.mono (s1.trans s2), e3, fun H3 A3 s3 R3 => ?_⟩
  dsimp only at e
  have k' := k.after ((s1.trans s2).trans s3)
  have q3 := q1.mono (s2.trans s3)
  cases x with
  | tup xs =>
    cases e
    obtain ⟨a, vs, rfl, ht, qs⟩ := q3.ex_tup
    have hl := qs.length
    have qc : SRs (wd X g) A3 H3 (cutV vs l w) (cutS xs l w) := by
      unfold cutV cutS
      rw [hl]
      exact (qs.drop _).take _
    refine ⟨a, vs, rfl, ht.sq, fun hw => ?_, fun _ => tup_new R3 qc k'⟩
    have e0 : cutS xs l w = xs := by
      unfold cutS
      rw [← hl, hw.1, hw.2, List.drop_zero, Nat.sub_zero, hl, List.take_length]
    rw [e0] at k'
    exact k'.now R3 (.tup ht qs)
  | _ => cases e
end

/-! ### calls of builtins -/
section
variable {W : Wd}
def fLen : FL := fun xs m => match xs with
  | [.scr ns] => some (.int ns.length, m)
  | [x] => (itemsM m x).map fun ys => (.int ys.length, m)
  | _ => none
theorem items_sq {A : List Addr} {H : Hp} {m : Mu} (R : Rl W A H m) {v : V} {x : SV} (q : SR W A H v x) {ys : List SV} (e : itemsM m x = some ys) : ∃ a vs, v = .ref a ∧ (SqL W.K H a vs ∨ TqT H a vs) ∧ SRs W A H vs ys := by
  cases x with
  | tup xs =>
    cases e
    obtain ⟨a, vs, rfl, ht, qs⟩ := q.ex_tup
    exact ⟨a, vs, rfl, .inr ht, qs⟩
  | ref i =>
    unfold itemsM at e
    dsimp only at e
    split at e
    · rename_i zs hz
      cases e
      obtain ⟨a, rfl, ha⟩ := q.ex_ref
      obtain ⟨vs, hv, qs⟩ := R.lst ha hz
      exact ⟨a, vs, rfl, .inl (.of hv), qs⟩
    · cases e
  | _ => cases e
theorem se_len : SemL W (fun xs H Q => ∃ p ys, xs = [.ref p] ∧ (SqL W.K H p ys ∨ SqT W.K H p ys) ∧ Q (.int ys.length) H) fLen := fun A H m vs xs z m' Q R q e k => by
  unfold fLen at e
  split at e
  · rename_i ns
    cases e
    cases q with
    | cons q q' =>
      cases q'
      obtain ⟨rfl, rfl⟩ := q.ex_scr
      exact ⟨W.sa, _, rfl, .inl R.sc.sq, k.now R (by rw [List.length_map]; exact .int _)⟩
  · rename_i x
    obtain ⟨ys, e1, e2⟩ := Option.map_eq_some_iff.mp e
    cases e2
    cases q with
    | cons q q' =>
      cases q'
      obtain ⟨a, us, rfl, h, qs⟩ := items_sq R q e1
      exact ⟨a, us, rfl, h.imp_right TqT.sq, k.now R (by rw [qs.length]; exact .int _)⟩
  · cases e
/-- len of a text -/
def fLenT : FL := fun xs m => match xs with
  | [.str x] => if x.length ≤ 1000 then some (.int x.length, m) else none
  | _ => none
theorem se_lenT : SemL W (fun xs H Q => ∃ z, xs = [.str z] ∧ z.length ≤ sizeLine ∧ Q (.int z.length) H) fLenT := fun A H m vs xs z m' Q R q e k => by
  unfold fLenT at e
  split at e
  · split at e
    · cases e
      cases q with
      | cons q q' =>
        cases q'
        cases q
        exact ⟨_, rfl, le_line (by omega), k.now R (.int _)⟩
    · cases e
  · cases e
def fTuple : FL := fun xs m => match xs with
  | [x] => (itemsM m x).map fun ys => (.tup ys, m)
  | _ => none
theorem se_tuple : SemL W (rTupF W.K) fTuple := fun A H m vs xs z m' Q R q e k => by
  unfold fTuple at e
  split at e
  · rename_i x
    obtain ⟨ys, e1, e2⟩ := Option.map_eq_some_iff.mp e
    cases e2
    cases q with
    | cons q q' =>
      cases q'
      obtain ⟨a, us, rfl, h, qs⟩ := items_sq R q e1
      rcases h with h | h
      · exact ⟨a, us, rfl, .inl ⟨h, tup_new R qs k⟩⟩
      · exact ⟨a, us, rfl, .inr ⟨h.sq, k.now R (.tup h qs)⟩⟩
  · cases e
def fList : FL := fun xs m => match xs with
  | [x] => (itemsM m x).map fun ys => (.ref m.length, m ++ [.lst ys])
  | _ => none
theorem se_list : SemL W (fun xs H Q => ∃ p ys, xs = [.ref p] ∧ (SqL W.K H p ys ∨ SqT W.K H p ys) ∧ ∀ l, H l = none → Q (.ref l) (upd H l (.lst ys))) fList := fun A H m vs xs z m' Q R q e k => by
  unfold fList at e
  split at e
  · rename_i x
    obtain ⟨ys, e1, e2⟩ := Option.map_eq_some_iff.mp e
    cases e2
    cases q with
    | cons q q' =>
      cases q'
      obtain ⟨a, us, rfl, h, qs⟩ := items_sq R q e1
      exact ⟨a, us, rfl, h.imp_right TqT.sq, fun p hp => lst_new R qs hp k⟩
  · cases e
def fAbs : FL := fun xs m => match xs with
  | [.int i] => some (.int (if i < 0 then -i else i), m)
  | _ => none
theorem se_abs : SemL W (fun xs H Q => ∃ i, xs = [.int i] ∧ Q (.int (if i < 0 then -i else i)) H) fAbs := fun A H m vs xs z m' Q R q e k => by
  unfold fAbs at e
  split at e
  · cases e
    cases q with
    | cons q q' =>
      cases q'
      cases q
      exact ⟨_, rfl, k.now R (.int _)⟩
  · cases e
def bools : List SV → Option (List Bool)
  | [] => some []
  | .bl b :: xs => (bools xs).map (b :: ·)
  | _ => none
def fAll : FL := fun xs m => match xs with
  | [.ref i] => match m[i]? with
    | some (.lst ys) => (bools ys).map fun bs => (.bl (bs.all id), m)
    | _ => none
  | _ => none
theorem bools_sr {A : List Addr} {H : Hp} : ∀ {ys : List SV} {vs : List V} {bs : List Bool}, SRs W A H vs ys → bools ys = some bs → vs = bs.map V.bl
  | [], _, _, q, e => by cases q; cases e; rfl
  | .bl b :: ys, _, _, q, e => by
    cases q with
    | cons q qs =>
      cases q
      rw [bools] at e
      obtain ⟨cs, e1, e2⟩ := Option.map_eq_some_iff.mp e
      subst e2
      rw [bools_sr qs e1, List.map_cons]
  | .non :: _, _, _, _, e => by cases e
  | .int _ :: _, _, _, _, e => by cases e
  | .str _ :: _, _, _, _, e => by cases e
  | .tup _ :: _, _, _, _, e => by cases e
  | .ref _ :: _, _, _, _, e => by cases e
  | .scr _ :: _, _, _, _, e => by cases e
theorem se_all : SemL W (rAll W.K) fAll := fun A H m vs xs z m' Q R q e k => by
  unfold fAll at e
  split at e
  · rename_i i
    split at e
    · rename_i ys hy
      obtain ⟨bs, e1, e2⟩ := Option.map_eq_some_iff.mp e
      cases e2
      cases q with
      | cons q q' =>
        cases q'
        obtain ⟨a, rfl, ha⟩ := q.ex_ref
        obtain ⟨us, hv, qs⟩ := R.lst ha hy
        have e3 := bools_sr qs e1
        subst e3
        exact ⟨a, bs, rfl, .of hv, k.now R (.bl _)⟩
    · cases e
  · cases e
end
end VW

/-! viewwood k93: methods of lists, comprehensions, isinstance, texts. -/
namespace VW
open PySem PySem.Spec PyProof.Rows L2

/-! ### methods of lists -/
abbrev FM := SV → List SV → Mu → Option (SV × Mu)
def SemM (W : Wd) (rd : V → List V → Hp → VK → Prop) (f : FM) : Prop := ∀ A H m v vs x xs z m' Q, Rl W A H m → SR W A H v x → SRs W A H vs xs → f x xs m = some (z, m') → FinV W A H m' z Q → rd v vs H Q
def isLst (m : Mu) : SV → Bool
  | .ref i => match m[i]? with
    | some (.lst _) => true
    | _ => false
  | _ => false
def dMeth (f : FM) (Fo : DE) (Fa : DA) : DE := fun r m => (Fo r m).bind fun p => if isLst p.2 p.1 = true then (Fa r p.2).bind fun q => f p.1 q.1 q.2 else none
def dMeth0 (f : FM) (Fo : DE) : DE := fun r m => (Fo r m).bind fun p => if isLst p.2 p.1 = true then f p.1 [] p.2 else none
theorem isLst_ty {W : Wd} {A : List Addr} {H : Hp} {m : Mu} (R : Rl W A H m) {v : V} {x : SV} (q : SR W A H v x) (h : isLst m x = true) : tyV W.K "list" v H := by
  cases x with
  | ref i =>
    unfold isLst at h
    dsimp only at h
    split at h
    · rename_i xs hx
      obtain ⟨a, rfl, ha⟩ := q.ex_ref
      obtain ⟨vs, hv, _⟩ := R.lst ha hx
      exact .inl ⟨rfl, vs, .of hv⟩
    · cases h
  | _ => cases h
section
variable {X : Cx} {g : Gs} {o e : Expr} {es : List Expr} {Fo : DE} {Fa : DA} {name : Str} {apos cpos : Pos} {id : String} {rd : V → List V → Hp → VK → Prop} {f : FM}
theorem de_meth (slot : Slot "list" name id) (hty : typeOf (.builtin id) = pure (.type "method_descriptor")) (hm : MtR X id rd) (hs : SemM (wd X g) rd f) (ho : PE X o (tD (wd X g) Fo)) (ha : PA X (e :: es) (tA (wd X g) Fa))
    (hbase : attributeBase o name X.env (eval o X.env) = eval o X.env := by rfl)
    (hfew : ((backTo cpos (starEach (e :: es) X.env)).all (fun x => !x.1) && (backToKw cpos (keywordEach [] X.env)).all (fun x => x.1.isSome)
      && decide ((e :: es).length + ([] : List Keyword).length + (if ([] : List Keyword).isEmpty then 0 else 1) < 30)) = true := by rfl)
    (hline : (apos.endLine == cpos.line) = true := by rfl) (hs1 : starEach (e :: es) X.env = (false, eval e X.env) :: starEach es X.env := by rfl) (hplain : (backTo cpos (starEach es X.env)).any (·.1) = false := by rfl) :
    PE X (.Call (.Attribute o name apos) (e :: es) [] cpos) (tD (wd X g) (dMeth f Fo Fa)) := pe_weak (pe_bm PySem.F.plainAttrs_list slot hty hm ho ha hbase hfew hline hs1 hplain) fun s H Q ⟨A, r, m, y, m', R, E, e, k⟩ => by
  obtain ⟨⟨x, m1⟩, e1, e⟩ := Option.bind_eq_some_iff.mp e
  refine ⟨A, r, m, x, m1, R, E, e1, fun v H1 A1 s1 R1 q1 => ?_⟩
  dsimp only at e
  split at e
  · rename_i hl
    obtain ⟨⟨xs, m2⟩, e2, e⟩ := Option.bind_eq_some_iff.mp e
    exact ⟨isLst_ty R1 q1 hl, A1, r, m1, xs, m2, R1, E.mono s1, e2, fun vs H2 A2 s2 R2 q2 => hs A2 H2 m2 v vs x xs _ m' Q R2 (q1.mono s2) q2 e (k.after (s1.trans s2))⟩
  · cases e
theorem de_meth0 (slot : Slot "list" name id) (hty : typeOf (.builtin id) = pure (.type "method_descriptor")) (hm : MtR X id rd) (hs : SemM (wd X g) rd f) (ho : PE X o (tD (wd X g) Fo))
    (hbase : attributeBase o name X.env (eval o X.env) = eval o X.env := by rfl) (hline : (apos.endLine == cpos.line) = true := by rfl) :
    PE X (.Call (.Attribute o name apos) [] [] cpos) (tD (wd X g) (dMeth0 f Fo)) := pe_weak (pe_bm0 PySem.F.plainAttrs_list slot hty hm ho hbase hline) fun s H Q ⟨A, r, m, y, m', R, E, e, k⟩ => by
  obtain ⟨⟨x, m1⟩, e1, e⟩ := Option.bind_eq_some_iff.mp e
  refine ⟨A, r, m, x, m1, R, E, e1, fun v H1 A1 s1 R1 q1 => ?_⟩
  dsimp only at e
  split at e
  · rename_i hl
    exact ⟨isLst_ty R1 q1 hl, hs A1 H1 m1 v [] x [] _ m' Q R1 q1 .nil e (k.after s1)⟩
  · cases e
end
def lstAt (m : Mu) (i : Nat) : Option (List SV) := match m[i]? with
  | some (.lst xs) => some xs
  | _ => none
theorem lstAt_some {m : Mu} {i : Nat} {xs : List SV} (h : lstAt m i = some xs) : m[i]? = some (.lst xs) := by
  unfold lstAt at h
  split at h
  · cases h; assumption
  · cases h
section
variable {W : Wd} {A : List Addr} {H : Hp} {m : Mu}
theorem lst_write (R : Rl W A H m) {i : Nat} {a : Addr} {xs ys : List SV} {vs us : List V} (ha : A[i]? = some a) (hv : H a = some (.lst vs)) (q : SRs W A H us ys) : Rl W A (upd H a (.lst us)) (m.set i (.lst ys)) ∧ Stp W A A H (upd H a (.lst us)) := by
  have st : Stp W A A H (upd H a (.lst us)) := ⟨⟨[], by simp⟩, tk_write hv (fun _ z => nomatch z) (fun _ _ z => nomatch z)⟩
  exact R.write ha hv (fun _ z => nomatch z) (fun _ _ z => nomatch z) ⟨us, upd_same, q.mono st⟩
def fAppend : FM := fun x ys m => match x, ys with
  | .ref i, [y] => (lstAt m i).bind fun xs => if xs.length ≤ 1000 then some (.non, m.set i (.lst (xs ++ [y]))) else none
  | _, _ => none
theorem se_append : SemM W rAppend fAppend := fun A H m v vs x xs z m' Q R q qs e k => by
  unfold fAppend at e
  split at e
  · rename_i i y
    obtain ⟨l, e1, e⟩ := Option.bind_eq_some_iff.mp e
    split at e
    · cases e
      obtain ⟨a, rfl, ha⟩ := q.ex_ref
      obtain ⟨us, hu, qu⟩ := R.lst ha (lstAt_some e1)
      cases qs with
      | cons qy qs =>
        cases qs
        obtain ⟨R2, st⟩ := lst_write (xs := l) R ha hu (qu.append (.cons qy .nil))
        exact ⟨a, us, _, rfl, rfl, hu, by rw [qu.length]; exact lt_line (by omega), k _ _ A st R2 .non⟩
    · cases e
  · cases e
def fExtend : FM := fun x ys m => match x, ys with
  | .ref i, [.ref j] => (lstAt m i).bind fun xs => (lstAt m j).bind fun zs => if xs.length + zs.length ≤ 1000 then some (.non, m.set i (.lst (xs ++ zs))) else none
  | _, _ => none
theorem se_extend : SemM W rExtend fExtend := fun A H m v vs x xs z m' Q R q qs e k => by
  unfold fExtend at e
  split at e
  · rename_i i j
    obtain ⟨l, e1, e⟩ := Option.bind_eq_some_iff.mp e
    obtain ⟨l2, e2, e⟩ := Option.bind_eq_some_iff.mp e
    split at e
    · cases e
      obtain ⟨a, rfl, ha⟩ := q.ex_ref
      obtain ⟨us, hu, qu⟩ := R.lst ha (lstAt_some e1)
      cases qs with
      | cons qy qs =>
        cases qs
        obtain ⟨b, rfl, hb⟩ := qy.ex_ref
        obtain ⟨ws, hw, qw⟩ := R.lst hb (lstAt_some e2)
        obtain ⟨R2, st⟩ := lst_write (xs := l) R ha hu (qu.append qw)
        exact ⟨a, b, us, ws, rfl, rfl, hu, hw, by rw [qu.length, qw.length]; exact le_line (by omega), k _ _ A st R2 .non⟩
    · cases e
  · cases e
def fInsert : FM := fun x ys m => match x, ys with
  | .ref i, [.int n, y] => (lstAt m i).bind fun xs => if xs.length ≤ 1000 ∧ 0 ≤ n ∧ n ≤ 1000 then some (.non, m.set i (.lst (xs.take n.toNat ++ [y] ++ xs.drop n.toNat))) else none
  | _, _ => none
def rInsert : V → List V → Hp → VK → Prop := fun x vs H Q => ∃ (l : Addr) (xs : List V) (i : Int) (y : V), x = .ref l ∧ vs = [.int i, y] ∧ H l = some (.lst xs) ∧ xs.length < sizeLine ∧ 0 ≤ i ∧ i < 2 ^ 63 ∧
    Q .non (upd H l (.lst (xs.take i.toNat ++ [y] ++ xs.drop i.toNat)))
theorem se_insert : SemM W rInsert fInsert := fun A H m v vs x xs z m' Q R q qs e k => by
  unfold fInsert at e
  split at e
  · rename_i i n y
    obtain ⟨l, e1, e⟩ := Option.bind_eq_some_iff.mp e
    split at e
    · rename_i hn
      cases e
      obtain ⟨a, rfl, ha⟩ := q.ex_ref
      obtain ⟨us, hu, qu⟩ := R.lst ha (lstAt_some e1)
      cases qs with
      | cons q1 qs => cases qs with
        | cons qy qs =>
          cases qs
          cases q1
          obtain ⟨R2, st⟩ := lst_write (xs := l) R ha hu (((qu.take n.toNat).append (.cons qy .nil)).append (qu.drop n.toNat))
          exact ⟨a, us, n, _, rfl, rfl, hu, by rw [qu.length]; exact lt_line (by omega), hn.2.1, by omega, k _ _ A st R2 .non⟩
    · cases e
  · cases e
def fPopAt : FM := fun x ys m => match x, ys with
  | .ref i, [.int n] => (lstAt m i).bind fun xs => if 0 ≤ n ∧ n ≤ 1000 then (xs[n.toNat]?).map fun y => (y, m.set i (.lst (xs.eraseIdx n.toNat))) else none
  | _, _ => none
theorem se_popAt : SemM W rPopAt fPopAt := fun A H m v vs x xs z m' Q R q qs e k => by
  unfold fPopAt at e
  split at e
  · rename_i i n
    obtain ⟨l, e1, e⟩ := Option.bind_eq_some_iff.mp e
    split at e
    · rename_i hn
      obtain ⟨y, e2, e⟩ := Option.map_eq_some_iff.mp e
      cases e
      obtain ⟨a, rfl, ha⟩ := q.ex_ref
      obtain ⟨us, hu, qu⟩ := R.lst ha (lstAt_some e1)
      cases qs with
      | cons q1 qs =>
        cases qs
        cases q1
        obtain ⟨w, hw, qw⟩ := qu.get e2
        obtain ⟨R2, st⟩ := lst_write (xs := l) R ha hu (qu.erase n.toNat)
        have hlt := (List.getElem?_eq_some_iff.mp hw).1
        exact ⟨a, us, n, n.toNat, w, rfl, rfl, hu, by omega, by omega, seqIndex_of hn.1 (by omega), hw, k _ _ A st R2 (qw.mono st)⟩
    · cases e
  · cases e
def fRev : FM := fun x ys m => match x, ys with
  | .ref i, [] => (lstAt m i).map fun xs => (.non, m.set i (.lst xs.reverse))
  | _, _ => none
theorem se_rev : SemM W rReverse fRev := fun A H m v vs x xs z m' Q R q qs e k => by
  unfold fRev at e
  split at e
  · rename_i i
    obtain ⟨l, e1, e⟩ := Option.map_eq_some_iff.mp e
    cases e
    obtain ⟨a, rfl, ha⟩ := q.ex_ref
    obtain ⟨us, hu, qu⟩ := R.lst ha (lstAt_some e1)
    cases qs
    obtain ⟨R2, st⟩ := lst_write (xs := l) R ha hu qu.reverse
    exact ⟨a, us, rfl, rfl, hu, k _ _ A st R2 .non⟩
  · cases e
/-- where the first equal item stands -/
def placeD (ds : List PyData) (d : PyData) : Option Nat := ds.findIdx? fun z => PyData.eqv z d
def findS (x : SV) (ys : List SV) : Option Nat := match dataOf x, datasOf ys with
  | some d, some ds => if SeqAt.shaped d && SeqAt.shaped (.list ds) then placeD ds d else none
  | _, _ => none
def fIndex : FM := fun x ys m => match x, ys with
  | .ref i, [y] => (lstAt m i).bind fun xs => (findS y xs).map fun (j : Nat) => (SV.int (j : Int), m)
  | _, _ => none
def fRemove : FM := fun x ys m => match x, ys with
  | .ref i, [y] => (lstAt m i).bind fun xs => (findS y xs).map fun j => (.non, m.set i (.lst (xs.eraseIdx j)))
  | _, _ => none
theorem findS_some {x : SV} {ys : List SV} {j : Nat} (h : findS x ys = some j) : ∃ d ds, dataOf x = some d ∧ datasOf ys = some ds ∧ SeqAt.shaped d = true ∧ SeqAt.shaped (.list ds) = true ∧ placeD ds d = some j := by
  unfold findS at h
  split at h
  · split at h
    · rename_i hs
      rw [Bool.and_eq_true] at hs
      exact ⟨_, _, by assumption, by assumption, hs.1, hs.2, h⟩
    · cases h
  · cases h
theorem se_index : SemM W (rIndexD W.K) fIndex := fun A H m v vs x xs z m' Q R q qs e k => by
  unfold fIndex at e
  split at e
  · rename_i i y
    obtain ⟨l, e1, e⟩ := Option.bind_eq_some_iff.mp e
    obtain ⟨j, e2, e⟩ := Option.map_eq_some_iff.mp e
    cases e
    obtain ⟨d, ds, h1, h2, h3, h4, h5⟩ := findS_some e2
    obtain ⟨a, rfl, ha⟩ := q.ex_ref
    obtain ⟨us, hu, qu⟩ := R.lst ha (lstAt_some e1)
    cases qs with
    | cons qy qs =>
      cases qs
      obtain ⟨hj, p1, p2⟩ := List.findIdx?_eq_some_iff_getElem.mp h5
      refine ⟨a, _, d, ds, j, ds[j], rfl, rfl, .lst (.of hu) (dps_of qu h2), dp_of qy h1, h4, h3, List.getElem?_eq_getElem hj, p1, fun n z hn hz => ?_, k.now R (.int _)⟩
      have hnl : n < ds.length := Nat.lt_trans hn hj
      rw [List.getElem?_eq_getElem hnl] at hz
      cases hz
      simpa using p2 n hn
  · cases e
/-- l.remove(y) of data, y in l -/
def rRemove (K : PySem.W.Frag) : V → List V → Hp → VK → Prop := fun x vs H Q => ∃ (a : Addr) (xs : List V) (y : V) (d : PyData) (ds : List PyData) (j : Nat), x = .ref a ∧ vs = [y] ∧ H a = some (.lst xs) ∧ DpAll K H xs ds ∧ Dp K H y d ∧ SeqAt.shaped d = true ∧ SeqAt.shaped (.list ds) = true ∧ placeD ds d = some j ∧
  Q .non (upd H a (.lst (xs.eraseIdx j)))
theorem mt_removeD {X : Cx} {k : Nat} (hr : Room k X.A) : MtR X "list.remove" (rRemove X.K) := by
  intro pins s σ H x vs v us Q I rx rv h
  obtain ⟨a, xs, y, d, ds, j, rfl, rfl, hH, hds, hy, sd, sl, hp, q⟩ := h
  cases rx
  obtain ⟨u, rfl, ry⟩ := rv.one
  obtain ⟨z, its, n, r, hl, e0⟩ := I.lstM hH
  have hu : X.A.units + 65 < cLine := by have := hr.un; omega
  obtain ⟨as, r2⟩ := Dp.reads I d y u hy ry
  obtain ⟨bs, h4⟩ := Dp.readsAll I ds xs its hds r
  have hxs : PyData.canLayAll0 ds = true := canAll_shaped sl
  have hroom : X.A.units + 1 + min (PyData.depthAll ds) d.depth < cLine := room_in_shaped sd hu
  have hn : its.length = ds.length := SeqAt.ReadsAll.length ds its bs h4
  have hmap : its.map (SeqAt.readOf s.heap) = ds := SeqAt.readsAll_map ds its bs hxs h4
  obtain ⟨hj, p1, p2⟩ := List.findIdx?_eq_some_iff_getElem.mp hp
  have at_ : ∀ (i : Nat) (hi : i < its.toArray.size) (hd : i < ds.length), SeqAt.readOf s.heap its.toArray[i] = ds[i] := fun i hi hd => by
    subst hmap
    simp
  have hj2 : j < its.toArray.size := by rw [List.size_toArray]; omega
  refine call_meets PySem.F.slot_list_remove ⟨_, e0, rfl⟩ PySem.F.entry_list_remove (PySem.F.args_list_remove_2 _ _)
    (SeqAt.list_removeAt a its.toArray n _ _ u (fun w => PyData.eqv (SeqAt.readOf s.heap w) d) j hj2 ?_ (fun i hi hlt => ?_) (by rw [List.size_toArray, ← hl]; exact z)) ⟨e0, SeqAt.items_eqAt (vs := its.toArray) (by simpa using h4) r2 hxs (SeqAt.canLay_of_shaped sd) hroom, ?_⟩
  · show PyData.eqv (SeqAt.readOf s.heap its.toArray[j]) d = true
    rw [at_ j hj2 hj]
    exact p1
  · show PyData.eqv (SeqAt.readOf s.heap its.toArray[i]) d = false
    rw [at_ i hi (by omega)]
    simpa using p2 i hlt
  · refine ⟨.non, _, I.lset (its' := its.eraseIdx j) hH e0 ?_ (r.eraseIdx j) ?_, rfl, q⟩
    · rw [List.eraseIdxIfInBounds_toArray]
    · have := len_erase xs j
      omega
theorem se_remove : SemM W (rRemove W.K) fRemove := fun A H m v vs x xs z m' Q R q qs e k => by
  unfold fRemove at e
  split at e
  · rename_i i y
    obtain ⟨l, e1, e⟩ := Option.bind_eq_some_iff.mp e
    obtain ⟨j, e2, e⟩ := Option.map_eq_some_iff.mp e
    cases e
    obtain ⟨d, ds, h1, h2, h3, h4, h5⟩ := findS_some e2
    obtain ⟨a, rfl, ha⟩ := q.ex_ref
    obtain ⟨us, hu, qu⟩ := R.lst ha (lstAt_some e1)
    cases qs with
    | cons qy qs =>
      cases qs
      obtain ⟨R2, st⟩ := lst_write (xs := l) R ha hu (qu.erase j)
      exact ⟨a, us, _, d, ds, j, rfl, rfl, hu, dps_of qu h2, dp_of qy h1, h3, h4, h5, k _ _ A st R2 .non⟩
  · cases e
end
theorem place_pl (x : SV) (d : PyData) (hx : pl 40 x = true) (ed : dataOf x = some d) : ∀ (ys : List SV) (ds : List PyData), ys.all (pl 40) = true → datasOf ys = some ds → placeD ds d = ys.findIdx? fun y => decide (y = x)
  | [], ds, _, e => by cases e; rfl
  | y :: ys, ds, h, e => by
    rw [datasOf] at e
    obtain ⟨d1, e1, e⟩ := Option.bind_eq_some_iff.mp e
    obtain ⟨ds1, e2, e3⟩ := Option.map_eq_some_iff.mp e
    subst e3
    rw [List.all_cons, Bool.and_eq_true] at h
    have ih := place_pl x d hx ed ys ds1 h.2 e2
    unfold placeD at ih ⊢
    rw [List.findIdx?_cons, List.findIdx?_cons, eqv_pl 40 40 y x d1 d h.1 hx e1 ed, ih]
theorem findS_pl {x : SV} {ys : List SV} (hx : pl 40 x = true) (hy : pls 40 ys = true) : findS x ys = ys.findIdx? fun y => decide (y = x) := by
  obtain ⟨d, e, c, l⟩ := pl_data 40 x hx
  obtain ⟨ds, e', c', l'⟩ := pls_data 40 ys hy
  have s : SeqAt.shaped (.list ds) = true := by
    unfold SeqAt.shaped
    rw [show PyData.canLay0 (.list ds) = true by simpa [PyData.canLay0] using c', decide_eq_true (by simp only [PyData.depth]; omega)]
    rfl
  have s' : SeqAt.shaped d = true := by
    unfold SeqAt.shaped
    rw [c, decide_eq_true (by omega)]
    rfl
  unfold findS
  simp only [e, e', s, s', Bool.and_self, if_true]
  exact place_pl x d hx e ys ds hy e'

/-! ### isinstance -/
def tyOf : SV → Option String
  | .non => some "NoneType"
  | .bl _ => some "bool"
  | .int _ => some "int"
  | .str _ => some "str"
  | .tup _ => some "tuple"
  | .ref _ => none
  | .scr _ => none
def fIsi (T : String) : F1 := fun x m => (tyOf x).bind fun t => (kitB t T).map fun b => (.bl b, m)
section
variable {X : Cx} {g : Gs}
theorem tyx_of {W : Wd} {A : List Addr} {H : Hp} {v : V} {x : SV} (q : SR W A H v x) {t : String} (h : tyOf x = some t) : TyX W.K H v (.type t) := by
  cases q with
  | non => cases h; exact .base .non
  | bl b => cases h; exact .base (.bl b)
  | int b => cases h; exact .base (.int b)
  | str b => cases h; exact .base (.str b)
  | tup ht hs =>
    cases h
    obtain ⟨o, _, e⟩ := ht
    exact .fTuple e
  | ref _ => cases h
  | scr => cases h
theorem de_isi {T : String} {e : Expr} {F : DE} {p p2 pos : Pos} {xT : Str} (hm : X.mg "isinstance" = none) (hmT : X.mg xT = none) (he : PE X e (tD (wd X g) F)) (hT : bootBuiltins xT = some (.type T)) (hg : Gl X "isinstance" := by rfl) (hgT : Gl X xT := by rfl)
    (hn : xT ≠ "__name__" := by decide) (hd : (xT == ("__debug__" : Str)) = false := by decide)
    (h1 : starEach [e, .Name xT p2] X.env = (false, eval e X.env) :: starEach [.Name xT p2] X.env := by rfl) (h2 : starEach [.Name xT p2] X.env = (false, eval (.Name xT p2) X.env) :: starEach [] X.env := by rfl) (hpl : (backTo pos (starEach [.Name xT p2] X.env)).any (·.1) = false := by rfl) :
    PE X (.Call (.Name "isinstance" p) [e, .Name xT p2] [] pos) (tD (wd X g) (dUn (fIsi T) F)) :=
  pe_weak (pe_callB call_isi hg hm boot_isinstance (pa_cons he (pa_cons (pe_bltn hgT hmT hT (v := .ty T) rfl hn hd) pa_nil h2) h1) (by decide) (by decide) h1 hpl) fun s H Q ⟨A, r, m, y, m', R, E, e, k⟩ => by
    obtain ⟨⟨z, m1⟩, e1, e⟩ := Option.bind_eq_some_iff.mp e
    refine ⟨A, r, m, z, m1, R, E, e1, fun v H1 A1 s1 R1 q1 => ?_⟩
    obtain ⟨t, e2, e⟩ := Option.bind_eq_some_iff.mp e
    obtain ⟨b, e3, e⟩ := Option.map_eq_some_iff.mp e
    cases e
    exact ⟨v, .ty T, .type t, .type T, b, rfl, .ty T, tyx_of q1 e2, kit_ty e3, k _ H1 A1 s1 R1 (.bl b)⟩
end

/-! ### one sign in a text -/
def fInT : F2 := fun x y m => match x, y with
  | .str x, .str z => match x.cps.toList with
    | [c] => some (.bl (decide (c ∈ z.cps.toList)), m)
    | _ => none
  | _, _ => none
def rInT : R2 := fun x y H Q => ∃ (c : Nat) (z : Str), x = .str ⟨#[c]⟩ ∧ y = .str z ∧ Q (.bl (decide (c ∈ z.cps.toList))) H
theorem op_inT {X : Cx} : OpR X (compareOp .In) rInT := op_in_sign
theorem se_inT {W : Wd} : Sem2 W rInT fInT := fun A H m v u x y z m' Q R qx qy e k => by
  unfold fInT at e
  split at e
  · rename_i a b
    split at e
    · rename_i c hc
      cases e
      cases qx
      cases qy
      refine ⟨c, b, ?_, rfl, k.now R (.bl _)⟩
      have : a.cps = #[c] := by
        apply Array.ext'
        simpa using hc
      obtain ⟨cps⟩ := a
      simp only at this
      rw [this]
    · cases e
  · cases e

/-! ### comprehensions -/
theorem wipe_get {s : L2.St} : ∀ (vs : List Nat) (i : Nat), (wipe s vs)[i]? = if i ∈ vs then (if i < s.length then some none else none) else s[i]?
  | [], i => by simp [wipe]
  | v :: vs, i => by
    unfold wipe
    by_cases h : v = i
    · subst h
      by_cases hl : v < s.length
      · rw [List.getElem?_set_self (by rw [wipe_length]; exact hl)]
        simp [hl]
      · rw [List.getElem?_eq_none (by rw [List.length_set, wipe_length]; omega)]
        simp [hl]
    · rw [List.getElem?_set_ne h, wipe_get vs i]
      have : i ∈ v :: vs ↔ i ∈ vs := by
        rw [List.mem_cons]
        exact ⟨fun z => z.resolve_left (Ne.symm h), .inr⟩
      simp only [this]
theorem wipe_same {s s' : L2.St} {vs is : List Nat} (h : Only' is (wipe s vs) s') (hs : ∀ i ∈ is, i ∈ vs) : wipe s' vs = wipe s vs := by
  apply List.ext_getElem?
  intro i
  have hl : s'.length = s.length := by rw [h.1, wipe_length]
  rw [wipe_get, wipe_get, hl]
  by_cases hi : i ∈ vs
  · simp [hi]
  · simp only [hi, if_false]
    rw [h.2 i fun z => hi (hs i z), wipe_get]
    simp [hi]
def dLcGo (gd : Mu → Bool) (b : DG) (T : DT) (F : DE) (vs : List Nat) (i0 : Nat) : List SV → En → Mu → Option Mu
  | [], _, m => if gd m = true then some m else none
  | x :: xs, r, m => if gd m = true then (b x (wipeE r vs)).bind fun r1 => (T r1 m).bind fun p => if p.1 = true then (F r1 p.2).bind fun q => (lstAt q.2 i0).bind fun acc => if acc.length ≤ 1000 then dLcGo gd b T F vs i0 xs r (q.2.set i0 (.lst (acc ++ [q.1]))) else none
    else dLcGo gd b T F vs i0 xs r p.2
    else none
/-- items: what is walked, told by the iterable's value -/
def dLc (it : SV → Mu → Option (List SV × (Mu → Bool))) (Fi : DE) (b : DG) (T : DT) (F : DE) (vs : List Nat) : DE := fun r m => (Fi r m).bind fun p => (it p.1 p.2).bind fun xs => (dLcGo xs.2 b T F vs p.2.length xs.1 r (p.2 ++ [.lst []])).map fun m' => (.ref p.2.length, m')
def itTup : SV → Mu → Option (List SV × (Mu → Bool)) := fun x _ => match x with
  | .tup xs => some (xs, fun _ => true)
  | _ => none
def itLst : SV → Mu → Option (List SV × (Mu → Bool)) := fun x m => match x with
  | .ref i => (lstAt m i).map fun xs => (xs, fun m' => decide (lstAt m' i = some xs))
  | _ => none
def itStr : SV → Mu → Option (List SV × (Mu → Bool)) := fun x _ => match x with
  | .str z => some (z.cps.toList.map fun c => .str ⟨#[c]⟩, fun _ => true)
  | _ => none
/-- what holds between two turns -/
def LcW (W : Wd) (gd : Mu → Bool) (b : DG) (T : DT) (F : DE) (vs : List Nat) (i0 : Nat) (s : L2.St) (H0 : Hp) (A0 : List Addr) (Dl : Addr) (Q : VK) (xs : List SV) (H : Hp) : Prop := ∃ A r m m', (A[i0]? = some Dl) ∧ Stp W A0 A H0 H ∧ Rl W A H m ∧ EnR W A H s r ∧ dLcGo gd b T F vs i0 xs r m = some m' ∧ FinV W A H m' (.ref i0) Q
theorem lcw_end {W : Wd} {gd : Mu → Bool} {b : DG} {T : DT} {F : DE} {vs : List Nat} {i0 : Nat} {s : L2.St} {H0 : Hp} {A0 : List Addr} {Dl : Addr} {Q : VK} {H : Hp} (h : LcW W gd b T F vs i0 s H0 A0 Dl Q [] H) : Q (.ref Dl) H := by
  obtain ⟨A, r, m, m', hD, st, R, E, e, k⟩ := h
  unfold dLcGo at e
  split at e
  · cases e
    exact k.now R (.ref hD)
  · cases e
theorem lcw_gd {W : Wd} {gd : Mu → Bool} {b : DG} {T : DT} {F : DE} {vs : List Nat} {i0 : Nat} {s : L2.St} {H0 : Hp} {A0 : List Addr} {Dl : Addr} {Q : VK} {H : Hp} {xs : List SV} (h : LcW W gd b T F vs i0 s H0 A0 Dl Q xs H) : ∃ A m, Stp W A0 A H0 H ∧ Rl W A H m ∧ gd m = true := by
  obtain ⟨A, r, m, m', hD, st, R, E, e, k⟩ := h
  refine ⟨A, m, st, R, ?_⟩
  cases xs with
  | nil =>
    unfold dLcGo at e
    split at e
    · assumption
    · cases e
  | cons x xs =>
    unfold dLcGo at e
    split at e
    · assumption
    · cases e
theorem lcw_turn {W : Wd} {gd : Mu → Bool} {b : DG} {is : List Nat} {T : DT} {F : DE} {vs : List Nat} {i0 : Nat} {s : L2.St} {H0 : Hp} {A0 : List Addr} {Dl : Addr} {Q : VK} {H : Hp} {x : SV} {xs : List SV} {t : TG} {tt : TT} (hg : SemG W t b is) (his : ∀ i ∈ is, i ∈ vs) (htt : ∀ s H Q, tT W T s H Q → tt s H Q)
    (h : LcW W gd b T F vs i0 s H0 A0 Dl Q (x :: xs) H) (v : V) (q : ∀ A m, Stp W A0 A H0 H → Rl W A H m → gd m = true → SR W A H v x) : t v (wipe s vs) H fun s2 H2 => wipe s2 vs = wipe s vs ∧ tt s2 H2 fun b' H3 =>
      if b' = true then tD W F s2 H3 fun y H4 => ∃ acc, H4 Dl = some (.lst acc) ∧ acc.length < sizeLine ∧ LcW W gd b T F vs i0 s H0 A0 Dl Q xs (upd H4 Dl (.lst (acc ++ [y]))) else LcW W gd b T F vs i0 s H0 A0 Dl Q xs H3 := by
  obtain ⟨A, r, m, m', hD, st, R, E, e, k⟩ := h
  unfold dLcGo at e
  split at e
  case isFalse => cases e
  obtain ⟨r1, e1, e⟩ := Option.bind_eq_some_iff.mp e
  obtain ⟨⟨b1, m1⟩, e2, e⟩ := Option.bind_eq_some_iff.mp e
  refine hg A H v x _ _ r1 _ (E.wipe vs) (q A m st R (by assumption)) e1 fun s' E' on => ⟨wipe_same on his, ?_⟩
  refine htt _ _ _ ⟨A, r1, m, b1, m1, R, E', e2, fun H3 A3 s3 R3 => ?_⟩
  dsimp only at e
  split at e
  · rename_i hb
    refine ite2 (fun _ => ?_) fun z => absurd hb z
    obtain ⟨⟨y, m2⟩, e3, e⟩ := Option.bind_eq_some_iff.mp e
    obtain ⟨acc, e4, e⟩ := Option.bind_eq_some_iff.mp e
    split at e
    · rename_i hl
      refine ⟨A3, r1, m1, y, m2, R3, E'.mono s3, e3, fun w H4 A4 s4 R4 q4 => ?_⟩
      have s34 := s3.trans s4
      obtain ⟨us, hu, qu⟩ := R4.lst (s34.get hD) (lstAt_some e4)
      obtain ⟨R5, st5⟩ := lst_write (xs := acc) R4 (s34.get hD) hu (qu.append (.cons q4 .nil))
      refine ⟨us, hu, by rw [qu.length]; exact lt_line (by omega), ?_⟩
      exact ⟨A4, r, _, m', s34.get hD, (st.trans s34).trans st5, R5, E.mono (s34.trans st5), e, k.after (s34.trans st5)⟩
    · cases e
  · rename_i hb
    refine ite2 (fun z => absurd z hb) fun _ => ?_
    exact ⟨A3, r, m1, m', s3.get hD, st.trans s3, R3, E.mono s3, e, k.after s3⟩
def dYes : DT := fun _ m => some (true, m)
section
variable {X : Cx} {g : Gs} {elt tg it : Expr} {ifs : List Expr} {scope : Scope} {own : List (Str × Nat)} {pos : Pos} {Fi F : DE} {b : DG} {is : List Nat} {T : DT}
/-- the parts of a comprehension's block -/
structure Blk (X : Cx) (g : Gs) (elt tg : Expr) (ifs : List Expr) (scope : Scope) (own : List (Str × Nat)) (b : DG) (T : DT) (F : DE) : Prop where
  calm : X.calm = true
  nd : X.N.Nodup
  ok : BlkOk X.N X.env.scope scope own
  parts : ∃ (t : TG) (is : List Nat) (tt : TT), SemG (wd X g) t b is ∧ (∀ i ∈ is, i ∈ own.map (·.2)) ∧ (∀ s H Q, tT (wd X g) T s H Q → tt s H Q) ∧
    (∀ (s : Shared) (H : Hp) (C : Addr) (cl : List (Str × Addr)) (fp : List Addr), PG (X.blk s H scope (compEnvC scope cl C X.env) fp) tg t) ∧
    (∀ (s : Shared) (H : Hp) (C : Addr) (cl : List (Str × Addr)) (fp : List Addr), PTs (X.blk s H scope (compEnvC scope cl C X.env) fp) ifs tt) ∧
    ∀ (s : Shared) (H : Hp) (C : Addr) (cl : List (Str × Addr)) (fp : List Addr), PE (X.blk s H scope (compEnvC scope cl C X.env) fp) elt (tD (wd X g) F)
theorem lc_all {wi : TI} (B : Blk X g elt tg ifs scope own b T F) (hi : PI X tg it wi) (hs : ∀ x, foldedSetIterable it X.env x = pure x) {itm : SV → Mu → Option (List SV × (Mu → Bool))}
    (hw : ∀ (t : TG) (tt : TT) (is : List Nat), SemG (wd X g) t b is → (∀ i ∈ is, i ∈ own.map (·.2)) → (∀ s H Q, tT (wd X g) T s H Q → tt s H Q) → ∀ s H Q, tD (wd X g) (dLc itm Fi b T F (own.map (·.2))) s H Q → tLc wi t tt (tD (wd X g) F) (own.map (·.2)) s H Q) :
    PE X (.ListComp elt [⟨tg, it, ifs, 0⟩] scope pos) (tD (wd X g) (dLc itm Fi b T F (own.map (·.2)))) := by
  obtain ⟨t, is, tt, h1, h2, h3, pg, pt, pe⟩ := B.parts
  exact pe_weak (pe_lc B.calm B.nd hi B.ok pg pt pe hs) (hw t tt is h1 h2 h3)
/-- the list of the comprehension, laid -/
theorem lcw_start {W : Wd} {gd : Mu → Bool} {A : List Addr} {H : Hp} {r : En} {s : L2.St} {m m' : Mu} {xs : List SV} {vs : List Nat} {Dl : Addr} {Q : VK} (R : Rl W A H m) (E : EnR W A H s r) (hD : H Dl = none) (e : dLcGo gd b T F vs m.length xs r (m ++ [.lst []]) = some m') (k : FinV W A H m' (.ref m.length) Q) :
    LcW W gd b T F vs m.length s H A Dl Q xs (upd H Dl (.lst [])) := by
  have st : Stp W A (A ++ [Dl]) H (upd H Dl (.lst [])) := .new hD
  exact ⟨A ++ [Dl], r, _, m', by rw [← R.len]; simp, st, R.alloc (u := .lst []) hD ⟨[], upd_same, .nil⟩, E.mono st, e, k.after st⟩
theorem lcT_run {t : TG} {tt : TT} {is vs : List Nat} (h1 : SemG (wd X g) t b is) (h2 : ∀ i ∈ is, i ∈ vs) (h3 : ∀ s H Q, tT (wd X g) T s H Q → tt s H Q) : ∀ s H Q, tD (wd X g) (dLc itTup Fi b T F vs) s H Q → tLc (iTup X.K (tD (wd X g) Fi)) t tt (tD (wd X g) F) vs s H Q := fun s H Q ⟨A, r, m, y, m', R, E, e, k⟩ => by
  obtain ⟨⟨x, m1⟩, e1, e⟩ := Option.bind_eq_some_iff.mp e
  obtain ⟨⟨zs, gd⟩, e2, e⟩ := Option.bind_eq_some_iff.mp e
  obtain ⟨m2, e3, e⟩ := Option.map_eq_some_iff.mp e
  cases e
  refine ⟨A, r, m, x, m1, R, E, e1, fun v H1 A1 s1 R1 q1 => ?_⟩
  cases x with
  | tup zs =>
    cases e2
    obtain ⟨a, us, rfl, ht, qs⟩ := q1.ex_tup
    refine ⟨a, rfl, ⟨us, ht.sq⟩, fun Dl hD => ?_⟩
    refine lc_tup (xs := us) (fun i H' => LcW (wd X g) (fun _ => true) b T F vs m1.length s H1 A1 Dl Q (zs.drop i) H') (by rw [List.drop_zero]; exact lcw_start R1 (E.mono s1) hD e3 (k.after s1)) (fun i H' _ z => ?_) (fun i w H' hw z => ?_) fun H' z => ?_
    · obtain ⟨A4, m4, st4, _⟩ := lcw_gd z
      exact (TqT.go st4.tk ht).sq
    · obtain ⟨y, hy, qy⟩ := qs.getV hw
      have hl := (List.getElem?_eq_some_iff.mp hy).1
      have ed : zs.drop i = y :: zs.drop (i + 1) := by
        rw [List.drop_eq_getElem_cons hl]
        congr 1
        exact (List.getElem?_eq_some_iff.mp hy).2
      rw [ed] at z
      exact lcw_turn h1 h2 h3 z w fun A4 _ st4 _ _ => qy.mono st4
    · rw [show zs.drop us.length = [] from List.drop_eq_nil_iff.mpr (Nat.le_of_eq qs.length.symm)] at z
      exact lcw_end z
  | _ => cases e2
theorem de_lcT (hi : PE X it (tD (wd X g) Fi)) (B : Blk X g elt tg ifs scope own b T F) (hs : ∀ x, foldedSetIterable it X.env x = pure x := by intro _; rfl) :
    PE X (.ListComp elt [⟨tg, it, ifs, 0⟩] scope pos) (tD (wd X g) (dLc itTup Fi b T F (own.map (·.2)))) := lc_all B (pi_tup hi) hs fun t tt is h1 h2 h3 => lcT_run h1 h2 h3
theorem de_lcS (hi : PE X it (tD (wd X g) Fi)) (B : Blk X g elt tg ifs scope own b T F) (hs : ∀ x, foldedSetIterable it X.env x = pure x := by intro _; rfl) :
    PE X (.ListComp elt [⟨tg, it, ifs, 0⟩] scope pos) (tD (wd X g) (dLc itStr Fi b T F (own.map (·.2)))) := lc_all B (pi_str hi) hs fun t tt is h1 h2 h3 s H Q ⟨A, r, m, y, m', R, E, e, k⟩ => by
  obtain ⟨⟨x, m1⟩, e1, e⟩ := Option.bind_eq_some_iff.mp e
  obtain ⟨⟨xs, gd⟩, e2, e⟩ := Option.bind_eq_some_iff.mp e
  obtain ⟨m2, e3, e⟩ := Option.map_eq_some_iff.mp e
  cases e
  refine ⟨A, r, m, x, m1, R, E, e1, fun v H1 A1 s1 R1 q1 => ?_⟩
  cases x with
  | str x =>
    cases e2
    cases q1
    refine ⟨x, rfl, fun Dl hD => ?_⟩
    have hlen : (x.cps.toList.map fun c => SV.str ⟨#[c]⟩).length = x.cps.size := by simp
    refine ⟨fun i n H' => n = x.cps.size - i ∧ LcW (wd X g) (fun _ => true) b T F (own.map (·.2)) m1.length s H1 A1 Dl Q ((x.cps.toList.map fun c => SV.str ⟨#[c]⟩).drop i) H', ⟨x.cps.size, by simp, by rw [List.drop_zero]; exact lcw_start R1 (E.mono s1) hD e3 (k.after s1)⟩, ?_⟩
    rintro i n H' ⟨rfl, z⟩
    by_cases hl : i < x.cps.size
    · refine .inr ⟨hl, fun H5 => LcW (wd X g) (fun _ => true) b T F (own.map (·.2)) m1.length s H1 A1 Dl Q ((x.cps.toList.map fun c => SV.str ⟨#[c]⟩).drop (i + 1)) H5, fun H5 z5 => ⟨x.cps.size - (i + 1), by omega, rfl, z5⟩, fun w H5 hw => ?_⟩
      obtain ⟨rfl, c, hc, rfl⟩ := hw
      have hl2 : i < (x.cps.toList.map fun c => SV.str ⟨#[c]⟩).length := by rw [hlen]; exact hl
      have ed : (x.cps.toList.map fun c => SV.str ⟨#[c]⟩).drop i = .str ⟨#[c]⟩ :: (x.cps.toList.map fun c => SV.str ⟨#[c]⟩).drop (i + 1) := by
        rw [List.drop_eq_getElem_cons hl2]
        congr 1
        rw [List.getElem_map]
        have := (Array.getElem?_eq_some_iff.mp hc).2
        simp [← this]
      rw [ed] at z
      exact lcw_turn h1 h2 h3 z _ fun _ _ _ _ _ => .str _
    · refine .inl ⟨Nat.le_of_not_lt hl, ?_⟩
      rw [show (x.cps.toList.map fun c => SV.str ⟨#[c]⟩).drop i = [] from List.drop_eq_nil_iff.mpr (by rw [hlen]; omega)] at z
      exact lcw_end z
  | _ => cases e2
theorem lcL_run {t : TG} {tt : TT} {is vs : List Nat} (h1 : SemG (wd X g) t b is) (h2 : ∀ i ∈ is, i ∈ vs) (h3 : ∀ s H Q, tT (wd X g) T s H Q → tt s H Q) : ∀ s H Q, tD (wd X g) (dLc itLst Fi b T F vs) s H Q → tLc (iList X.K (tD (wd X g) Fi)) t tt (tD (wd X g) F) vs s H Q := fun s H Q ⟨A, r, m, y, m', R, E, e, k⟩ => by
  obtain ⟨⟨x, m1⟩, e1, e⟩ := Option.bind_eq_some_iff.mp e
  obtain ⟨⟨zs, gd⟩, e2, e⟩ := Option.bind_eq_some_iff.mp e
  obtain ⟨m2, e3, e⟩ := Option.map_eq_some_iff.mp e
  cases e
  refine ⟨A, r, m, x, m1, R, E, e1, fun v H1 A1 s1 R1 q1 => ?_⟩
  cases x with
  | ref j =>
    obtain ⟨zs', e4, e5⟩ := Option.map_eq_some_iff.mp (show (lstAt m1 j).map _ = _ from e2)
    cases e5
    obtain ⟨a, rfl, ha⟩ := q1.ex_ref
    obtain ⟨us, hu, qs⟩ := R1.lst ha (lstAt_some e4)
    refine ⟨a, rfl, ⟨us, .of hu⟩, fun Dl hD => ?_⟩
    refine ⟨fun i n H' => n = zs.length - i ∧ LcW (wd X g) (fun m' => decide (lstAt m' j = some zs)) b T F vs m1.length s H1 A1 Dl Q (zs.drop i) H', ⟨zs.length, by simp, by rw [List.drop_zero]; exact lcw_start R1 (E.mono s1) hD e3 (k.after s1)⟩, ?_⟩
    rintro i n H' ⟨rfl, z⟩
    obtain ⟨A4, m4, st4, R4, g4⟩ := lcw_gd z
    have e6 := of_decide_eq_true g4
    obtain ⟨ws, hw, qw⟩ := R4.lst (st4.get ha) (lstAt_some e6)
    by_cases hl : i < zs.length
    · have ed : zs.drop i = zs[i] :: zs.drop (i + 1) := List.drop_eq_getElem_cons hl
      obtain ⟨w, hw2, qy⟩ := qw.get (List.getElem?_eq_getElem hl)
      rw [ed] at z
      refine .inr ⟨⟨ws, w, .of hw, hw2⟩, fun H5 => LcW (wd X g) (fun m' => decide (lstAt m' j = some zs)) b T F vs m1.length s H1 A1 Dl Q (zs.drop (i + 1)) H5, fun H5 z5 => ⟨zs.length - (i + 1), by omega, rfl, z5⟩, fun x5 H5 hy => ?_⟩
      obtain ⟨rfl, hx5⟩ := hy
      have ex := hx5 ws (.of hw)
      rw [hw2] at ex
      cases ex
      refine lcw_turn h1 h2 h3 z w fun A7 m7 st7 R7 g7 => ?_
      obtain ⟨ws7, hw7, qw7⟩ := R7.lst (st7.get ha) (lstAt_some (of_decide_eq_true g7))
      rw [hw] at hw7
      cases hw7
      obtain ⟨w7, hw8, qy7⟩ := qw7.get (List.getElem?_eq_getElem hl)
      rw [hw2] at hw8
      cases hw8
      exact qy7
    · refine .inl ⟨⟨ws, .of hw, by rw [qw.length]; omega⟩, ?_⟩
      rw [show zs.drop i = [] from List.drop_eq_nil_iff.mpr (by omega)] at z
      exact lcw_end z
  | _ => cases e2
theorem de_lcL (hi : PE X it (tD (wd X g) Fi)) (B : Blk X g elt tg ifs scope own b T F) (hs : ∀ x, foldedSetIterable it X.env x = pure x := by intro _; rfl) :
    PE X (.ListComp elt [⟨tg, it, ifs, 0⟩] scope pos) (tD (wd X g) (dLc itLst Fi b T F (own.map (·.2)))) := lc_all B (pi_list hi) hs fun t tt is h1 h2 h3 => lcL_run h1 h2 h3
end
end VW

/-! viewwood k93: dicts. -/
namespace VW
open PySem PySem.Spec PyProof.Rows L2

/-! ### keys -/
mutual
theorem keyOf_inj : ∀ (x y : SV) (k : NestedKey), keyOf x = some k → keyOf y = some k → x = y
  | .non, y, k, hx, hy => by
    cases hx
    cases y with
    | non => rfl
    | tup ys => rw [keyOf] at hy; obtain ⟨_, _, e⟩ := Option.map_eq_some_iff.mp hy; cases e
    | _ => cases hy
  | .int i, y, k, hx, hy => by
    cases hx
    cases y with
    | int j => cases hy; rfl
    | tup ys => rw [keyOf] at hy; obtain ⟨_, _, e⟩ := Option.map_eq_some_iff.mp hy; cases e
    | _ => cases hy
  | .str i, y, k, hx, hy => by
    cases hx
    cases y with
    | str j => cases hy; rfl
    | tup ys => rw [keyOf] at hy; obtain ⟨_, _, e⟩ := Option.map_eq_some_iff.mp hy; cases e
    | _ => cases hy
  | .tup xs, y, k, hx, hy => by
    rw [keyOf] at hx
    obtain ⟨ks, e1, e2⟩ := Option.map_eq_some_iff.mp hx
    subst e2
    cases y with
    | tup ys =>
      rw [keyOf] at hy
      obtain ⟨ls, e3, e4⟩ := Option.map_eq_some_iff.mp hy
      cases e4
      rw [keysOf_inj xs ys _ e1 e3]
    | _ => cases hy
  | .bl _, _, _, hx, _ => by cases hx
  | .ref _, _, _, hx, _ => by cases hx
  | .scr _, _, _, hx, _ => by cases hx
theorem keysOf_inj : ∀ (xs ys : List SV) (ks : List NestedKey), keysOf xs = some ks → keysOf ys = some ks → xs = ys
  | [], ys, ks, hx, hy => by
    cases hx
    cases ys with
    | nil => rfl
    | cons y ys => rw [keysOf] at hy; split at hy <;> cases hy
  | x :: xs, ys, ks, hx, hy => by
    rw [keysOf] at hx
    split at hx
    · rename_i k ls e1 e2
      cases hx
      cases ys with
      | nil => cases hy
      | cons y ys =>
        rw [keysOf] at hy
        split at hy
        · rename_i k' ls' e3 e4
          cases hy
          rw [keyOf_inj x y _ e1 e3, keysOf_inj xs ys _ e2 e4]
        · cases hy
    · cases hx
end
mutual
theorem pl_key : ∀ (n : Nat) (x : SV), pl n x = true → ∃ k, keyOf x = some k ∧ k.depth ≤ n
  | n, .non, _ => ⟨_, rfl, by simp [NestedKey.depth]⟩
  | n, .int _, _ => ⟨_, rfl, by simp [NestedKey.depth]⟩
  | n, .str _, _ => ⟨_, rfl, by simp [NestedKey.depth]⟩
  | 0, .tup xs, h => by simp [pl] at h
  | n + 1, .tup xs, h => by
    rw [pl_tup] at h
    obtain ⟨ks, e, d⟩ := pls_key n xs h
    exact ⟨.tup ks, by rw [keyOf, e]; rfl, by simp only [NestedKey.depth]; omega⟩
  | n, .bl b, h => by simp [pl] at h
  | n, .ref b, h => by simp [pl] at h
  | n, .scr b, h => by simp [pl] at h
theorem pls_key : ∀ (n : Nat) (xs : List SV), xs.all (pl n) = true → ∃ ks, keysOf xs = some ks ∧ NestedKey.depthAll ks ≤ n
  | n, [], _ => ⟨[], rfl, by simp [NestedKey.depthAll]⟩
  | n, x :: xs, h => by
    rw [List.all_cons, Bool.and_eq_true] at h
    obtain ⟨k, e, d⟩ := pl_key n x h.1
    obtain ⟨ks, e2, d2⟩ := pls_key n xs h.2
    exact ⟨k :: ks, by rw [keysOf, e, e2], by simp only [NestedKey.depthAll]; omega⟩
end
section
variable {X : Cx} {g : Gs} {pins : List (Addr × Obj)} {σ : L2.St} {H : Hp} {s : Shared}
mutual
theorem sr_nested (I : Inv X pins σ H s) {A : List Addr} : ∀ {v : V} {x : SV} {u : Value} {k : NestedKey}, SR (wd X g) A H v x → keyOf x = some k → RelV v u → NestedIs s.heap k u
  | _, _, _, _, .non, e, r => by cases e; cases r; exact .none
  | _, _, _, _, .bl b, e, r => by cases e
  | _, _, _, _, .int i, e, r => by cases e; obtain ⟨t, rfl⟩ := r; exact .int i t
  | _, _, _, _, .str i, e, r => by cases e; obtain ⟨t, rfl⟩ := r; exact .text i t
  | _, _, _, _, .tup h hs, e, r => by
    rw [keyOf] at e
    obtain ⟨ks, e1, e2⟩ := Option.map_eq_some_iff.mp e
    subst e2
    cases r
    obtain ⟨its, rv, ⟨o, ho, hc, n, hd⟩, _⟩ := I.tuple h.sq
    exact .tup ho hc hd (srs_nested I hs e1 (by simpa using rv))
  | _, _, _, _, .ref h, e, r => by cases e
  | _, _, _, _, .scr, e, r => by cases e
theorem srs_nested (I : Inv X pins σ H s) {A : List Addr} : ∀ {vs : List V} {xs : List SV} {us : List Value} {ks : List NestedKey}, SRs (wd X g) A H vs xs → keysOf xs = some ks → Vals vs us → NestedAll s.heap ks us
  | _, _, _, _, .nil, e, r => by cases e; cases r; exact .nil
  | _, _, _, _, .cons h hs, e, r => by
    rw [keysOf] at e
    split at e
    · rename_i k ls e1 e2
      cases e
      cases r with
      | cons r rs => exact .cons (sr_nested I h e1 r) (srs_nested I hs e2 rs)
    · cases e
end
theorem kr_is (I : Inv X pins σ H s) {A : List Addr} {a : Addr} {x : SV} {k : NestedKey} (h : KR (wd X g) A H a x k) : (nestedKind X.prog X.w).is s.heap k a := ⟨sr_nested I h.2.2 h.2.1 rfl, h.1⟩
end
/-- a tuple that may be a key -/
def isKey (x : SV) : Bool := match x with
  | .tup _ => pl 8 x
  | _ => false
theorem isKey_kr {W : Wd} {A : List Addr} {H : Hp} {v : V} {x : SV} (h : isKey x = true) (q : SR W A H v x) : ∃ a k, v = .ref a ∧ KR W A H a x k := by
  cases x with
  | tup xs =>
    obtain ⟨k, e, d⟩ := pl_key 8 _ h
    obtain ⟨a, vs, rfl, ht, qs⟩ := q.ex_tup
    exact ⟨a, k, rfl, d, e, .tup ht qs⟩
  | _ => cases h

/-! ### what stands at a key -/
def look (kvs : List (SV × SV)) (x : SV) : Option SV := (kvs.find? fun p => decide (p.1 = x)).map (·.2)
def putN (kvs : List (SV × SV)) (x y : SV) : List (SV × SV) := if (look kvs x).isSome = true then kvs.map (fun p => if p.1 = x then (p.1, y) else p) else kvs ++ [(x, y)]
abbrev RowV (r : NestedKey × Addr × V) (x : NestedKey × Addr × Value) : Prop := r.1 = x.1 ∧ r.2.1 = x.2.1 ∧ RelV r.2.2 x.2.2
theorem look_cons (p : SV × SV) (kvs : List (SV × SV)) (x : SV) : look (p :: kvs) x = if p.1 = x then some p.2 else look kvs x := by
  unfold look
  rw [List.find?_cons]
  by_cases h : p.1 = x <;> simp [h]
theorem look_at {W : Wd} {A : List Addr} {H : Hp} {x : SV} {k : NestedKey} (hk : keyOf x = some k) : ∀ {kvs : List (SV × SV)} {rows : List (NestedKey × Addr × V)} {xs : List (NestedKey × Addr × Value)}, Paired (RowR W A H) kvs rows → Paired RowV rows xs →
    (look kvs x = none ∧ atKey xs k = none) ∨ ∃ y a v u, look kvs x = some y ∧ atKey xs k = some (a, u) ∧ RelV v u ∧ SR W A H v y
  | _, _, _, .nil, .nil => .inl ⟨rfl, rfl⟩
  | _, _, _, .cons (a := p) (b := r) h1 t1, .cons (b := z) h2 t2 => by
    obtain ⟨⟨hd, he, hs⟩, hv⟩ := h1
    obtain ⟨e1, e2, e3⟩ := h2
    rw [look_cons]
    by_cases h : p.1 = x
    · rw [if_pos h]
      refine .inr ⟨p.2, z.2.1, r.2.2, z.2.2, rfl, ?_, e3, hv⟩
      have : z.1 = k := by
        rw [h, hk] at he
        rw [← e1]
        exact (Option.some.inj he).symm
      unfold atKey
      rw [List.find?_cons]
      simp [this]
    · rw [if_neg h]
      have hz : ¬ z.1 = k := fun q => h (keyOf_inj p.1 x k (by rw [he, e1, q]) hk)
      have this : ∀ l, atKey (z :: l) k = atKey l k := fun l => by
        unfold atKey
        rw [List.find?_cons]
        simp [hz]
      rw [this]
      exact look_at hk t1 t2
theorem paired_app {α β : Type} {F : α → β → Prop} : ∀ {l1 l2 : List α} {m1 m2 : List β}, Paired F l1 m1 → Paired F l2 m2 → Paired F (l1 ++ l2) (m1 ++ m2)
  | _, _, _, _, .nil, h => h
  | _, _, _, _, .cons h t, h2 => .cons h (paired_app t h2)
theorem paired_map {α β : Type} {F : α → β → Prop} {f : α → α} {f' : β → β} (h : ∀ a b, F a b → F (f a) (f' b)) : ∀ {l : List α} {m : List β}, Paired F l m → Paired F (l.map f) (m.map f')
  | _, _, .nil => .nil
  | _, _, .cons q t => .cons (h _ _ q) (paired_map h t)
theorem paired_mono {α β : Type} {F G : α → β → Prop} (h : ∀ a b, F a b → G a b) : ∀ {l : List α} {m : List β}, Paired F l m → Paired G l m
  | _, _, .nil => .nil
  | _, _, .cons q t => .cons (h _ _ q) (paired_mono h t)
def putR (rows : List (NestedKey × Addr × V)) (k : NestedKey) (a : Addr) (v : V) (old : Bool) : List (NestedKey × Addr × V) := if old = true then rows.map (fun p => if p.1 = k then (p.1, p.2.1, v) else p) else rows ++ [(k, a, v)]
theorem put_kvs {W : Wd} {A : List Addr} {H : Hp} {x y : SV} {k : NestedKey} {a : Addr} {v : V} {kvs : List (SV × SV)} {rows : List (NestedKey × Addr × V)} (hk : KR W A H a x k) (hv : SR W A H v y) (h : Paired (RowR W A H) kvs rows) :
    Paired (RowR W A H) (putN kvs x y) (putR rows k a v (look kvs x).isSome) := by
  unfold putN putR
  split
  · refine paired_map (fun p r q => ?_) h
    have e : p.1 = x ↔ r.1 = k := by
      constructor
      · intro z
        have := q.1.2.1
        rw [z, hk.2.1] at this
        exact (Option.some.inj this).symm
      · intro z
        exact keyOf_inj p.1 x k (by rw [q.1.2.1, z]) hk.2.1
    by_cases z : p.1 = x
    · rw [if_pos z, if_pos (e.mp z)]
      exact ⟨q.1, hv⟩
    · rw [if_neg z, if_neg fun w => z (e.mpr w)]
      exact q
  · exact paired_app h (.cons ⟨hk, hv⟩ .nil)
theorem put_rows {k : NestedKey} {a : Addr} {v : V} {u : Value} (rv : RelV v u) {rows : List (NestedKey × Addr × V)} {xs : List (NestedKey × Addr × Value)} (h : Paired RowV rows xs) : Paired RowV (putR rows k a v (atKey xs k).isSome) (storedH xs k a u) := by
  unfold putR storedH
  by_cases z : (atKey xs k).isSome = true
  · rw [if_pos z, if_pos z]
    refine paired_map (fun p r q => ?_) h
    unfold putAt
    by_cases w : p.1 = k
    · rw [if_pos w, if_pos (by rw [← q.1]; exact w)]
      exact ⟨q.1, q.2.1, rv⟩
    · rw [if_neg w, if_neg (by rw [← q.1]; exact w)]
      exact q
  · rw [if_neg z, if_neg z]
    exact paired_app h (.cons ⟨rfl, rfl, rv⟩ .nil)

/-! ### the dict in the heap -/
theorem paired_len {α β : Type} {F : α → β → Prop} : ∀ {l : List α} {m : List β}, Paired F l m → l.length = m.length
  | _, _, .nil => rfl
  | _, _, .cons _ t => by simp [paired_len t]
section
variable {X : Cx} {g : Gs} {pins : List (Addr × Obj)} {σ : L2.St} {H : Hp} {s : Shared} {A : List Addr}
theorem dn_heap (I : Inv X pins σ H s) {d : Addr} {kvs : List (SV × SV)} {rows : List (NestedKey × Addr × V)} (h : H d = some (DNO X.prog X.w d rows)) (hp : Paired (RowR (wd X g) A H) kvs rows) :
    rows.length ≤ sizeLine ∧ (d == sysModules) = false ∧ ∃ xs, Paired RowV rows xs ∧ s.heap.DictOfH (nestedKind X.prog X.w) d xs := by
  obtain ⟨⟨hz, hs, xs, hx, o, es, ep, ho, hex, hd, he, hn⟩, _, _⟩ := I.hok d _ h
  refine ⟨hz, hs, xs, hx, o, es, ep, ho, hex, hd, he, ?_, hn⟩
  have key : ∀ {kvs : List (SV × SV)} {rows : List (NestedKey × Addr × V)} {xs : List (NestedKey × Addr × Value)}, Paired (RowR (wd X g) A H) kvs rows → Paired RowV rows xs → ∀ x ∈ xs, (nestedKind X.prog X.w).is s.heap x.1 x.2.1 := by
    intro kvs rows xs h1 h2
    induction h2 generalizing kvs with
    | nil => intro x hx; cases hx
    | cons q t ih =>
      cases h1 with
      | cons q1 t1 =>
        intro x hx
        rcases List.mem_cons.mp hx with e | hx
        · subst e
          rw [← q.1, ← q.2.1]
          exact kr_is I q1.1
        · exact ih t1 x hx
  exact key hp hx
theorem dno_mk {h : Heap} {d : Addr} {rows : List (NestedKey × Addr × V)} {xs : List (NestedKey × Addr × Value)} {H' : Hp} (hz : rows.length ≤ sizeLine) (hs : (d == sysModules) = false) (hx : Paired RowV rows xs) (hm : h.DictOfH (nestedKind X.prog X.w) d xs) : ObjOk X.prog X.w H' h d (DNO X.prog X.w d rows) := by
  obtain ⟨o, es, ep, ho, hex, hd, he, _, hn⟩ := hm
  refine ⟨⟨hz, hs, xs, hx, o, es, ep, ho, hex, hd, he, hn⟩, ⟨o, ho⟩, ?_⟩
  rintro h1 h2 ⟨hz, hs, xs, hx, o, es, ep, ho, r⟩ k
  exact ⟨hz, hs, xs, hx, o, es, ep, k o ho, r⟩
theorem dno_ne {P : Program} {w : World} {d : Addr} {rows : List (NestedKey × Addr × V)} : (∀ xs, DNO P w d rows ≠ .tup xs) ∧ ∀ b v, DNO P w d rows ≠ .frz b v := by
  refine ⟨fun xs z => ?_, fun b v z => ?_⟩ <;> (unfold DNO at z; cases z)
end

/-! ### {} -/
def dDNew : DE := fun _ m => some (.ref m.length, m ++ [.dN []])
section
variable {X : Cx} {g : Gs}
theorem big_new {pins : List (Addr × Obj)} {σ : L2.St} {H : Hp} {s : Shared} (I : Inv X pins σ H s) (t' : Nat) : Inv X pins σ (upd H s.heap.objs.size (DNO X.prog X.w s.heap.objs.size [])) { s with heap := s.heap.push { cls := .type "dict", data := .dict #[] }, toks := t' } :=
  I.laid (a := s.heap.objs.size) (t' := t') (fun _ _ q => Heap.get?_push_of_some _ q) (Nat.le_refl _) (dno_mk (Nat.zero_le _) (beq_eq_false_iff_ne.mpr (Nat.ne_of_gt I.big)) .nil (Heap.DictOfH.new s.heap))
theorem dn_alloc {W : Wd} {A : List Addr} {H : Hp} {m : Mu} {p : Addr} (R : Rl W A H m) (h : H p = none) : Rl W (A ++ [p]) (upd H p (DNO W.P W.w p [])) (m ++ [.dN []]) := R.alloc (u := .dN []) h ⟨[], upd_same, .nil⟩
theorem de_dnew {pos : Pos} : PE X (.Dict [] [] pos) (tD (wd X g) dDNew) := ⟨fun pins s σ H Q I ⟨A, r, m, y, m', R, E, e, k⟩ => by
  cases e
  have hp : H s.heap.objs.size = none := I.hok.fresh (Nat.le_refl _)
  refine wpAny_Dict_empty ⟨.ref s.heap.objs.size, _, big_new I s.toks, rfl, ?_⟩
  exact k _ _ (A ++ [s.heap.objs.size]) (.new hp) (dn_alloc R hp) (.ref (by rw [← R.len]; simp))⟩

/-! ### in, d[k] -/
def dnAt (m : Mu) (i : Nat) : Option (List (SV × SV)) := match m[i]? with
  | some (.dN kvs) => some kvs
  | _ => none
theorem dnAt_some {m : Mu} {i : Nat} {kvs : List (SV × SV)} (h : dnAt m i = some kvs) : m[i]? = some (.dN kvs) := by
  unfold dnAt at h
  split at h
  · cases h; assumption
  · cases h
def rdOf (W : Wd) (f : F2) : R2 := fun v u H Q => ∃ A m x y z m', Rl W A H m ∧ SR W A H v x ∧ SR W A H u y ∧ f x y m = some (z, m') ∧ FinV W A H m' z Q
theorem se_of {W : Wd} {f : F2} : Sem2 W (rdOf W f) f := fun A H m v u x y z m' Q R qx qy e k => ⟨A, m, x, y, z, m', R, qx, qy, e, k⟩
def fInN : F2 := fun x y m => match y with
  | .ref i => (dnAt m i).bind fun kvs => if isKey x = true then some (.bl (look kvs x).isSome, m) else none
  | _ => none
def fNinN : F2 := fun x y m => match y with
  | .ref i => (dnAt m i).bind fun kvs => if isKey x = true then some (.bl (!(look kvs x).isSome), m) else none
  | _ => none
theorem room_key {k : Nat} {A : Around} (hr : Room k A) {P : Program} {w : World} : (nestedKind P w).room A.in1 := by
  have := hr.un
  show A.units + 1 + 8 < cLine
  omega
/-- a dict and a key, in the heap -/
theorem dn_both {pins : List (Addr × Obj)} {σ : L2.St} {H : Hp} {s : Shared} {A : List Addr} {m : Mu} {v u : V} {x : SV} {i : Nat} {kvs : List (SV × SV)} (I : Inv X pins σ H s) (R : Rl (wd X g) A H m) (qx : SR (wd X g) A H v x) (qy : SR (wd X g) A H u (.ref i)) (hx : isKey x = true) (hd : dnAt m i = some kvs) :
    ∃ a d k rows xs, v = .ref a ∧ u = .ref d ∧ A[i]? = some d ∧ KR (wd X g) A H a x k ∧ H d = some (DNO X.prog X.w d rows) ∧ Paired (RowR (wd X g) A H) kvs rows ∧ rows.length ≤ sizeLine ∧ (d == sysModules) = false ∧ Paired RowV rows xs ∧ s.heap.DictOfH (nestedKind X.prog X.w) d xs ∧ (nestedKind X.prog X.w).is s.heap k a := by
  obtain ⟨a, k, rfl, hk⟩ := isKey_kr hx qx
  obtain ⟨d, rfl, hi⟩ := qy.ex_ref
  obtain ⟨rows, hr, hp⟩ : ∃ rows, H d = some (DNO X.prog X.w d rows) ∧ Paired (RowR (wd X g) A H) kvs rows := R.ob i d _ hi (dnAt_some hd)
  obtain ⟨hz, hs, xs, h1, h2⟩ := dn_heap I hr hp
  exact ⟨a, d, k, rows, xs, rfl, rfl, hi, hk, hr, hp, hz, hs, h1, h2, kr_is I hk⟩
theorem op_inN {k : Nat} (hr : Room k X.A) : OpR X (compareOp .In) (rdOf (wd X g) fInN) := by
  intro pins s σ H v u vv uu Q I rx ry ⟨A, m, x, y, z, m', R, qx, qy, e, k⟩
  unfold fInN at e
  split at e
  · rename_i i
    obtain ⟨kvs, e1, e⟩ := Option.bind_eq_some_iff.mp e
    split at e
    · rename_i hx
      cases e
      obtain ⟨a, d, kk, rows, xs, rfl, rfl, hi, hk, hd, hp, hz, hs, h1, h2, h3⟩ := dn_both I R qx qy hx e1
      cases rx
      cases ry
      refine wpAny_in_heap (room_key hr) h3 hs h2 ?_
      have eq : (atKey xs kk).isSome = (look kvs x).isSome := by
        rcases look_at hk.2.1 hp h1 with ⟨l1, l2⟩ | ⟨_, _, _, _, l1, l2, _⟩ <;> rw [l1, l2] <;> rfl
      exact ⟨.bl (look kvs x).isSome, H, I.tok _, by rw [eq]; rfl, k.now R (.bl _)⟩
    · cases e
  · cases e
theorem op_ninN {k : Nat} (hr : Room k X.A) : OpR X (compareOp .NotIn) (rdOf (wd X g) fNinN) := by
  intro pins s σ H v u vv uu Q I rx ry ⟨A, m, x, y, z, m', R, qx, qy, e, k⟩
  unfold fNinN at e
  split at e
  · rename_i i
    obtain ⟨kvs, e1, e⟩ := Option.bind_eq_some_iff.mp e
    split at e
    · rename_i hx
      cases e
      obtain ⟨a, d, kk, rows, xs, rfl, rfl, hi, hk, hd, hp, hz, hs, h1, h2, h3⟩ := dn_both I R qx qy hx e1
      cases rx
      cases ry
      refine wpAny_notIn_heap (room_key hr) h3 hs h2 ?_
      have eq : (atKey xs kk).isSome = (look kvs x).isSome := by
        rcases look_at hk.2.1 hp h1 with ⟨l1, l2⟩ | ⟨_, _, _, _, l1, l2, _⟩ <;> rw [l1, l2] <;> rfl
      exact ⟨.bl (!(look kvs x).isSome), H, I.tok _, by rw [eq]; rfl, k.now R (.bl _)⟩
    · cases e
  · cases e
def fIxN : F2 := fun x y m => match x with
  | .ref i => (dnAt m i).bind fun kvs => if isKey y = true then (look kvs y).map fun z => (z, m) else none
  | _ => none
theorem ix_dn {k : Nat} (hr : Room k X.A) : IxR X (rdOf (wd X g) fIxN) := by
  intro value slice pins s σ H v u vv uu Q I rx ry ⟨A, m, x, y, z, m', R, qx, qy, e, k⟩ hsub
  unfold fIxN at e
  split at e
  · rename_i i
    obtain ⟨kvs, e1, e⟩ := Option.bind_eq_some_iff.mp e
    split at e
    · rename_i hy
      obtain ⟨z', e2, e3⟩ := Option.map_eq_some_iff.mp e
      cases e3
      obtain ⟨a, d, kk, rows, xs, rfl, rfl, hi, hk, hd, hp, hz, hs, h1, h2, h3⟩ := dn_both I R qy qx hy e1
      cases rx
      cases ry
      rcases look_at hk.2.1 hp h1 with ⟨l1, _⟩ | ⟨y', a', v', u', l1, l2, rv, qv⟩
      · rw [l1] at e2; cases e2
      · rw [l1] at e2; cases e2
        exact tail_any h2.typeIs slot_dict_getitem.lookup (wpAny_getItem_heap (room_key hr) h3 h2 l2 ⟨v', H, I.tok _, rv, k.now R qv⟩) hsub
    · cases e
  · cases e

/-! ### d[k] = v -/
def fPutN : F3 := fun x y z m => match x with
  | .ref i => (dnAt m i).bind fun kvs => if isKey y = true ∧ kvs.length ≤ 1000 then some (m.set i (.dN (putN kvs y z))) else none
  | _ => none
def tdOf (W : Wd) (f : F3) : TSet := fun o i v H Q => ∃ A m x y z m', Rl W A H m ∧ SR W A H o x ∧ SR W A H i y ∧ SR W A H v z ∧ f x y z m = some m' ∧ ∀ H' A', Stp W A A' H H' → Rl W A' H' m' → Q H'
theorem sp_of {W : Wd} {f : F3} : SemP W (tdOf W f) f := fun A H m o i v x y z m' Q R q1 q2 q3 e k => ⟨A, m, x, y, z, m', R, q1, q2, q3, e, k⟩
/-- the dict at d rewritten -/
theorem dn_write {pins : List (Addr × Obj)} {σ : L2.St} {H : Hp} {s : Shared} {A : List Addr} {m : Mu} {i : Nat} {d a : Addr} {k : NestedKey} {kvs : List (SV × SV)} {rows : List (NestedKey × Addr × V)} {xs : List (NestedKey × Addr × Value)} {x z : SV} {v : V} {u : Value} {h' : Heap} {tk : Nat}
    (I : Inv X pins σ H s) (R : Rl (wd X g) A H m) (hi : A[i]? = some d) (hk : KR (wd X g) A H a x k) (qv : SR (wd X g) A H v z) (rv : RelV v u) (hd : H d = some (DNO X.prog X.w d rows)) (hp : Paired (RowR (wd X g) A H) kvs rows) (hz : kvs.length ≤ 1000) (hs : (d == sysModules) = false)
    (h1 : Paired RowV rows xs) (hm : h'.DictOfH (nestedKind X.prog X.w) d (storedH xs k a u)) (sb : Heap.SameBut d s.heap h') :
    ∃ H', Inv X pins σ H' { s with heap := h', toks := tk } ∧ Rl (wd X g) A H' (m.set i (.dN (putN kvs x z))) ∧ Stp (wd X g) A A H H' := by
  have hold : (atKey xs k).isSome = (look kvs x).isSome := by
    rcases look_at hk.2.1 hp h1 with ⟨l1, l2⟩ | ⟨_, _, _, _, l1, l2, _⟩ <;> rw [l1, l2] <;> rfl
  have r1 := put_rows (k := k) (a := a) rv h1
  rw [hold] at r1
  have r2 := put_kvs hk qv hp
  have hl : (putR rows k a v (look kvs x).isSome).length ≤ sizeLine := by
    have := paired_len hp
    unfold putR
    split
    · rw [List.length_map]; exact le_line (by omega)
    · rw [List.length_append, List.length_singleton]; exact le_line (by omega)
  have st : Stp (wd X g) A A H (upd H d (DNO X.prog X.w d (putR rows k a v (look kvs x).isSome))) := ⟨⟨[], by simp⟩, tk_write hd dno_ne.1 dno_ne.2⟩
  refine ⟨_, I.write (x := d) (e := d) (t' := tk) (by rw [hd]; exact trivial) (.inl rfl) (fun b o hb e => (sb.2 b hb).trans e) ?_ (dno_mk hl hs r1 hm), ?_⟩
  · obtain ⟨o, _, _, ho, _⟩ := hm
    exact ⟨o, ho⟩
  · exact R.write hi hd dno_ne.1 dno_ne.2 ⟨_, upd_same, paired_mono (fun p q z => ⟨⟨z.1.1, z.1.2.1, z.1.2.2.mono st⟩, z.2.mono st⟩) r2⟩
theorem set_dn {k : Nat} (hr : Room k X.A) : PSet X (tdOf (wd X g) fPutN) := by
  intro pins s σ H o i v ov iv u Q I ro ri rv ⟨A, m, x, y, z, m', R, qo, qi, qv, e, k⟩
  unfold fPutN at e
  split at e
  · rename_i j
    obtain ⟨kvs, e1, e⟩ := Option.bind_eq_some_iff.mp e
    split at e
    · rename_i hy
      cases e
      obtain ⟨a, d, kk, rows, xs, rfl, rfl, hi, hk, hd, hp, hz, hs, h1, h2, h3⟩ := dn_both I R qi qo hy.1 e1
      cases ro
      cases ri
      refine wpAny_setItem_heap (room_key hr) h3 h2 (fun h' hm' sb => ?_) (by rw [← paired_len h1]; exact hz)
      obtain ⟨H', I', R', st⟩ := dn_write (tk := s.toks + (nestedKind X.prog X.w).draws kk) I R hi hk qv rv hd hp hy.2 hs h1 hm' sb
      exact ⟨H', I', k H' A st R'⟩
    · cases e
  · cases e

/-! ### l[i] = v -/
def fPutL : F3 := fun x y z m => match x, y with
  | .ref i, .int j => (lstAt m i).bind fun xs => (ixN xs.length j).map fun n => m.set i (.lst (xs.set n z))
  | _, _ => none
theorem sp_lst {W : Wd} : SemP W rSetL fPutL := fun A H m o i v x y z m' Q R q1 q2 q3 e k => by
  unfold fPutL at e
  split at e
  · rename_i i j
    obtain ⟨xs, e1, e⟩ := Option.bind_eq_some_iff.mp e
    obtain ⟨n, e2, e⟩ := Option.map_eq_some_iff.mp e
    cases e
    obtain ⟨a, rfl, ha⟩ := q1.ex_ref
    cases q2
    obtain ⟨us, hu, qu⟩ := R.lst ha (lstAt_some e1)
    obtain ⟨R2, st⟩ := lst_write (xs := xs) R ha hu (SRs.set q3 n qu)
    exact ⟨a, us, j, n, rfl, rfl, hu, by rw [qu.length]; exact e2, k _ A st R2⟩
  · cases e

/-! ### {k: v} -/
def dDis (F G : DE) : DE := fun r m => (F r (m ++ [.dN []])).bind fun p => (G r p.2).bind fun q => match q.2[m.length]? with
  | some (.dN []) => if isKey p.1 = true then some (.ref m.length, q.2.set m.length (.dN [(p.1, q.1)])) else none
  | _ => none
end
end VW

/-! viewwood k93: dicts by texts, displays, extend by a tuple, sorted of one item. -/
namespace VW
open PySem PySem.Spec PyProof.Rows L2

section
variable {X : Cx} {g : Gs}
/-! ### {k: v} -/
theorem de_dis {a b : Expr} {F G : DE} {pos : Pos} {k : Nat} (hr : Room k X.A) (ha : PE X a (tD (wd X g) F)) (hb : PE X b (tD (wd X g) G))
    (hshape : (evalEachOpt [some a] X.env).zip ((evalEach [b] X.env).map fun v => do let x ← v; standAt pos; pure x) = [(eval a X.env, (do let x ← eval b X.env; standAt pos; pure x))].map fun p => (some p.1, p.2) := by rfl) :
    PE X (.Dict [some a] [b] pos) (tD (wd X g) (dDis F G)) := ⟨fun pins s σ H Q I ⟨A, r, m, y, m', R, E, e, k⟩ => by
  obtain ⟨⟨x, m1⟩, e1, e⟩ := Option.bind_eq_some_iff.mp e
  obtain ⟨⟨z, m2⟩, e2, e⟩ := Option.bind_eq_some_iff.mp e
  dsimp only at e
  split at e
  · rename_i hd2
    split at e
    · rename_i hx
      cases e
      have hp : H s.heap.objs.size = none := I.hok.fresh (Nat.le_refl _)
      generalize hD : s.heap.objs.size = D at hp
      have hu : (nestedKind X.prog X.w).room X.A := by
        have := hr.un
        show X.A.units + 8 < cLine
        omega
      rw [arm_eval_Dict, hshape, dictDisplay_pairs _ (by simp) (by simp)]
      refine wpAny_bind (wpAny_standAt (wpAny_bind (wpAny_subDictH (knd := nestedKind X.prog X.w) (Q := fun d s' => wpAny (model X.prog X.w) X.A (pure (Value.ref d)) (EP X pins σ Q) X.xe s') hu (by simp) ?_)))
      have I0 : Inv X pins σ (upd H D (DNO X.prog X.w D [])) { s with heap := s.heap.push { cls := .type "dict", data := .dict #[] }, toks := s.toks } := by
        rw [← hD]; exact big_new I s.toks
      have st0 : Stp (wd X g) A (A ++ [D]) H (upd H D (DNO X.prog X.w D [])) := .new hp
      have R0 := dn_alloc (W := wd X g) R hp
      have hDA : (A ++ [D])[m.length]? = some D := by rw [← R.len]; simp
      refine evalPairs_cons (thn (ha.run pins _ σ _ _ I0 ⟨A ++ [D], r, _, x, m1, R0, E.mono st0, e1, fun v H1 A1 s1 R1 q1 => (show (∃ A1, Stp (wd X g) (A ++ [D]) A1 (upd H D (DNO X.prog X.w D [])) H1 ∧ Rl (wd X g) A1 H1 m1 ∧ SR (wd X g) A1 H1 v x) from ⟨A1, s1, R1, q1⟩)⟩) fun kv t1 ⟨v, H1, I1, rv, A1, s1, R1, q1⟩ => ?_)
      refine wpAny_bind (thn (hb.run pins _ σ _ _ I1 ⟨A1, r, m1, z, m2, R1, E.mono (st0.trans s1), e2, fun w H2 A2 s2 R2 q2 => (show (∃ A2, Stp (wd X g) A1 A2 H1 H2 ∧ Rl (wd X g) A2 H2 m2 ∧ SR (wd X g) A2 H2 w z) from ⟨A2, s2, R2, q2⟩)⟩) fun kv2 t2 ⟨w, H2, I2, rw2, A2, s2, R2, q2⟩ => ?_)
      refine wpAny_bind (wpAny_standAt (wpAny_pure (evalPairs_nil ?_)))
      obtain ⟨ka, kk, rfl, hk⟩ := isKey_kr hx (q1.mono s2)
      cases rv
      have hi : A2[m.length]? = some D := s2.get (s1.get hDA)
      obtain ⟨rows, hr2, hp2⟩ : ∃ rows, H2 D = some (DNO X.prog X.w D rows) ∧ Paired (RowR (wd X g) A2 H2) [] rows := R2.ob _ D _ hi hd2
      cases hp2
      obtain ⟨hz, hs, xs, h1, h2⟩ := dn_heap I2 hr2 (g := g) (A := A2) .nil
      cases h1
      refine ⟨[(kk, ka, kv2)], ⟨rfl, rfl, kr_is I2 hk, trivial⟩, by rw [hD]; exact h2, fun h' tk hm' sb => ?_⟩
      rw [hD] at hm' sb ⊢
      have hm2 : h'.DictOfH (nestedKind X.prog X.w) D (storedH [] kk ka kv2) := hm'
      obtain ⟨H', I', R', st⟩ := dn_write (tk := tk) I2 R2 hi hk q2 rw2 hr2 .nil (by simp) hs .nil hm2 sb
      refine wpAny_pure ⟨.ref D, H', I', rfl, ?_⟩
      exact k _ H' A2 (((st0.trans s1).trans s2).trans st) R' (.ref hi)
    · cases e
  · cases e⟩

/-! ### dict(a tuple of at most one pair) -/
def dsAt (m : Mu) (i : Nat) : Option (List (Str × SV)) := match m[i]? with
  | some (.dS kvs) => some kvs
  | _ => none
theorem dsAt_some {m : Mu} {i : Nat} {kvs : List (Str × SV)} (h : dsAt m i = some kvs) : m[i]? = some (.dS kvs) := by
  unfold dsAt at h
  split at h
  · cases h; assumption
  · cases h
def fDict : FL := fun xs m => match xs with
  | [.tup []] => some (.ref m.length, m ++ [.dS []])
  | [.tup [.tup [.str k, v]]] => some (.ref m.length, m ++ [.dS [(k, v)]])
  | _ => none
def rdL (W : Wd) (f : FL) : List V → Hp → VK → Prop := fun vs H Q => ∃ A m xs z m', Rl W A H m ∧ SRs W A H vs xs ∧ f xs m = some (z, m') ∧ FinV W A H m' z Q
theorem seL_of {W : Wd} {f : FL} : SemL W (rdL W f) f := fun A H m vs xs z m' Q R q e k => ⟨A, m, xs, z, m', R, q, e, k⟩
/-- a new dict by texts, as it stands -/
theorem ds_laid {pins : List (Addr × Obj)} {σ : L2.St} {H : Hp} {s : Shared} {A : List Addr} {m : Mu} {h' : Heap} {tk : Nat} {kvs : List (Str × SV)} {ps : List (Key × V)} {vs : List (Key × Value)} {Q : VK} (I : Inv X pins σ H s) (R : Rl (wd X g) A H m) (hk : KV ps vs) (hl : ps.length ≤ 1000)
    (hm : h'.DictOf (mixKind X.prog X.w) s.heap.objs.size vs) (kp : ∀ b o, s.heap.get? b = some o → h'.get? b = some o) (hp : ∀ A H', Stp (wd X g) A A H H' → True)
    (hr : Paired (TxtR (wd X g) A H) kvs ps) (k : FinV (wd X g) A H (m ++ [.dS kvs]) (.ref m.length) Q) : EP X pins σ Q (.ref s.heap.objs.size) { s with heap := h', toks := tk } := by
  have hn : H s.heap.objs.size = none := I.hok.fresh (Nat.le_refl _)
  obtain ⟨o, es, ep, ho, hrest⟩ := id hm
  have hS : (s.heap.objs.size == sysModules) = false := beq_eq_false_iff_ne.mpr (Nat.ne_of_gt I.big)
  have I' : Inv X pins σ (upd H s.heap.objs.size (.frz o (.dK ps))) { s with heap := h', toks := tk } :=
    I.laid (t' := tk) (a := s.heap.objs.size) kp (Nat.le_refl _) ⟨ho, le_line (by omega), hS, vs, hk, hm⟩
  have st : Stp (wd X g) A (A ++ [s.heap.objs.size]) H (upd H s.heap.objs.size (.frz o (.dK ps))) := .new hn
  refine ⟨.ref s.heap.objs.size, _, I', rfl, k _ _ _ st (R.alloc (u := .dS kvs) hn ⟨o, ps, upd_same, paired_mono (fun p q z => ⟨z.1, z.2.mono st⟩) hr⟩) (.ref (by rw [← R.len]; simp))⟩
theorem plainT_of {pins : List (Addr × Obj)} {σ : L2.St} {H : Hp} {s : Shared} {a : Addr} {vs : List V} (I : Inv X pins σ H s) (h : TqT H a vs) : ∃ its, Vals vs its ∧ PlainSeq "tuple" s.heap a its.toArray ∧ s.heap.IsTuple a its.toArray := by
  obtain ⟨o, p, e⟩ := h
  obtain ⟨ho, _, its, r, o', ho', hc, n, hd⟩ := I.hok a _ e
  rw [ho] at ho'
  cases ho'
  exact ⟨its, r, ⟨o, n, ho, hc, p.d, hd⟩, o, ho, hc, n, hd⟩
theorem call_dictT (hc : X.calm = true) : CallR X (.type "dict") (rdL (wd X g) fDict) := by
  intro pins s σ H vs us Q I r ⟨A, m, xs, z, m', R, q, e, k⟩
  unfold fDict at e
  split at e
  · cases e
    cases q with
    | cons q q0 =>
      cases q0
      obtain ⟨a, ws, rfl, ht, qs⟩ := q.ex_tup
      cases qs
      obtain ⟨u, rfl, ru⟩ := vals1 r
      obtain rfl : u = .ref a := ru
      obtain ⟨its, rv, pl, it⟩ := plainT_of I ht
      cases rv
      refine PySem.call_dict_pairs (knd := mixKind X.prog X.w) (kvs := []) (PairArg.tuple a #[] (fun _ => 0) []) (I.ok.hd hc) ⟨pl, rfl, fun j kk v e => by simp at e⟩ ⟨rfl, fun i key v e => by cases (show ([] : List (Value × Value))[i]? = _ from e)⟩ (Nat.zero_le _) fun h' tk hd hk => ?_
      exact ds_laid (ps := []) (vs := []) I R .nil (by simp) hd (fun b o e => hk b o (by simp) e) (fun _ _ _ => trivial) .nil k
  · rename_i kx v
    cases e
    cases q with
    | cons q q0 =>
      cases q0
      obtain ⟨a, ws, rfl, ht, qs⟩ := q.ex_tup
      cases qs with
      | cons q1 q2 =>
        cases q2
        obtain ⟨b, ys, rfl, hb, q3⟩ := q1.ex_tup
        cases q3 with
        | cons q4 q5 => cases q5 with
          | cons q6 q7 =>
            cases q7
            cases q4
            obtain ⟨u, rfl, ru⟩ := vals1 r
            obtain rfl : u = .ref a := ru
            obtain ⟨its, rv, pl, it⟩ := plainT_of I ht
            obtain ⟨its2, rv2, pl2, it2⟩ := plainT_of I hb
            cases rv with
            | cons rb rn =>
              cases rn
              cases rb
              obtain ⟨u1, u2, rfl, r1, r2⟩ := vals2 rv2
              obtain ⟨t, rfl⟩ := r1
              refine PySem.call_dict_pairs (knd := mixKind X.prog X.w) (kvs := [(Sum.inr kx, u2)]) (PairArg.tuple a #[.ref b] (fun _ => b) [(.str kx t, u2)]) (I.ok.hd hc) ⟨pl, rfl, fun j kk v e => ?_⟩ ⟨rfl, fun i key v e => ?_⟩ (le_line (by simp)) fun h' tk hd hk => ?_
              · cases j with
                | zero =>
                  cases e
                  exact ⟨rfl, .inl it2⟩
                | succ j => simp at e
              · have e : ([(Value.str kx t, u2)] : List (Value × Value))[i]? = some (key, v) := e
                cases i with
                | zero =>
                  cases e
                  exact ⟨Sum.inr kx, rfl, keyIs_str kx t⟩
                | succ i => simp at e
              · exact ds_laid (ps := [(Sum.inr kx, _)]) (vs := [(Sum.inr kx, u2)]) I R (.cons ⟨rfl, r2⟩ .nil) (by simp) hd (fun b o e => hk b o (by simp) e) (fun _ _ _ => trivial) (.cons ⟨rfl, q6⟩ .nil) k
  · cases e

/-! ### asking such a dict -/
def lookS (kvs : List (Str × SV)) (x : Str) : Option SV := (kvs.find? fun p => decide (p.1 = x)).map (·.2)
theorem lookS_cons (p : Str × SV) (kvs : List (Str × SV)) (x : Str) : lookS (p :: kvs) x = if p.1 = x then some p.2 else lookS kvs x := by
  unfold lookS
  rw [List.find?_cons]
  by_cases h : p.1 = x <;> simp [h]
theorem lookS_at {W : Wd} {A : List Addr} {H : Hp} (x : Str) : ∀ {kvs : List (Str × SV)} {ps : List (Key × V)}, Paired (TxtR W A H) kvs ps → (lookS kvs x = none ∧ valV ps (Sum.inr x) = none) ∨ ∃ y v, lookS kvs x = some y ∧ valV ps (Sum.inr x) = some v ∧ SR W A H v y
  | _, _, .nil => .inl ⟨rfl, rfl⟩
  | _, _, .cons (a := p) (b := r) h t => by
    rw [lookS_cons]
    have key : ∀ l, valV (r :: l) (Sum.inr x) = if p.1 = x then some r.2 else valV l (Sum.inr x) := fun l => by
      unfold valV
      rw [List.find?_cons, h.1]
      by_cases e : p.1 = x
      · simp [e]
      · have : ¬ (Sum.inr p.1 : Key) = Sum.inr x := fun q => e (Sum.inr.inj q)
        simp [e, this]
    rw [key]
    by_cases e : p.1 = x
    · rw [if_pos e, if_pos e]
      exact .inr ⟨_, _, rfl, rfl, h.2⟩
    · rw [if_neg e, if_neg e]
      exact lookS_at x t
def fInD : F2 := fun x y m => match x, y with
  | .str x, .ref i => (dsAt m i).map fun kvs => (.bl (lookS kvs x).isSome, m)
  | _, _ => none
def fNinD : F2 := fun x y m => match x, y with
  | .str x, .ref i => (dsAt m i).map fun kvs => (.bl (!(lookS kvs x).isSome), m)
  | _, _ => none
def fIxD : F2 := fun x y m => match y, x with
  | .str x, .ref i => (dsAt m i).bind fun kvs => (lookS kvs x).map fun z => (z, m)
  | _, _ => none
theorem ds_get {A : List Addr} {H : Hp} {m : Mu} (R : Rl (wd X g) A H m) {i : Nat} {d : Addr} {kvs : List (Str × SV)} (hi : A[i]? = some d) (h : dsAt m i = some kvs) : ∃ o ps, H d = some (.frz o (.dK ps)) ∧ Paired (TxtR (wd X g) A H) kvs ps := R.ob i d _ hi (dsAt_some h)
theorem op_inDS {k : Nat} (hr : Room k X.A) : OpR X (compareOp .In) (rdOf (wd X g) fInD) := by
  intro pins s σ H v u vv uu Q I rx ry ⟨A, m, x, y, z, m', R, qx, qy, e, k⟩
  unfold fInD at e
  split at e
  · rename_i x i
    obtain ⟨kvs, e1, e2⟩ := Option.map_eq_some_iff.mp e
    cases e2
    cases qx
    obtain ⟨d, rfl, hi⟩ := qy.ex_ref
    obtain ⟨o, ps, hd, hp⟩ := ds_get R hi e1
    cases ry
    have eq : (valV ps (Sum.inr x)).isSome = (lookS kvs x).isSome := by
      rcases lookS_at x hp with ⟨l1, l2⟩ | ⟨_, _, l1, l2, _⟩ <;> rw [l1, l2] <;> rfl
    refine d_in (by have := hr.un; omega) I (o := valV ps (Sum.inr x)) (.inl ⟨ps, Sum.inr x, .inr ⟨o, hd⟩, rfl, rfl⟩) rx fun s' I' => ?_
    rw [eq]
    exact ⟨.bl _, H, I', rfl, k.now R (.bl _)⟩
  · cases e
theorem op_ninDS {k : Nat} (hr : Room k X.A) : OpR X (compareOp .NotIn) (rdOf (wd X g) fNinD) := by
  intro pins s σ H v u vv uu Q I rx ry ⟨A, m, x, y, z, m', R, qx, qy, e, k⟩
  unfold fNinD at e
  split at e
  · rename_i x i
    obtain ⟨kvs, e1, e2⟩ := Option.map_eq_some_iff.mp e
    cases e2
    cases qx
    obtain ⟨d, rfl, hi⟩ := qy.ex_ref
    obtain ⟨o, ps, hd, hp⟩ := ds_get R hi e1
    cases ry
    have eq : (valV ps (Sum.inr x)).isSome = (lookS kvs x).isSome := by
      rcases lookS_at x hp with ⟨l1, l2⟩ | ⟨_, _, l1, l2, _⟩ <;> rw [l1, l2] <;> rfl
    refine d_notIn (by have := hr.un; omega) I (o := valV ps (Sum.inr x)) (.inl ⟨ps, Sum.inr x, .inr ⟨o, hd⟩, rfl, rfl⟩) rx fun s' I' => ?_
    rw [eq]
    exact ⟨.bl _, H, I', rfl, k.now R (.bl _)⟩
  · cases e
theorem ix_ds {k : Nat} (hr : Room k X.A) : IxR X (rdOf (wd X g) fIxD) := by
  intro value slice pins s σ H v u vv uu Q I rx ry ⟨A, m, x, y, z, m', R, qx, qy, e, k⟩ hsub
  unfold fIxD at e
  split at e
  · rename_i x i
    obtain ⟨kvs, e1, e⟩ := Option.bind_eq_some_iff.mp e
    obtain ⟨z', e2, e3⟩ := Option.map_eq_some_iff.mp e
    cases e3
    cases qy
    obtain ⟨d, rfl, hi⟩ := qx.ex_ref
    obtain ⟨o, ps, hd, hp⟩ := ds_get R hi e1
    cases rx
    rcases lookS_at x hp with ⟨l1, _⟩ | ⟨y', v', l1, l2, qv⟩
    · rw [l1] at e2; cases e2
    · rw [l1] at e2; cases e2
      have gt : DGet H d (V.str x) (some v') := .inl ⟨ps, Sum.inr x, .inr ⟨o, hd⟩, rfl, l2.symm⟩
      exact tail_any (dict_typeIs I gt) slot_dict_getitem.lookup (d_getItem (by have := hr.un; omega) I gt ry fun w' s' I' rw' => ⟨v', H, I', rw', k.now R qv⟩) hsub
  · cases e
/-- for k in d -/
def dForD (F : DE) (b : DG) (S : DS) : DS := fun r m => (F r m).bind fun p => match p.1 with
  | .ref i => (dsAt p.2 i).bind fun kvs => dFor b S (kvs.map fun kv => SV.str kv.1) r p.2
  | _ => none
theorem ds_forD {tg it : Expr} {body : List Stmt} {b : DG} {is : List Nat} {F : DE} {S : DS} {pos : Pos} (hc : X.calm = true) (hi : PE X it (tD (wd X g) F)) (hg : PGd X g tg b is) (hb : PSs X body (tS (wd X g) S)) (hp : PassesOwn (model X.prog X.w) X.A X.env X.xe := by exact PassesOwn.never)
    (hs : ∀ x, foldedSetIterable it X.env x = pure x := by intro _; rfl) : PS X (.For tg it body [] pos) (tS (wd X g) (dForD F b S)) := by
  obtain ⟨t, p, q⟩ := hg.ex
  refine ps_weak (ps_for hp hc (pi_keys hi) p hb hs) fun D s H ⟨A, r, m, o, m', R, E, e, k⟩ => ?_
  obtain ⟨⟨x, m1⟩, e1, e⟩ := Option.bind_eq_some_iff.mp e
  refine ⟨A, r, m, x, m1, R, E, e1, fun v H1 A1 s1 R1 q1 => ?_⟩
  cases x with
  | ref i =>
    obtain ⟨kvs, e2, e⟩ := Option.bind_eq_some_iff.mp e
    obtain ⟨d, rfl, hd⟩ := q1.ex_ref
    obtain ⟨ob, ps, h1, hp1⟩ := ds_get R1 hd e2
    have hlen := paired_len hp1
    refine ⟨d, ob, rfl, .inl ⟨ps, h1, ?_⟩⟩
    have hget : ∀ (i : Nat) (kk : Key) (vv : V), ps[i]? = some (kk, vv) → ∃ x, (kvs.map fun kv => SV.str kv.1)[i]? = some (SV.str x) ∧ kV kk = V.str x := by
      have key : ∀ {kvs : List (Str × SV)} {ps : List (Key × V)}, Paired (TxtR (wd X g) A1 H1) kvs ps → ∀ (i : Nat) (kk : Key) (vv : V), ps[i]? = some (kk, vv) → ∃ x, (kvs.map fun kv => SV.str kv.1)[i]? = some (SV.str x) ∧ kV kk = V.str x := by
        intro kvs ps h
        induction h with
        | nil => intro i kk vv e; simp at e
        | cons h t ih =>
          intro i kk vv e
          cases i with
          | zero =>
            simp only [List.getElem?_cons_zero, Option.some.injEq] at e
            have h1 := h.1
            rw [e] at h1
            have h1 : kk = Sum.inr _ := h1
            exact ⟨_, rfl, by rw [h1]; rfl⟩
          | succ i => exact ih i kk vv (by simpa using e)
      exact key hp1
    refine ⟨fun j n s' H' => n = ps.length - j ∧ H' d = some (.frz ob (.dK ps)) ∧ Left (wd X g) b S ((kvs.map fun kv => SV.str kv.1).drop j) D s' H', ⟨ps.length, by simp, h1, A1, r, m1, o, m', R1, E.mono s1, by rw [List.drop_zero]; exact e, k.after s1⟩, ?_⟩
    rintro j n s' H' ⟨rfl, hH, z⟩
    by_cases hl : j < ps.length
    · refine .inr ⟨⟨hH, hl⟩, fun s5 H5 => H5 d = some (.frz ob (.dK ps)) ∧ Left (wd X g) b S ((kvs.map fun kv => SV.str kv.1).drop (j + 1)) D s5 H5, fun s5 H5 z => ⟨ps.length - (j + 1), by omega, rfl, z⟩, fun x H5 hy => ?_⟩
      obtain ⟨rfl, kk, vv, hkk, rfl⟩ := hy
      obtain ⟨y, hy1, hy2⟩ := hget j kk vv hkk
      rw [hy2]
      have hl2 : j < (kvs.map fun kv => SV.str kv.1).length := by rw [List.length_map]; omega
      have ed : (kvs.map fun kv => SV.str kv.1).drop j = .str y :: (kvs.map fun kv => SV.str kv.1).drop (j + 1) := by
        rw [List.drop_eq_getElem_cons hl2]
        congr 1
        exact (List.getElem?_eq_some_iff.mp hy1).2
      rw [ed] at z
      obtain ⟨A6, r6, m6, o6, m6', R6, E6, e6, k6⟩ := z
      obtain ⟨r7, e7, e6⟩ := Option.bind_eq_some_iff.mp e6
      obtain ⟨⟨o8, m8⟩, e8, e6⟩ := Option.bind_eq_some_iff.mp e6
      refine q A6 H5 _ _ s' r6 r7 _ E6 (.str y) e7 fun s3 E3 _ => ⟨A6, r7, m6, o8, m8, R6, E3, e8, ?_⟩
      have go : ∀ r5, dFor b S ((kvs.map fun kv => SV.str kv.1).drop (j + 1)) r5 m8 = some (o6, m6') → FinE (wd X g) A6 H5 m8 r5 (fun s5 H5 => H5 d = some (.frz ob (.dK ps)) ∧ Left (wd X g) b S ((kvs.map fun kv => SV.str kv.1).drop (j + 1)) D s5 H5) :=
        fun r5 e5 s5 H5 A5 t5 R5 E5 => ⟨t5.tk _ _ _ hH, A5, r5, m8, o6, m6', R5, E5, e5, k6.after t5⟩
      cases o8 with
      | nx r5 => exact go r5 e6
      | ct r5 => exact go r5 e6
      | bk r5 => cases e6; exact k6
      | rt y => cases e6; exact k6
    · refine .inl ⟨⟨hH, by omega⟩, ?_⟩
      rw [show (kvs.map fun kv => SV.str kv.1).drop j = [] from List.drop_eq_nil_iff.mpr (by rw [List.length_map]; omega)] at z
      exact left_end z
  | _ => cases e
end
end VW

/-! viewwood k93: sorted of one item, extend by a tuple, the written table of lengths. -/
namespace VW
open PySem PySem.Spec PyProof.Rows L2

section
variable {X : Cx} {g : Gs}
/-! ### sorted([(name, number)]) -/
def fSort1 : FL := fun xs m => match xs with
  | [.ref i] => match lstAt m i with
    | some [.tup [.str k, .int n]] => some (.ref m.length, m ++ [.lst [.tup [.str k, .int n]]])
    | _ => none
  | _ => none
theorem call_sort1 {k : Nat} (hr : Room k X.A) : CallR X (.builtin "sorted") (rdL (wd X g) fSort1) := by
  intro pins s σ H vs us Q I r ⟨A, m, xs, z, m', R, q, e, k⟩
  unfold fSort1 at e
  split at e
  · rename_i i
    split at e
    · rename_i kx n hl
      cases e
      cases q with
      | cons q q0 =>
        cases q0
        obtain ⟨a, rfl, ha⟩ := q.ex_ref
        obtain ⟨ws, hw, qs⟩ := R.lst ha (lstAt_some hl)
        obtain ⟨u, rfl, ru⟩ := vals1 r
        obtain rfl : u = .ref a := ru
        obtain ⟨its, rv, pl, hz⟩ := I.list (.of hw)
        have hdp : DpAll X.K H ws [.tuple [.str kx, .int n]] := dps_of qs rfl
        obtain ⟨as, rd⟩ := Dp.readsAll I _ ws its hdp rv
        cases qs with
        | cons q1 q2 =>
          cases q2
          cases rv with
          | cons r1 r2 =>
            cases r2
            cases rd with
            | cons rd1 rd2 =>
              rename_i v0 u0 as0 bs0
              refine PySem.W.sorted_data (enc := id) (R := fun v _ => v = u0) (bs := [PyData.tuple [.str kx, .int n]]) pl.isList (.cons rfl .nil) (.cons ⟨_, rd1⟩ .nil) ?_ ?_ (le_line (by simp)) (fun b hb => ?_) fun out ho he => ?_
              · intro d hd d' hd'
                simp only [List.map_cons, List.map_nil, List.mem_singleton, id] at hd hd'
                subst hd hd'
                simp [PySem.W.alike, PySem.W.alikeAll]
              · refine .inl fun d hd => ?_
                simp only [List.map_cons, List.map_nil, List.mem_singleton, id] at hd
                exact ⟨_, _, hd⟩
              · simp only [List.mem_singleton] at hb
                subst hb
                have := hr.un
                simp only [id, PyData.depth, PyData.depthAll]
                omega
              · have hm : ([PyData.tuple [.str kx, .int n]] : List PyData).mergeSort (PySem.W.dataLe false id) = [PyData.tuple [.str kx, .int n]] := by rw [List.mergeSort]
                rw [hm] at he
                cases he with
                | cons e1 e2 =>
                  cases e2
                  rw [e1]
                  obtain ⟨ep, he'⟩ := PyProof.Rows.sortedAll_at s.heap [u0] (List.toArray [u0])
                  have hn : H (s.heap.objs.size + 1) = none := I.hok.fresh (Nat.le_succ _)
                  have I' : Inv X pins σ (upd H (s.heap.objs.size + 1) (.lst [v0])) { s with heap := sortedAll s.heap [u0] (List.toArray [u0]), toks := s.toks } :=
                    I.laid (t' := s.toks) (fun _ _ => PyProof.Rows.sortedAll_old) (Nat.le_succ _) ⟨le_line (by simp), [u0], ep, .cons r1 .nil, he'⟩
                  exact ⟨.ref _, _, I', rfl, lst_new R (.cons q1 .nil) hn k⟩
    · cases e
  · cases e

/-! ### l.extend(t), t a tuple -/
def fExtT : FM := fun x ys m => match x, ys with
  | .ref i, [.tup zs] => (lstAt m i).bind fun xs => if xs.length + zs.length ≤ 1000 then some (.non, m.set i (.lst (xs ++ zs))) else none
  | _, _ => none
def rExtT : V → List V → Hp → VK → Prop := fun x vs H Q => ∃ l b xs zs, x = .ref l ∧ vs = [.ref b] ∧ H l = some (.lst xs) ∧ TqT H b zs ∧ xs.length + zs.length ≤ sizeLine ∧ Q .non (upd H l (.lst (xs ++ zs)))
theorem mt_extT : MtR X "list.extend" rExtT := by
  rintro pins s σ H x vs v us Q I rx rv ⟨l, b, xs, zs, rfl, rfl, hH, hB, hz, q⟩
  obtain rfl : v = .ref l := rx
  obtain ⟨u, rfl, ru⟩ := rv.one
  obtain rfl : u = .ref b := ru
  obtain ⟨z, its, n, r, hl, e⟩ := I.lstM hH
  obtain ⟨o, p, eB⟩ := hB
  obtain ⟨ho, z2, its2, r2, o', ho', hc, n2, hd⟩ := I.hok b _ eB
  have e2 : s.heap.get? b = some { cls := .type "tuple", dict := none, data := .seq its2.toArray n2, slots := #[] } := by
    rw [ho] at ho'
    obtain rfl : o = o' := Option.some.inj ho'
    rw [ho]
    obtain ⟨c, d, dd, sl⟩ := o
    have h1 := p.d
    have h2 := p.s
    simp only at h1 h2 hc hd
    subst h1 h2 hc hd
    rfl
  have hl2 := r2.length
  have hsz : its.toArray.size + its2.toArray.size ≤ sizeLine := by rw [List.size_toArray, List.size_toArray]; omega
  have hlong : ¬ (!its.toArray.isEmpty && Builtin.List.listTooLong (its.toArray.size + its2.toArray.size)) = true := by
    rw [notLongL hsz, Bool.and_false]
    exact Bool.false_ne_true
  refine call_meets PySem.F.slot_list_extend ⟨_, e, rfl⟩ PySem.F.entry_list_extend (PySem.F.args_list_extend_2 _ _) (AutoSeq1.list_extend_list_tuple_0 l its.toArray n b its2.toArray n2 hlong (by rw [List.size_toArray]; omega) (by omega)) ⟨e, e2, ?_⟩
  refine ⟨.non, _, I.lset (its' := its ++ its2) hH e (by simp) (r.append r2) ?_, rfl, q⟩
  rw [List.length_append]
  omega
theorem se_extT {W : Wd} : SemM W rExtT fExtT := fun A H m v vs x xs z m' Q R q qs e k => by
  unfold fExtT at e
  split at e
  · rename_i i zs
    obtain ⟨l, e1, e⟩ := Option.bind_eq_some_iff.mp e
    split at e
    · cases e
      obtain ⟨a, rfl, ha⟩ := q.ex_ref
      obtain ⟨us, hu, qu⟩ := R.lst ha (lstAt_some e1)
      cases qs with
      | cons qy qs =>
        cases qs
        obtain ⟨b, ws, rfl, ht, qw⟩ := qy.ex_tup
        obtain ⟨R2, st⟩ := lst_write (xs := l) R ha hu (qu.append qw)
        exact ⟨a, b, us, ws, rfl, rfl, hu, ht, by rw [qu.length, qw.length]; exact le_line (by omega), k _ _ A st R2 .non⟩
    · cases e
  · cases e

/-! ### the table of lengths -/
def lenT : List (Str × Int) := [("put", 5), ("take", 3), ("move", 4), ("set", 4), ("unset", 3), ("hands", 3)]
def lookL (x : Str) : Option Int := (lenT.find? fun p => decide (p.1 = x)).map (·.2)
structure LenF (K : PySem.W.Frag) (w : World) (mg : Str → Option Value) : Prop where
  ex : ∃ d es n, mg "LENGTHS" = some (.ref d) ∧ KDict K w d es n ∧ ∀ p ∈ lenT, ∃ t, PySem.W.nsIn K d p.1 = some (some (.int p.2 t))
theorem lookL_mem {x : Str} {n : Int} (h : lookL x = some n) : (x, n) ∈ lenT := by
  unfold lookL at h
  obtain ⟨p, h1, h2⟩ := Option.map_eq_some_iff.mp h
  have h3 := List.find?_some h1
  have h4 := List.mem_of_find?_eq_some h1
  have h5 : p.1 = x := of_decide_eq_true h3
  rw [← h5, ← h2]
  exact h4
def fNinL : F1 := fun x m => match x with
  | .str x => (lookL x).map fun _ => (.bl false, m)
  | _ => none
def fIxL : F1 := fun x m => match x with
  | .str x => (lookL x).map fun n => (.int n, m)
  | _ => none
theorem dt_ninL {e : Expr} {F : DE} {p pos : Pos} (L : LenF X.K X.w X.mg) (he : PE X e (tD (wd X g) F)) (hg : Gl X "LENGTHS" := by rfl) (hm : behindInMarks .NotIn (.Name "LENGTHS" p) = false := by rfl) :
    PT X (.Compare e [.NotIn] [.Name "LENGTHS" p] pos) (tT (wd X g) (dTr (dUn fNinL F))) := by
  obtain ⟨d, es, n, h1, h2, h3⟩ := L.ex
  refine pt_weak (pt_cmpR (op_notIn_kd h2) he (pe_glob hg h1 (v := .ref d) rfl) hm) fun s H Q q => ?_
  obtain ⟨A, r, m, y, m', R, E, e, k⟩ := tr_run q
  obtain ⟨⟨x, m1⟩, e1, e⟩ := Option.bind_eq_some_iff.mp e
  refine ⟨A, r, m, x, m1, R, E, e1, fun v H1 A1 s1 R1 q1 => ?_⟩
  cases x with
  | str x =>
    obtain ⟨n, e2, e3⟩ := Option.map_eq_some_iff.mp (show (lookL x).map _ = _ from e)
    cases e3
    cases q1
    obtain ⟨t, ht⟩ := h3 _ (lookL_mem e2)
    exact ⟨x, _, rfl, rfl, ht, k _ H1 A1 s1 R1 (.bl false)⟩
  | _ => cases e
theorem de_ixL {e : Expr} {F : DE} {p pos : Pos} (L : LenF X.K X.w X.mg) (he : PE X e (tD (wd X g) F)) (hg : Gl X "LENGTHS" := by rfl) (hp : PlainIx e := by exact fun _ _ => rfl) : PE X (.Subscript (.Name "LENGTHS" p) e pos) (tD (wd X g) (dUn fIxL F)) := by
  obtain ⟨d, es, n, h1, h2, h3⟩ := L.ex
  refine pe_weak (pe_ix ix_kdict (pe_glob hg h1 (v := .ref d) rfl) he hp) fun s H Q ⟨A, r, m, y, m', R, E, e, k⟩ => ?_
  obtain ⟨⟨x, m1⟩, e1, e⟩ := Option.bind_eq_some_iff.mp e
  refine ⟨A, r, m, x, m1, R, E, e1, fun v H1 A1 s1 R1 q1 => ?_⟩
  cases x with
  | str x =>
    obtain ⟨n, e2, e3⟩ := Option.map_eq_some_iff.mp (show (lookL x).map _ = _ from e)
    cases e3
    cases q1
    obtain ⟨t, ht⟩ := h3 _ (lookL_mem e2)
    exact ⟨d, x, .int n, rfl, rfl, ⟨es, _, _, h2.at_, h2.lit, ht, t, rfl⟩, k _ H1 A1 s1 R1 (.int n)⟩
  | _ => cases e
end
end VW

/-! viewwood k93: the text by its places, what its names hold, helpers of the derivations. -/
namespace VW
open PySem PySem.Spec PyProof.Rows L2

def topS (i : Nat) : Stmt := PySem.Challenge.pw_viewwood_k93_whole_fewest_moves.main.body.getD i (.Pass ⟨0, 0, 0, 0⟩)

/-- the built-ins that the text names are still theirs -/
structure Bl (mg : Str → Option Value) : Prop where
  len : mg "len" = none
  isi : mg "isinstance" = none
  tuple : mg "tuple" = none
  str : mg "str" = none
  int : mg "int" = none
  bool : mg "bool" = none
  all : mg "all" = none
  range : mg "range" = none
  list : mg "list" = none
  set : mg "set" = none
  dict : mg "dict" = none
  sorted : mg "sorted" = none
  abs : mg "abs" = none
theorem boot_int' : bootBuiltins "int" = some (.type "int") := by decide +kernel
theorem boot_str' : bootBuiltins "str" = some (.type "str") := by decide +kernel
theorem boot_bool' : bootBuiltins "bool" = some (.type "bool") := by decide +kernel

section
variable {P : Program} {w : World} {K : PySem.W.Frag} {mg : Str → Option Value} {base : Heap} {g : Gs}
/-- no meaning at all -/
theorem Dn.bot {x qual : Str} {st : Stmt} {f : Addr} {fd : FuncData} {ps : List Str} {k : Nat} (F : Fun K x qual st f fd) (hm : mg x = some (.ref f)) (hb : Binds K fd ps []) : Dn P w K mg base g x ps k (fun _ _ => none) :=
  ⟨f, fd, ⟨fun vs H Q E ⟨A, m, xs, y, m', R, q, e, k⟩ => (nomatch e), fun A outer s H args us vs Q E hr h0 hb hv ⟨A', m, xs, y, m', R, q, e, k⟩ => (nomatch e)⟩, hm, F.kp, hb⟩
end

/-- no text in it -/
def nt : Nat → SV → Bool
  | _, .non => true
  | _, .int _ => true
  | n + 1, .tup xs => xs.all (nt n)
  | _, _ => false
/-- len(set(l)), set(l) != set(k): l of unlike keys without texts, k the same -/
def keysOk (xs : List SV) : Bool := decide (xs.length < 60) && xs.all isKey && decide xs.Nodup && xs.all (nt 8)
def fLenSet : F1 := fun x m => match x with
  | .ref i => (lstAt m i).bind fun xs => if keysOk xs = true then some (.int xs.length, m) else none
  | _ => none
def dSetNe (F G : DE) : DE := fun r m => (F r m).bind fun p => match p.1 with
  | .ref i => (lstAt p.2 i).bind fun xs => (G r p.2).bind fun q => match q.1 with
    | .ref j => (lstAt q.2 j).bind fun ys => if keysOk xs = true ∧ xs = ys then some (.bl false, q.2) else none
    | _ => none
  | _ => none

/-- a statement that is never reached -/
def dNever : DS := fun _ _ => none
section
variable {X : Cx} {g : Gs}
theorem ds_never {st : Stmt} : PS X st (tS (wd X g) dNever) := ps_weak ps_never fun D s H ⟨A, r, m, o, m', R, E, e, k⟩ => (nomatch e)
theorem dss_never {st : List Stmt} : PSs X st (tS (wd X g) dNever) := pss_weak pss_never fun D s H ⟨A, r, m, o, m', R, E, e, k⟩ => (nomatch e)
theorem tyes_run {W : Wd} : ∀ s H Q, tT W dYes s H Q → tYes s H Q := fun s H Q ⟨A, r, m, b, m', R, E, e, k⟩ => by
  cases e
  exact k H A .refl R
section
variable {elt tg it : Expr} {scope : Scope} {own : List (Str × Nat)} {pos : Pos} {Fi F : DE} {b : DG} {T : DT} {is : List Nat} {t : TG} {c : Expr}
theorem blk0 (hc : X.calm = true) (hN : X.N.Nodup) (ok : BlkOk X.N X.env.scope scope own) (hs : SemG (wd X g) t b is) (his : ∀ i ∈ is, i ∈ own.map (·.2)) (hg : ∀ (s : Shared) (H : Hp) (C : Addr) (cl : List (Str × Addr)) (fp : List Addr), PG (X.blk s H scope (compEnvC scope cl C X.env) fp) tg t)
    (he : ∀ (s : Shared) (H : Hp) (C : Addr) (cl : List (Str × Addr)) (fp : List Addr), PE (X.blk s H scope (compEnvC scope cl C X.env) fp) elt (tD (wd X g) F)) : Blk X g elt tg [] scope own b dYes F :=
  ⟨hc, hN, ok, t, is, tYes, hs, his, tyes_run, hg, fun _ _ _ _ _ => pts_nil, he⟩
theorem blk1 (hc : X.calm = true) (hN : X.N.Nodup) (ok : BlkOk X.N X.env.scope scope own) (hs : SemG (wd X g) t b is) (his : ∀ i ∈ is, i ∈ own.map (·.2)) (hg : ∀ (s : Shared) (H : Hp) (C : Addr) (cl : List (Str × Addr)) (fp : List Addr), PG (X.blk s H scope (compEnvC scope cl C X.env) fp) tg t)
    (ht : ∀ (s : Shared) (H : Hp) (C : Addr) (cl : List (Str × Addr)) (fp : List Addr), PT (X.blk s H scope (compEnvC scope cl C X.env) fp) c (tT (wd X g) T))
    (he : ∀ (s : Shared) (H : Hp) (C : Addr) (cl : List (Str × Addr)) (fp : List Addr), PE (X.blk s H scope (compEnvC scope cl C X.env) fp) elt (tD (wd X g) F)) : Blk X g elt tg [c] scope own b T F :=
  ⟨hc, hN, ok, t, is, tT (wd X g) T, hs, his, fun _ _ _ h => h, hg, fun s H C cl fp => pts_one (ht s H C cl fp), he⟩
/-- name = [..], over a tuple -/
theorem ds_lcT {ifs : List Expr} {i : Nat} {y : Str} {py spos : Pos} (hi : PE X it (tD (wd X g) Fi)) (B : Blk X g elt tg ifs scope own b T F) (hyl : X.env.scope.names.lookup y = some .local) (hsw : swapsWith (.ListComp elt [⟨tg, it, ifs, 0⟩] scope pos) (some (.Name y py)) spos.line X.env = pure true)
    (hy : X.N[i]? = some y := by rfl) (hs : ∀ x, foldedSetIterable it X.env x = pure x := by intro _; rfl) : PS X (.Assign [.Name y py] (.ListComp elt [⟨tg, it, ifs, 0⟩] scope pos) spos) (tS (wd X g) (dAsg (bName i) (dLc itTup Fi b T F (own.map (·.2))))) := by
  obtain ⟨t, is, tt, h1, h2, h3, pg, pt, pe⟩ := B.parts
  refine ps_weak (ps_setLc B.calm B.nd hy hyl hsw (pi_tup hi) B.ok pg pt pe hs) fun D s H q => ?_
  exact lcT_run h1 h2 h3 _ _ _ (asg_run (sg_name i) D s H q)
theorem ds_lcL {ifs : List Expr} {i : Nat} {y : Str} {py spos : Pos} (hi : PE X it (tD (wd X g) Fi)) (B : Blk X g elt tg ifs scope own b T F) (hyl : X.env.scope.names.lookup y = some .local) (hsw : swapsWith (.ListComp elt [⟨tg, it, ifs, 0⟩] scope pos) (some (.Name y py)) spos.line X.env = pure true)
    (hy : X.N[i]? = some y := by rfl) (hs : ∀ x, foldedSetIterable it X.env x = pure x := by intro _; rfl) : PS X (.Assign [.Name y py] (.ListComp elt [⟨tg, it, ifs, 0⟩] scope pos) spos) (tS (wd X g) (dAsg (bName i) (dLc itLst Fi b T F (own.map (·.2))))) := by
  obtain ⟨t, is, tt, h1, h2, h3, pg, pt, pe⟩ := B.parts
  refine ps_weak (ps_setLc B.calm B.nd hy hyl hsw (pi_list hi) B.ok pg pt pe hs) fun D s H q => ?_
  exact lcL_run h1 h2 h3 _ _ _ (asg_run (sg_name i) D s H q)
end
end
end VW

/-! viewwood k93: what a set asks of keys: tuples of None, numbers and such tuples. -/
namespace VW
open PySem PySem.Spec PyProof.Rows L2
mutual
def noTx : NestedKey → Bool
  | .none => true
  | .num _ => true
  | .text _ => false
  | .tup ks => noTxs ks
def noTxs : List NestedKey → Bool
  | [] => true
  | k :: ks => noTx k && noTxs ks
end
section
variable {P : Program} {w : World} {A : Around} {E : Value → Shared → Prop} {s : Shared}
def OfA (P : Program) (w : World) (A : Around) (n : Nat) (s : Shared) (v : Value) : Prop := ∀ (E : Value → Shared → Prop) (Q : Bool → Shared → Prop), Q false s → wpAny (model P w) A (ofAClassStatement n v) Q E s
def HbV (P : Program) (w : World) (A : Around) (n : Nat) (s : Shared) (v : Value) : Prop := ∀ (E : Value → Shared → Prop) (Q : Bool → Shared → Prop), Q true s → wpAny (model P w) A (hashByValue n v) Q E s
theorem ofA_tup {a : Addr} {o : Obj} {items : Array Value} {m n : Nat} (ho : s.heap.get? a = some o) (hc : o.cls = .type "tuple") (hd : o.data = .seq items m) (hv : ∀ v ∈ items.toList, OfA P w A n s v) : OfA P w A (n + 1) s (.ref a) := fun E Q q => by
  have hT : s.TypeIs (.ref a) "tuple" := ⟨o, ho, hc⟩
  have e0 : (("tuple" : String) == "tuple") = true := by decide
  unfold ofAClassStatement
  refine wpAny_bind (wpAny_typeOf hT ?_)
  dsimp only
  simp only [e0, if_true]
  refine wpAny_bind (wpAny_pure ?_)
  simp only [Bool.not_true, Bool.false_eq_true, if_false]
  refine wpAny_bind (wpAny_seqItems ho hd ?_)
  dsimp only
  refine wpAny_bind ?_
  rw [← Array.forIn_toList]
  refine wpAny_forIn_list _ (fun rest acc s' => s' = s ∧ acc.1 = none ∧ ∀ v ∈ rest, OfA P w A n s v) _ (fun v rest acc s' I => ?_) (fun acc s' I => ?_) _ _ ⟨rfl, rfl, hv⟩
  · obtain ⟨rfl, h2, h3⟩ := I
    refine wpAny_bind (h3 v List.mem_cons_self _ _ ?_)
    simp only [Bool.false_eq_true, if_false]
    exact wpAny_pure ⟨rfl, rfl, fun u hu => h3 u (List.mem_cons_of_mem _ hu)⟩
  · obtain ⟨r1, r2⟩ := acc
    obtain ⟨rfl, h2, h3⟩ := I
    dsimp only at h2
    subst h2
    exact wpAny_pure q
theorem hb_tup {a : Addr} {o : Obj} {items : Array Value} {m n : Nat} (ho : s.heap.get? a = some o) (hc : o.cls = .type "tuple") (hd : o.data = .seq items m) (hv : ∀ v ∈ items.toList, HbV P w A n s v) : HbV P w A (n + 1) s (.ref a) := fun E Q q => by
  have hT : s.TypeIs (.ref a) "tuple" := ⟨o, ho, hc⟩
  unfold hashByValue
  refine wpAny_bind (wpAny_specialOf hT F.slot_tuple_hash.lookup ?_)
  show wpAny _ _ (seqItems? (.ref a) >>= _) _ _ s
  refine wpAny_bind (wpAny_seqItems ho hd ?_)
  refine wpAny_bind ?_
  show wpAny _ _ (forIn items _ _) _ _ s
  rw [← Array.forIn_toList]
  refine wpAny_forIn_list _ (fun rest acc s' => s' = s ∧ acc.1 = none ∧ ∀ v ∈ rest, HbV P w A n s v) _ (fun v rest acc s' I => ?_) (fun acc s' I => ?_) _ _ ⟨rfl, rfl, hv⟩
  · obtain ⟨rfl, h2, h3⟩ := I
    refine wpAny_bind (h3 v List.mem_cons_self _ _ ?_)
    simp only [Bool.not_true, Bool.false_eq_true, if_false]
    exact wpAny_pure ⟨rfl, rfl, fun u hu => h3 u (List.mem_cons_of_mem _ hu)⟩
  · obtain ⟨r1, r2⟩ := acc
    obtain ⟨rfl, h2, h3⟩ := I
    dsimp only at h2
    subst h2
    exact wpAny_pure q
mutual
theorem ofA_key : ∀ (k : NestedKey) (v : Value) (n : Nat), NestedIs s.heap k v → k.depth ≤ n → OfA P w A n s v
  | .none, _, n, x, _ => by cases x; exact fun E Q q => by cases n <;> exact wpAny_pure q
  | .num i, _, n, x, _ => by cases x <;> exact fun E Q q => by cases n <;> exact wpAny_pure q
  | .text y, _, n, x, _ => by cases x; exact fun E Q q => by cases n <;> exact wpAny_pure q
  | .tup ks, _, n, x, hn => by
    cases x with
    | tup h1 h2 h3 h4 =>
      simp only [NestedKey.depth] at hn
      cases n with
      | zero => omega
      | succ n => exact ofA_tup h1 h2 h3 (ofA_keys ks _ n h4 (by omega))
theorem ofA_keys : ∀ (ks : List NestedKey) (vs : List Value) (n : Nat), NestedAll s.heap ks vs → NestedKey.depthAll ks ≤ n → ∀ v ∈ vs, OfA P w A n s v
  | [], _, n, x, _, v, hv => by cases x; cases hv
  | k :: ks, _, n, x, hn, v, hv => by
    cases x with
    | cons x1 x2 =>
      simp only [NestedKey.depthAll] at hn
      rcases List.mem_cons.mp hv with e | hv
      · subst e
        exact ofA_key k _ n x1 (by omega)
      · exact ofA_keys ks _ n x2 (by omega) v hv
end
mutual
theorem hb_key : ∀ (k : NestedKey) (v : Value) (n : Nat), NestedIs s.heap k v → k.depth ≤ n → noTx k = true → HbV P w A n s v
  | .none, _, n, x, _, _ => by cases x; exact fun E Q q => by cases n <;> exact wpAny_pure q
  | .num i, _, n, x, _, _ => by cases x <;> exact fun E Q q => by cases n <;> exact wpAny_pure q
  | .text y, _, n, x, _, ht => by simp [noTx] at ht
  | .tup ks, _, n, x, hn, ht => by
    cases x with
    | tup h1 h2 h3 h4 =>
      simp only [NestedKey.depth] at hn
      rw [noTx] at ht
      cases n with
      | zero => omega
      | succ n => exact hb_tup h1 h2 h3 (hb_keys ks _ n h4 (by omega) ht)
theorem hb_keys : ∀ (ks : List NestedKey) (vs : List Value) (n : Nat), NestedAll s.heap ks vs → NestedKey.depthAll ks ≤ n → noTxs ks = true → ∀ v ∈ vs, HbV P w A n s v
  | [], _, n, x, _, _, v, hv => by cases x; cases hv
  | k :: ks, _, n, x, hn, ht, v, hv => by
    cases x with
    | cons x1 x2 =>
      simp only [NestedKey.depthAll] at hn
      rw [noTxs, Bool.and_eq_true] at ht
      rcases List.mem_cons.mp hv with e | hv
      · subst e
        exact hb_key k _ n x1 (by omega) ht.1
      · exact hb_keys ks _ n x2 (by omega) ht.2 v hv
end
/-- the tuple at a is the key k, no text in it -/
structure KeyI (P : Program) (w : World) (h : Heap) (k : NestedKey) (a : Addr) : Prop where
  is_ : (nestedKind P w).is h k a
  nt : noTx k = true
theorem KeyI.stay {h h' : Heap} {k : NestedKey} {a : Addr} (x : KeyI P w h k a) (hk : ∀ b o vs n, h.get? b = some o → o.data = .seq vs n → h'.get? b = some o) : KeyI P w h' k a := ⟨nestedKind_stays.stays hk x.is_, x.nt⟩
theorem KeyI.ofA {k : NestedKey} {a : Addr} {Q : Bool → Shared → Prop} (x : KeyI P w s.heap k a) (q : Q false s) : wpAny (model P w) A (ofAClassStatement 8 (.ref a)) Q E s := ofA_key k _ 8 x.is_.1 x.is_.2 E Q q
theorem KeyI.hb {k : NestedKey} {a : Addr} {Q : Bool → Shared → Prop} (x : KeyI P w s.heap k a) (q : Q true s) : wpAny (model P w) A (hashByValue 8 (.ref a)) Q E s := hb_key k _ 8 x.is_.1 x.is_.2 x.nt E Q q
theorem KeyI.quiet {k : NestedKey} {a : Addr} {Q : Bool → Shared → Prop} (x : KeyI P w s.heap k a) (q : Q true s) : wpAny (model P w) A (eqIsQuiet 8 (.ref a)) Q E s := (nestedKind P w).quiet x.is_ q
/-- a search among such keys shows nothing -/
theorem KeyI.unseen {k : NestedKey} {a : Addr} {Q : Bool → Shared → Prop} (x : KeyI P w s.heap k a) {ys : List Value} (hy : ∀ y ∈ ys, ∃ k' c, y = Value.ref c ∧ KeyI P w s.heap k' c) (q : Q false s) : wpAny (model P w) A (searchCouldBeSeen (.ref a) ys) Q E s := by
  unfold searchCouldBeSeen
  refine wpAny_bind ?_
  refine wpAny_forIn_list _ (fun rest acc s' => s' = s ∧ acc.1 = none ∧ ∀ y ∈ rest, ∃ k' c, y = Value.ref c ∧ KeyI P w s.heap k' c) _ (fun v rest acc s' I => ?_) (fun acc s' I => ?_) _ _ ⟨rfl, rfl, hy⟩
  · obtain ⟨rfl, h2, h3⟩ := I
    obtain ⟨k', c, rfl, hc⟩ := h3 v List.mem_cons_self
    have h4 : ∀ y ∈ rest, ∃ k' c, y = Value.ref c ∧ KeyI P w s'.heap k' c := fun u hu => h3 u (List.mem_cons_of_mem _ hu)
    dsimp only
    by_cases hv : (a == c || (carriedByValue (.ref a) && carriedByValue (.ref c))) = true
    · refine wp_if_pos hv ?_
      exact wpAny_pure ⟨rfl, rfl, h4⟩
    · refine wp_if_neg hv ?_
      refine wpAny_bind (x.quiet ?_)
      simp only [Bool.not_true, Bool.false_eq_true, if_false]
      refine wpAny_bind (hc.quiet ?_)
      simp only [Bool.not_true, Bool.false_eq_true, if_false]
      refine wpAny_bind (x.ofA ?_)
      simp only [Bool.false_eq_true, if_false]
      refine wpAny_bind (hc.ofA ?_)
      simp only [Bool.false_eq_true, if_false]
      exact wpAny_pure ⟨rfl, rfl, h4⟩
  · obtain ⟨r1, r2⟩ := acc
    obtain ⟨rfl, h2, h3⟩ := I
    dsimp only at h2
    subst h2
    exact wpAny_pure q
end
end VW

/-! viewwood k93: the set of keys in the heap, a search in it. -/
namespace VW
open PySem PySem.Spec PyProof.Rows L2
abbrev KE := Addr × NestedKey
def hashS (w : World) (L : List KE) : List Int := L.map fun p => NestedKey.hash w p.2
def entS (w : World) (L : List KE) : List (Int × Value) := L.map fun p => (NestedKey.hash w p.2, Value.ref p.1)
/-- at a stands the set of the keys L, in the order of its table -/
structure SetK (P : Program) (w : World) (h : Heap) (a : Addr) (L : List KE) (es : Array (Int × Value)) (ep : Nat) (t : SetTable) : Prop where
  obj : ∃ o, h.get? a = some o ∧ o.ExactSet ∧ o.data = .set es ep t
  ent : es.toList = entS w L
  tab : TabOk t (hashS w L)
  dif : (L.map (·.2)).Nodup
  els : ∀ p ∈ L, KeyI P w h p.2 p.1
  pla : t.plain = true
  led : w.params.followText "set-order" = true ∨ t.led = true
  rm : L.length * 5 < t.mask * 3
  few : L.length < 64
section
variable {P : Program} {w : World} {A : Around} {E : Value → Shared → Prop} {s : Shared} {a : Addr} {L : List KE} {es : Array (Int × Value)} {ep : Nat} {t : SetTable}
theorem entS_len (w : World) (L : List KE) : (entS w L).length = L.length := by simp [entS]
theorem hashS_len (w : World) (L : List KE) : (hashS w L).length = L.length := by simp [hashS]
theorem SetK.n (R : SetK P w s.heap a L es ep t) : es.size = L.length := by rw [← Array.length_toList, R.ent, entS_len]
theorem SetK.place (R : SetK P w s.heap a L es ep t) : t.place.toList.length = L.length := by rw [Array.length_toList, R.tab.sz, hashS_len]
theorem fits_of {n : Nat} (h1 : t.place.size = n) (h2 : t.dummies = #[]) (h3 : n ≤ t.mask) : t.fits n = true := by
  unfold SetTable.fits SetTable.fill
  rw [h2, Bool.and_eq_true, beq_iff_eq, decide_eq_true_eq, h1]
  exact ⟨rfl, by simpa using h3⟩
theorem SetK.fit (R : SetK P w s.heap a L es ep t) : t.fits es.size = true := by
  have h1 := R.rm
  rw [R.n]
  exact fits_of (by rw [R.tab.sz, hashS_len]) R.tab.dm (by omega)
theorem SetK.at_ (R : SetK P w s.heap a L es ep t) {i : Nat} {p : KE} (h : L[i]? = some p) : es[i]? = some (NestedKey.hash w p.2, Value.ref p.1) := by
  rw [← Array.getElem?_toList, R.ent, entS, List.getElem?_map, h]
  rfl
theorem SetK.going (R : SetK P w s.heap a L es ep t) : t.gaveWay = false := by
  unfold SetTable.gaveWay
  rw [mask_odd R.tab.mok]
  decide
/-- the c-th step of the way of the key with hash h -/
def stepW (t : SetTable) (h : Int) (c : Nat) : SetTable.Probe := nth t.mask (t.probeStart h) c
theorem stepW_add (t : SetTable) (h : Int) (c q : Nat) : nth t.mask (stepW t h c) q = stepW t h (c + q) := (nth_add t.mask c _ q).symm
theorem stepW_j (t : SetTable) (h : Int) (c : Nat) : (stepW t h c).j = way t.mask h c := rfl
theorem nth_dummy (m : Nat) : ∀ (n : Nat) (p : SetTable.Probe), p.dummy = none → (nth m p n).dummy = none
  | 0, _, h => h
  | n + 1, p, h => nth_dummy m n (adv m p) (by
    unfold adv
    split
    · exact h
    · exact h)
/-- the search goes its way: f steps left, c done; N the first empty place -/
theorem search_go {ad : Bool} {x : Addr} {k : NestedKey} {N : Nat} {Q : SetFound → Shared → Prop} (R : SetK P w s.heap a L es ep t) (hx : KeyI P w s.heap k x) (hr : (nestedKind P w).room A) (hNf : N < 10 * SetTable.turns t.mask) (hN : way t.mask (k.hash w) N ∉ t.place.toList)
    (hNb : ∀ c, c < N → way t.mask (k.hash w) c ∈ t.place.toList) (yes : ∀ (i : Nat) (p : KE), L[i]? = some p → p.2 = k → Q (.there (if ad = true then none else some i)) s) (no : k ∉ L.map (·.2) → Q (.free (way t.mask (k.hash w) N) false) s) :
    ∀ (f c : Nat) (st : Option SetTable.Probe), st.getD (t.probeStart (k.hash w)) = stepW t (k.hash w) c → c ≤ N → N < f + c → (∀ (i : Nat) (p : KE), L[i]? = some p → p.2 = k → ∃ c', c ≤ c' ∧ c' < N ∧ t.place.toList[i]? = some (way t.mask (k.hash w) c')) →
      wpAny (model P w) A (setSearchFrom a (.ref x) (k.hash w) ad f st) Q E s := by
  intro f
  induction f with
  | zero => intro c st _ h1 h2; omega
  | succ f ih =>
    intro c st hst hc hf hre
    obtain ⟨o, ho, hex, hd⟩ := R.obj
    have hfit := R.fit
    rw [setSearchFrom_succ]
    refine wpAny_bind (wpAny_setState_of ho hd hfit ?_)
    dsimp only
    rw [R.going]
    refine wp_if_neg Bool.false_ne_true ?_
    try refine wpAny_bind (wpAny_pure ?_)
    have hAt : ∀ (i : Nat) p, L[i]? = some p → (fun i => (es[i]?.map (·.1)).getD 0) i = p.2.hash w := fun i p hp => by
      show (es[i]?.map (·.1)).getD 0 = _
      rw [R.at_ hp]
      rfl
    have hreach := go_spec t R.tab.ris R.tab.dm (fun i => (es[i]?.map (·.1)).getD 0) (k.hash w) (10 * SetTable.turns t.mask) (N - c) (stepW t (k.hash w) c) (nth_dummy _ _ _ rfl) (by omega)
      (fun q hq => by rw [stepW_add, stepW_j]; exact hNb _ (by omega)) (by rw [stepW_add, stepW_j, show c + (N - c) = N by omega]; exact hN)
    rcases hreach with ⟨q, i, hq, hi, hh, hno, hp⟩ | ⟨hno, hp⟩
    · rw [stepW_add, stepW_add, stepW_j] at hp
      rw [stepW_add, stepW_j] at hi
      have hp' : t.probe (fun i => (es[i]?.map (·.1)).getD 0) (k.hash w) (st.getD (t.probeStart (k.hash w))) = some (.candidate (way t.mask (k.hash w) (c + q)) i (stepW t (k.hash w) (c + (q + 1)))) := by
        rw [hst]
        exact hp
      rw [hp']
      dsimp only
      have hil : i < L.length := by
        have := (List.getElem?_eq_some_iff.mp hi).1
        rwa [R.place] at this
      obtain ⟨p, hpL⟩ : ∃ p, L[i]? = some p := ⟨_, List.getElem?_eq_getElem hil⟩
      have hpm := List.mem_of_getElem? hpL
      have hlive : t.slot (way t.mask (k.hash w) (c + q)) = .live i := slot_live R.tab.ris hi
      have onward : wpAny (model P w) A (searchRest a (.ref x) (k.hash w) ad f es t (way t.mask (k.hash w) (c + q)) i (stepW t (k.hash w) (c + (q + 1)))) Q E s := by
        unfold searchRest
        rw [R.at_ hpL]
        dsimp only
        refine wpAny_bind (wpAny_holding ((nestedKind P w).eqBool hr (R.els p hpm).is_ hx.is_ ?_))
        refine wpAny_bind (wpAny_setState_of ho hd hfit ?_)
        dsimp only
        by_cases he : p.2 = k
        · have hy := yes i p hpL he
          cases ad with
          | true =>
            refine wp_if_pos (by simp [he]) ?_
            exact wpAny_pure hy
          | false =>
            refine wp_if_neg (by simp) ?_
            try refine wpAny_bind (wpAny_pure ?_)
            rw [sameMem]
            dsimp only
            simp only [if_true, hlive, R.at_ hpL]
            refine wpAny_bind (wpAny_isSame_ref_self (wpAny_bind (wpAny_pure ?_)))
            simp only [if_true]
            refine wp_if_pos (by simp [he]) ?_
            exact wpAny_pure hy
        · refine wp_if_neg (by simp [he]) ?_
          try refine wpAny_bind (wpAny_pure ?_)
          rw [sameMem]
          dsimp only
          simp only [if_true, hlive, R.at_ hpL]
          refine wpAny_bind (wpAny_isSame_ref_self (wpAny_bind (wpAny_pure ?_)))
          simp only [if_true]
          refine wp_if_neg (by simp [he]) ?_
          refine ih (c + (q + 1)) _ rfl (by omega) (by omega) fun i0 p0 h0 hk0 => ?_
          obtain ⟨c', b1, b2, b3⟩ := hre i0 p0 h0 hk0
          refine ⟨c', ?_, b2, b3⟩
          rcases Nat.lt_trichotomy c' (c + q) with z | z | z
          · exact absurd ((hAt i0 p0 h0).trans (by rw [hk0])) (hno (c' - c) i0 (by omega) (by rw [stepW_add, stepW_j, show c + (c' - c) = c' by omega]; exact b3))
          · rw [z] at b3
            have h5 := slot_live R.tab.ris b3
            rw [hlive] at h5
            injection h5 with h5
            rw [← h5, hpL] at h0
            exact absurd ((congrArg Prod.snd (Option.some.inj h0)).trans hk0) he
          · omega
      by_cases hl : t.led = true
      · refine wp_if_neg (by simp [hl]) ?_
        try refine wpAny_bind (wpAny_pure ?_)
        exact onward
      · refine wp_if_pos (by simp [hl]) ?_
        refine wpAny_bind (hx.unseen (fun y hy => ?_) ?_)
        · obtain ⟨e, he, ee⟩ := List.mem_map.mp hy
          have he1 : e ∈ es ∧ e.1 = k.hash w := by simpa using he
          have he2 : e ∈ es.toList := by simpa using he1.1
          rw [R.ent, entS] at he2
          obtain ⟨p2, hp2, e2⟩ := List.mem_map.mp he2
          exact ⟨p2.2, p2.1, by rw [← ee, ← e2], R.els p2 hp2⟩
        · refine wp_if_neg (by decide) ?_
          try refine wpAny_bind (wpAny_pure ?_)
          exact onward
    · rw [stepW_add, stepW_j, show c + (N - c) = N by omega] at hp
      have hp' : t.probe (fun i => (es[i]?.map (·.1)).getD 0) (k.hash w) (st.getD (t.probeStart (k.hash w))) = some (.empty (way t.mask (k.hash w) N) none) := by
        rw [hst]
        exact hp
      rw [hp']
      dsimp only
      refine wpAny_pure (no fun hm => ?_)
      obtain ⟨p0, h0, hk0⟩ := List.mem_map.mp hm
      obtain ⟨i0, hi0⟩ := List.mem_iff_getElem?.mp h0
      obtain ⟨c', b1, b2, b3⟩ := hre i0 p0 hi0 hk0
      exact hno (c' - c) i0 (by omega) (by rw [stepW_add, stepW_j, show c + (c' - c) = c' by omega]; exact b3) ((hAt i0 p0 hi0).trans (by rw [hk0]))
theorem turns_le {m : Nat} (h : MaskOk m) : 10 * SetTable.turns m ≤ 1420 := by
  unfold SetTable.turns
  rcases h with e | e | e <;> omega
theorem search_all {ad : Bool} {x : Addr} {k : NestedKey} {Q : SetFound → Shared → Prop} (R : SetK P w s.heap a L es ep t) (hx : KeyI P w s.heap k x) (hr : (nestedKind P w).room A) (yes : ∀ (i : Nat) (p : KE), L[i]? = some p → p.2 = k → Q (.there (if ad = true then none else some i)) s)
    (no : ∀ N, k ∉ L.map (·.2) → way t.mask (k.hash w) N ∉ t.place.toList → (∀ c, c < N → way t.mask (k.hash w) c ∈ t.place.toList) → Q (.free (way t.mask (k.hash w) N) false) s) : wpAny (model P w) A (setSearch a (.ref x) (k.hash w) ad) Q E s := by
  have hroom := R.rm
  obtain ⟨N, hNf, hN, hNb⟩ := R.tab.first (by rw [hashS_len]; omega) (k.hash w)
  have hb := turns_le R.tab.mok
  unfold setSearch
  refine search_go R hx hr hNf hN hNb yes (fun hn => no N hn hN hNb) 100000 0 none rfl (Nat.zero_le _) (by omega) fun i p hp hk => ?_
  have h1 : (hashS w L)[i]? = some (k.hash w) := by rw [hashS, List.getElem?_map, hp, ← hk]; rfl
  have hil : i < t.place.toList.length := by
    rw [R.place]
    exact (List.getElem?_eq_some_iff.mp hp).1
  have hj := List.getElem?_eq_getElem hil
  obtain ⟨c, hc, e⟩ := R.tab.before hN h1 hj
  exact ⟨c, Nat.zero_le _, hc, by rw [hj, e]⟩
end
end VW

/-! viewwood k93: a key added to a set. -/
namespace VW
open PySem PySem.Spec PyProof.Rows L2
section
variable {P : Program} {w : World} {A : Around} {E : Value → Shared → Prop} {s : Shared} {a : Addr} {L : List KE} {es : Array (Int × Value)} {ep : Nat} {t : SetTable}
theorem KeyI.beside {h h' : Heap} {k : NestedKey} {b : Addr} {o : Obj} (x : KeyI P w h k b) (ho : h.get? a = some o) (hd : o.data = .set es ep t) (hs : Heap.SameBut a h h') : KeyI P w h' k b := x.stay fun c u vs n hc hu => by
  refine (hs.2 c fun e => ?_).trans hc
  subst e
  rw [ho] at hc
  cases hc
  rw [hd] at hu
  cases hu
theorem fm_congr {α β : Type} {f g : α → Option β} : ∀ {l : List α}, (∀ x ∈ l, f x = g x) → l.filterMap f = l.filterMap g
  | [], _ => rfl
  | x :: l, h => by rw [List.filterMap_cons, List.filterMap_cons, h x (by simp), fm_congr fun y hy => h y (by simp [hy])]
theorem entS_get (hr : es.toList = entS w L) (i : Nat) : es[i]? = (L[i]?).map fun p => (NestedKey.hash w p.2, Value.ref p.1) := by
  rw [← Array.getElem?_toList, hr, entS, List.getElem?_map]
theorem entS_order {order : Array Nat} (hr : es.toList = entS w L) (hp : order.toList.Perm (List.range L.length)) : ∃ L2 : List KE, (order.filterMap (es[·]?)).toList = entS w L2 ∧ L2.Perm L ∧ hashS w L2 = order.toList.map fun i => (es.map (·.1)).getD i 0 := by
  refine ⟨order.toList.filterMap fun i => L[i]?, ?_, ?_, ?_⟩
  · rw [Array.toList_filterMap, entS, List.map_filterMap]
    exact fm_congr fun i _ => entS_get hr i
  · have h1 := hp.filterMap fun i => L[i]?
    rwa [List.filterMap_getElem?_range_length] at h1
  · rw [hashS, List.map_filterMap, ← List.filterMap_eq_map]
    refine fm_congr fun i hi => ?_
    have hil : i < L.length := List.mem_range.mp (hp.mem_iff.mp hi)
    have h1 := entS_get hr i
    rw [List.getElem?_eq_getElem hil] at h1 ⊢
    simp [Array.getD_eq_getD_getElem?, h1]
theorem put_mid (L : List KE) (p : Nat) (e : KE) : (L.take p ++ e :: L.drop p).Perm (e :: L) := by
  have h := @List.perm_middle _ e (L.take p) (L.drop p)
  rwa [List.take_append_drop] at h
/-- the same keys, a larger table -/
theorem relay_K {o : Obj} {wanted M : Nat} {Q : Unit → Shared → Prop} (ho : s.heap.get? a = some o) (hex : o.ExactSet) (hd : o.data = .set es ep t) (hent : es.toList = entS w L) (hpl : t.place.size = es.size) (hdm : t.dummies = #[]) (hm : es.size ≤ t.mask) (dif : (L.map (·.2)).Nodup) (els : ∀ p ∈ L, KeyI P w s.heap p.2 p.1)
    (pla : t.plain = true) (led : w.params.followText "set-order" = true ∨ t.led = true) (few : L.length < 64) (hw : SetTable.sizeAbove wanted - 1 = M) (hM : MaskOk M) (hw2 : SetTable.sizeAbove wanted ≤ 128) (hrm : L.length * 5 < M * 3)
    (q : ∀ h' L' es' ep' t', Heap.SameBut a s.heap h' → SetK P w h' a L' es' ep' t' → L'.Perm L → Q () { s with heap := h' }) : wpAny (model P w) A (setRelay a wanted) Q E s := by
  have hn : es.size = L.length := by rw [← Array.length_toList, hent, entS_len]
  obtain ⟨t', order, e1, e2, e3, e4, e5, e6, e7⟩ := relaid_ok t (hs := es.map (·.1)) (wanted := wanted) hw hM (by rw [Array.size_map, hn]; omega)
  rw [Array.size_map, hn] at e2
  obtain ⟨L2, r1, r2, r3⟩ := entS_order hent e2
  rw [← r3] at e3
  have hz : (order.filterMap (es[·]?)).size = es.size := by rw [← Array.length_toList, r1, entS_len, r2.length_eq, hn]
  rw [setRelay_eq]
  refine wpAny_bind (wpAny_setState_of ho hd (fits_of hpl hdm hm) ?_)
  dsimp only
  refine wp_if_neg (by rw [sizeLine_eq]; omega) ?_
  try refine wpAny_bind (wpAny_pure ?_)
  rw [e1]
  dsimp only
  refine wpAny_bind ?_
  refine wp_if_neg (by rw [hz]; simp) ?_
  try refine wpAny_bind (wpAny_pure ?_)
  refine wpAny_pure ?_
  dsimp only
  refine wpAny_storeSet_of ho hd ?_ (by rw [hz, hn, sizeLine_eq]; omega)
  have sb : Heap.SameBut a s.heap (s.heap.update a (Obj.putSet (order.filterMap (es[·]?)) t')) := Heap.SameBut.update ..
  exact q _ L2 _ (ep + 1) t' sb ⟨⟨_, store_at ho hd, ⟨hex.1, hex.2.1, hex.2.2⟩, rfl⟩, r1, e3, (r2.map (·.2)).nodup_iff.mpr dif, fun p hp => (els p (r2.mem_iff.mp hp)).beside ho hd sb, by rw [e6]; exact pla, by rw [e5]; exact led, by rw [r2.length_eq, e4]; exact hrm, by rw [r2.length_eq]; exact few⟩ r2
/-- a new key is added -/
theorem add_K {x : Addr} {k : NestedKey} {Q : Bool → Shared → Prop} (R : SetK P w s.heap a L es ep t) (hx : KeyI P w s.heap k x) (hr : (nestedKind P w).room A) (hfew : L.length + 1 < 64) (hnew : k ∉ L.map (·.2))
    (q : ∀ h' L' es' ep' t', Heap.SameBut a s.heap h' → SetK P w h' a L' es' ep' t' → L'.Perm ((x, k) :: L) → Q true { s with heap := h' }) : wpAny (model P w) A (setAddHashed a (.ref x) (k.hash w)) Q E s := by
  obtain ⟨o, ho, hex, hd⟩ := R.obj
  have hn := R.n
  have hrm := R.rm
  have hfit := R.fit
  unfold setAddHashed
  refine wpAny_holding ?_
  rw [show (100000 : Nat) = 99999 + 1 from rfl, setAddHashedIn_succ]
  refine wpAny_bind (wpAny_setState_of ho hd hfit ?_)
  dsimp only
  refine wp_if_neg (by simp [byScan, Value.scannable]) ?_
  try refine wpAny_bind (wpAny_pure ?_)
  refine wpAny_bind (search_all R hx hr (fun i p hp hk => absurd (List.mem_map.mpr ⟨p, List.mem_of_getElem? hp, hk⟩) hnew) fun N _ hN hNb => ?_)
  dsimp only
  refine wpAny_bind (wpAny_setState_of ho hd hfit ?_)
  dsimp only
  obtain ⟨q1, q2, q3, q4, q5, q6, q7, q8, q9⟩ := R.tab.put hN hNb
  generalize hpt : t.put (way t.mask (k.hash w) N) = pt at q1 q3 q4 q5 q6 q7 q8 q9 ⊢
  obtain ⟨t1, p⟩ := pt
  dsimp only at q1 q3 q4 q5 q6 q7 q8 q9 ⊢
  have hp1 : t1.plain = true := q6.trans R.pla
  subst q1
  generalize SetTable.below t.place (way t.mask (k.hash w) N) = p at q2 q3 ⊢
  first
    | (refine wpAny_bind ?_; refine wp_if_pos hp1 ?_; refine hx.hb ?_)
    | refine wp_if_pos hp1 (wpAny_bind (hx.hb ?_))
  simp only [if_true]
  have pm := put_mid L p (x, k)
  have hL1 : (L.take p ++ (x, k) :: L.drop p).length = L.length + 1 := pm.length_eq
  have hin : (SetTable.insertAt es p (k.hash w, Value.ref x)).toList = entS w (L.take p ++ (x, k) :: L.drop p) := by
    rw [SetTable.toList_insertAt, R.ent]
    simp [entS, List.map_take, List.map_drop]
  have hha : hashS w (L.take p ++ (x, k) :: L.drop p) = (hashS w L).take p ++ k.hash w :: (hashS w L).drop p := by simp [hashS, List.map_take, List.map_drop]
  rw [← hha] at q3
  have nd1 : ((L.take p ++ (x, k) :: L.drop p).map (·.2)).Nodup := (pm.map (·.2)).nodup_iff.mpr (List.nodup_cons.mpr ⟨hnew, R.dif⟩)
  generalize SetTable.insertAt es p (k.hash w, Value.ref x) = es1 at hin ⊢
  generalize L.take p ++ (x, k) :: L.drop p = L1 at pm hL1 q3 nd1 hin
  have hz1 : es1.size = L.length + 1 := by rw [← Array.length_toList, hin, entS_len, hL1]
  refine wpAny_bind (wpAny_storeSet_of ho hd ?_ (by rw [hz1, sizeLine_eq]; omega))
  have sb : Heap.SameBut a s.heap (s.heap.update a (Obj.putSet es1 t1)) := Heap.SameBut.update ..
  have ho1 := store_at (es' := es1) (t' := t1) ho hd
  generalize s.heap.update a (Obj.putSet es1 t1) = h1 at sb ho1 ⊢
  have els1 : ∀ p ∈ L1, KeyI P w h1 p.2 p.1 := fun p hp => by
    rcases List.mem_cons.mp (pm.mem_iff.mp hp) with e | hp
    · subst e
      exact hx.beside ho hd sb
    · exact (R.els p hp).beside ho hd sb
  have ld1 : w.params.followText "set-order" = true ∨ t1.led = true := by rw [q5]; exact R.led
  have hex1 : Obj.ExactSet ({ o with data := .set es1 (ep + 1) t1 } : Obj) := ⟨hex.1, hex.2.1, hex.2.2⟩
  have full_iff : t1.tooFull = true ↔ t1.mask * 3 ≤ (L.length + 1) * 5 := by
    unfold SetTable.tooFull
    rw [decide_eq_true_eq, q9, hashS_len]
  by_cases hf : t1.tooFull = true
  · have hfull := full_iff.mp hf
    first
      | (refine wpAny_bind ?_; refine wp_if_pos (by simp [hf]) ?_)
      | (refine wp_if_pos (by simp [hf]) ?_; refine wpAny_bind ?_)
    rw [hn]
    have two : (t.mask = 7 ∧ L.length = 4) ∨ (t.mask = 31 ∧ L.length = 18) := by
      rw [q4] at hfull
      rcases R.tab.mok with e | e | e
      · exact .inl ⟨e, by rw [e] at hfull hrm; omega⟩
      · exact .inr ⟨e, by rw [e] at hfull hrm; omega⟩
      · rw [e] at hfull
        omega
    have grow : ∀ M, SetTable.sizeAbove (SetTable.grown (L.length + 1)) - 1 = M → MaskOk M → SetTable.sizeAbove (SetTable.grown (L.length + 1)) ≤ 128 → (L.length + 1) * 5 < M * 3 →
        wpAny (model P w) A (setRelay a (SetTable.grown (L.length + 1))) (fun _ s' => wpAny (model P w) A (pure true) Q E s') E { s with heap := h1 } := fun M b1 b2 b3 b4 => by
      refine relay_K (s := { s with heap := h1 }) ho1 hex1 rfl hin (by rw [q3.sz, hashS_len, hz1, hL1]) q3.dm (by rw [hz1, q4]; rcases two with ⟨e, e2⟩ | ⟨e, e2⟩ <;> omega) nd1 els1 hp1 ld1 (by rw [hL1]; exact hfew) b1 b2 b3 (by rw [hL1]; exact b4) fun h2 L2 es2 ep2 t2 sb2 R2 pm2 => ?_
      exact wpAny_pure (q h2 L2 es2 ep2 t2 (sb.trans sb2) R2 (pm2.trans pm))
    rcases two with ⟨_, e⟩ | ⟨_, e⟩
    · exact grow 31 (by rw [e, size_20]) (.inr (.inl rfl)) (by rw [e, size_20]; decide) (by omega)
    · exact grow 127 (by rw [e, size_76]) (.inr (.inr rfl)) (by rw [e, size_76]; decide) (by omega)
  · first
      | refine wp_if_neg (by simp [hf]) ?_
      | (refine wpAny_bind ?_; refine wp_if_neg (by simp [hf]) ?_; refine wpAny_pure ?_)
    have hroomy : ¬ t1.mask * 3 ≤ (L.length + 1) * 5 := fun z => hf (full_iff.mpr z)
    exact wpAny_pure (q h1 L1 es1 (ep + 1) t1 sb ⟨⟨_, ho1, hex1, rfl⟩, hin, q3, nd1, els1, hp1, ld1, by rw [hL1]; omega, by rw [hL1]; exact hfew⟩ pm)
end
end VW

/-! viewwood k93: a set made of a list of unlike keys. -/
namespace VW
open PySem PySem.Spec PyProof.Rows L2
section
variable {P : Program} {w : World} {A : Around} {E : Value → Shared → Prop} {s : Shared}
abbrev freshT (w : World) : SetTable := .fresh 0 0 (!w.params.followText "set-order")
abbrev freshS (w : World) : Obj := { cls := .type "set", dict := none, data := .set #[] 0 (freshT w) }
theorem SetK.stay {h h' : Heap} {a : Addr} {L : List KE} {es : Array (Int × Value)} {ep : Nat} {t : SetTable} (R : SetK P w h a L es ep t) (ha : ∀ o, h.get? a = some o → h'.get? a = some o) (hk : ∀ p ∈ L, KeyI P w h' p.2 p.1) : SetK P w h' a L es ep t := by
  obtain ⟨⟨o, ho, r⟩, r1, r2, r3, _, r5, r6, r7, r8⟩ := R
  exact ⟨⟨o, ha o ho, r⟩, r1, r2, r3, hk, r5, r6, r7, r8⟩
theorem setK_fresh {h : Heap} {a : Addr} (ho : h.get? a = some (freshS w)) : SetK P w h a [] #[] 0 (freshT w) := by
  refine ⟨⟨_, ho, ⟨rfl, rfl, rfl⟩, rfl⟩, rfl, ⟨List.Pairwise.nil, rfl, rfl, .inl rfl, fun x hx => (by cases hx), fun i hv j hi => (by simp [hashS] at hi)⟩, List.nodup_nil, fun p hp => (by cases hp), rfl, ?_, (by decide : 0 * 5 < 7 * 3), (by decide : 0 < 64)⟩
  show _ ∨ (!w.params.followText "set-order") = true
  cases w.params.followText "set-order"
  · exact .inr rfl
  · exact .inl rfl
theorem upd_K {I : Addr} {fp wr : List Addr} {G : Array GenState → Array GenState → Prop} {n : Nat} {Pv : Nat → Value → Prop} {St : Nat → Shared → Prop} {R : Result → Shared → Prop} (W : WalksS P w A.in1 I fp wr G n Pv St) (S : Addr) (hSf : S ∉ fp) (ks : List KE) (hn : n = ks.length) (hfew : ks.length < 64)
    (hval : ∀ i v, Pv i v → ∃ p, ks[i]? = some p ∧ v = .ref p.1) (dif : (ks.map (·.2)).Nodup) (h0 : Heap) (hk : ∀ p ∈ ks, KeyI P w h0 p.2 p.1) (hS0 : h0.get? S = none) (hw0 : ∀ b ∈ wr, h0.get? b = none) (hr : (nestedKind P w).room A.in1) :
    ∀ (k i : Nat) (s : Shared), n - i = k → i ≤ n → St i s → (∀ b o, h0.get? b = some o → s.heap.get? b = some o) → (∃ L es ep t, SetK P w s.heap S L es ep t ∧ L.Perm (ks.take i)) →
      (∀ s' L es ep t, Moved (S :: wr) G s s' → SetK P w s'.heap S L es ep t → L.Perm ks → (∀ b o, h0.get? b = some o → s'.heap.get? b = some o) → R (.ok (.ret .none)) s') →
      codeAny (model P w) A (.builtin "set.update.loop" ⟨[.ref S, .ref I], []⟩) R s := by
  have hSw : S ∉ wr := fun h => hSf (W.sub _ h)
  have wider : ∀ b ∈ wr, b ∈ S :: wr := fun b hb => List.mem_cons_of_mem _ hb
  have still : ∀ {s s' : Shared}, Moved wr G s s' → (∀ b o, h0.get? b = some o → s.heap.get? b = some o) → ∀ b o, h0.get? b = some o → s'.heap.get? b = some o := fun hm hp b o e =>
    hm.heap b o (fun hb => by rw [hw0 b hb] at e; cases e) (hp b o e)
  have keysAt : ∀ {s' : Shared} {L : List KE} {i : Nat}, L.Perm (ks.take i) → (∀ b o, h0.get? b = some o → s'.heap.get? b = some o) → ∀ p ∈ L, KeyI P w s'.heap p.2 p.1 := fun pm hp p hpL =>
    (hk p (List.mem_of_mem_take (pm.mem_iff.mp hpL))).stay fun b o _ _ e _ => hp b o e
  intro k
  induction k with
  | zero =>
    intro i s hi0 hi hst hp ⟨L, es, ep, t, hS, pm⟩ fin
    obtain rfl : i = n := by omega
    refine codeAny_builtin F.entry_set_update_loop ?_
    rw [Around.under_plainId F.plain_set_update_loop _]
    show wpAny _ A.in1 (pyNext (.ref I) >>= _) _ _ s
    refine wpAny_bind (W.done s _ _ hst fun s' hm => ?_)
    show wpAny _ A.in1 (ret Value.none) _ _ s'
    have hp' := still hm hp
    refine wpAny_pure (fin s' L es ep t (hm.mono wider) (hS.stay (fun o e => hm.heap S o hSw e) (keysAt pm hp')) ?_ hp')
    rw [hn, List.take_length] at pm
    exact pm
  | succ k ih =>
    intro i s hi0 hi hst hp ⟨L, es, ep, t, hS, pm⟩ fin
    have hlt : i < n := by omega
    refine codeAny_builtin F.entry_set_update_loop ?_
    rw [Around.under_plainId F.plain_set_update_loop _]
    show wpAny _ A.in1 (pyNext (.ref I) >>= _) _ _ s
    refine wpAny_bind (W.item i s _ _ hlt hst fun v s' hP hst' hm => ?_)
    obtain ⟨p, hpi, rfl⟩ := hval i v hP
    have hp' := still hm hp
    have hS' : SetK P w s'.heap S L es ep t := hS.stay (fun o e => hm.heap S o hSw e) (keysAt pm hp')
    have hx : KeyI P w s'.heap p.2 p.1 := (hk p (List.mem_of_getElem? hpi)).stay fun b o _ _ e _ => hp' b o e
    have hnew : p.2 ∉ L.map (·.2) := fun hm2 => by
      have h1 : p.2 ∈ (ks.take i).map (·.2) := (pm.map (·.2)).mem_iff.mp hm2
      rw [List.map_take] at h1
      obtain ⟨j, hj, e⟩ := List.getElem_of_mem h1
      rw [List.getElem_take] at e
      rw [List.length_take] at hj
      obtain ⟨c1, c2⟩ := List.getElem?_eq_some_iff.mp (show (ks.map (·.2))[i]? = some p.2 by rw [List.getElem?_map, hpi]; rfl)
      exact List.pairwise_iff_getElem.mp dif j i (by omega) c1 (by omega) (e.trans c2.symm)
    have hlen : L.length = i := by
      rw [pm.length_eq, List.length_take]
      omega
    show wpAny _ A.in1 (holding [Value.ref p.1] (setAdd S (.ref p.1)) >>= _) _ _ s'
    refine wpAny_bind (wpAny_holding ?_)
    unfold setAdd
    refine wpAny_holding ?_
    refine wpAny_bind ((nestedKind P w).pyHash hr hx.is_ ?_)
    refine add_K (s := { s' with toks := s'.toks + (nestedKind P w).draws p.2 }) hS' hx hr (by omega) hnew fun h' L' es' ep' t' hsb hS2 pm2 => ?_
    have hp2 : ∀ b o, h0.get? b = some o → h'.get? b = some o := fun b o e => (hsb.2 b (fun z => by rw [z, hS0] at e; cases e)).trans (hp' b o e)
    have pm3 : L'.Perm (ks.take (i + 1)) := by
      rw [List.take_add_one, hpi]
      exact pm2.trans ((List.Perm.cons _ pm).trans (List.perm_append_singleton _ _).symm)
    refine wpAny_pure ⟨plainId_quiet F.plain_set_update_loop _, ih (i + 1) _ (by omega) hlt (W.frame _ s' _ _ hst' (Nat.le_add_right _ _) fun b hb o e => ?_) hp2 ⟨L', es', ep', t', hS2, pm3⟩ fun s2 L2 es2 ep2 t2 hm2 hS3 pm4 hp3 => ?_⟩
    · rw [hsb.2 b fun z => hSf (by rw [← z]; exact hb)]
      exact e
    · refine fin s2 L2 es2 ep2 t2 (Moved.trans W.gtrans ((hm.mono wider).then_heap (Nat.le_add_right _ _) fun b o hb e => ?_) hm2) hS3 pm4 hp3
      rw [hsb.2 b fun z => hb (by rw [z]; exact List.mem_cons_self)]
      exact e
end
end VW

/-! viewwood k93: set(xs), the call. -/
namespace VW
open PySem PySem.Spec PyProof.Rows L2
section
variable {P : Program} {w : World} {A : Around} {E : Value → Shared → Prop} {s : Shared}
set_option maxHeartbeats 3200000 in
theorem call_setK {l : Addr} {items : Array Value} (ks : List KE) {Q : Value → Shared → Prop} (hh : A.handled = none) (hl : s.heap.IsList l items) (hit : items.toList = ks.map fun p => Value.ref p.1) (hk : ∀ p ∈ ks, KeyI P w s.heap p.2 p.1) (dif : (ks.map (·.2)).Nodup) (hfew : ks.length < 64) (hu : A.units + 64 < cLine)
    (q : ∀ (h' : Heap) (tk : Nat) (L : List KE) (es : Array (Int × Value)) (ep : Nat) (t : SetTable), SetK P w h' s.heap.objs.size L es ep t → L.Perm ks → (∀ b o, s.heap.get? b = some o → h'.get? b = some o) → Q (.ref s.heap.objs.size) { s with heap := h', toks := tk }) :
    wpAny (model P w) A (call (.type "set") [.ref l]) Q E s := by
  have hz : items.size = ks.length := by rw [← Array.length_toList, hit, List.length_map]
  obtain ⟨mc, mt, mro⟩ := F.called_set.mro
  have made := F.called_set.made
  have below := F.called_set.sub
  refine wpAny_call (codeAny_of_tree ?_)
  show wpAny _ _ (callAny (.type "set") _) _ _ _
  refine wpAny_pure ⟨Code.quiet_builtin _ (by decide +kernel), codeAny_builtin F.entry_type_call ?_⟩
  rw [Around.under_plain (weight_type_call_type "set" [.ref l] []) rfl]
  have f1 := F.called_set.notType
  have f2 := F.called_set.canCreate
  have f3 := F.typeCall_set_1 (.ref l)
  repeat any_goals (first | wp_step | assumption)
  refine codeAny_mono (code_set_led1 (.ref l) (E := E) (Q₁ := fun ob s1 => ob = .ref s.heap.objs.size ∧ s1 = { s with heap := s.heap.push (freshS w) }) ⟨rfl, rfl⟩) fun r s1 hr1 => ?_
  match r, hr1 with
  | .error e, hr1 => exact hr1
  | .ok (.ret ob), hr1 =>
    obtain ⟨rfl, rfl⟩ := hr1
    have hS : (s.heap.push (freshS w)).get? s.heap.objs.size = some (freshS w) := Heap.get?_push_size _ rfl
    have hT : Shared.TypeIs { s with heap := s.heap.push (freshS w) } (.ref s.heap.objs.size) "set" := ⟨_, hS, rfl⟩
    have g1 := F.called_set.init.lookup
    have g2 := F.called_set.init.bind (.ref s.heap.objs.size)
    repeat any_goals (first | wp_step | assumption)
    refine codeAny_mono (codeAny_call_builtin (R := wants (fun r s2 => r = .none ∧ ∃ h' tk L es ep t, s2 = { s with heap := h', toks := tk } ∧ SetK P w h' s.heap.objs.size L es ep t ∧ L.Perm ks ∧ ∀ b o, s.heap.get? b = some o → h'.get? b = some o) E) F.called_set.init.plain F.entry_set_init (check_set_init_1 hT ?_)) fun r2 s2 hr2 => ?_
    · obtain ⟨ol, hol, hcl, nl, hdl⟩ := hl
      obtain ⟨k1, k2, k3, k4⟩ := ol
      simp only at hcl hdl
      subst hcl hdl
      have hol1 := Heap.get?_push_of_some (freshS w) hol
      have b1 := F.sub_list_set
      have b2 := F.sub_list_frozenset
      have b3 : (Value.type "list" == Value.type "dict") = false := by decide
      have isl : (s.heap.push (freshS w)).IsList l items := ⟨_, hol1, rfl, nl, rfl⟩
      unfold Builtin.«set.__init__» noKeywords Builtin.Frozenset.updateFrom
      generalize hIt : pyIter = It
      wp_walk
      subst hIt
      refine wpAny_pyIter_list isl ?_
      refine wpAny_bind (wpAny_runValue ?_)
      have hl1 : l < s.heap.objs.size := Heap.lt_size hol
      have hsz1 : (s.heap.push (freshS w)).objs.size = s.heap.objs.size + 1 := Heap.size_push ..
      have hh3 : A.in1.in1.in1.handled = none := by simp [hh]
      have nI : l ≠ (s.heap.push (freshS w)).objs.size := by rw [hsz1]; exact Nat.ne_of_lt (Nat.lt_succ_of_lt hl1)
      have nS : s.heap.objs.size ∉ [(s.heap.push (freshS w)).objs.size, l] := by
        rw [hsz1]
        intro z
        rcases List.mem_cons.mp z with z | z
        · exact absurd z (Nat.ne_of_lt (Nat.lt_succ_self _))
        · exact absurd (List.mem_singleton.mp z) (Nat.ne_of_gt hl1)
      have vals : ∀ (i : Nat) (v : Value), items[i]? = some v → ∃ p, ks[i]? = some p ∧ v = .ref p.1 := fun i v hv => by
        rw [← Array.getElem?_toList, hit, List.getElem?_map] at hv
        obtain ⟨p, e1, e2⟩ := Option.map_eq_some_iff.mp hv
        exact ⟨p, e1, e2.symm⟩
      have out : ∀ b, s.heap.objs.size ≤ b → s.heap.get? b = none := fun b hb => by
        cases e : s.heap.get? b with
        | none => rfl
        | some o => exact absurd (Heap.lt_size e) (Nat.not_lt_of_le hb)
      refine upd_K ((Walks.list hh3 _ l nI items).toS) s.heap.objs.size nS ks hz hfew vals dif s.heap hk (out _ (Nat.le_refl _)) (fun b hb => out b (by rw [List.mem_singleton.mp hb, hsz1]; exact Nat.le_succ _)) (by show _ + 8 < _; simp only [Around.in1_units]; omega) (items.size - 0) 0 _ rfl (Nat.zero_le _)
        ⟨⟨_, Heap.get?_push_size _ rfl, rfl, rfl⟩, isl.push _⟩ (fun b o e => Heap.get?_push_of_some _ (Heap.get?_push_of_some _ e)) ⟨[], #[], 0, _, setK_fresh (Heap.get?_push_of_some _ hS), List.Perm.refl _⟩ fun s3 L es ep t hm hS3 pm hkeep => ?_
      obtain ⟨h3, g3, d3, t3, o3⟩ := s3
      obtain rfl : g3 = s.gens := hm.gens
      obtain rfl : d3 = s.drawn := hm.drawn
      obtain rfl : o3 = s.os := hm.os
      show wpAny _ _ _ _ _ _
      refine wpAny_pure ?_
      show wpAny _ _ (ret Value.none) _ _ _
      exact wpAny_pure ⟨rfl, h3, t3, L, es, ep, t, rfl, hS3, pm, hkeep⟩
    · match r2, hr2 with
      | .error e, hr2 => exact hr2
      | .ok (.ret r), hr2 =>
        obtain ⟨rfl, h', tk, L, es, ep, t, rfl, c1, c2, c3⟩ := hr2
        repeat any_goals (first | wp_step | assumption)
        exact q _ _ _ _ _ _ c1 c2 c3
      | .ok (.next ..), hr2 => exact hr2.elim
  | .ok (.next ..), hr1 => exact hr1.elim
end
end VW

/-! viewwood k93: len(set(xs)). -/
namespace VW
open PySem PySem.Spec PyProof.Rows L2
/-- the set, without the keys themselves -/
structure SetN (P : Program) (w : World) (h : Heap) (a : Addr) (L : List KE) : Prop where
  ex : ∃ (es : Array (Int × Value)) (ep : Nat) (t : SetTable), (∃ o, h.get? a = some o ∧ o.ExactSet ∧ o.data = .set es ep t) ∧ es.toList = entS w L ∧ TabOk t (hashS w L) ∧ (L.map (·.2)).Nodup ∧ t.plain = true ∧ (w.params.followText "set-order" = true ∨ t.led = true) ∧ L.length * 5 < t.mask * 3 ∧ L.length < 64
def SetO (P : Program) (w : World) (a : Addr) (L : List KE) : HO := .ext fun h => SetN P w h a L
section
variable {P : Program} {w : World}
theorem SetK.bare {h : Heap} {a : Addr} {L : List KE} {es : Array (Int × Value)} {ep : Nat} {t : SetTable} (R : SetK P w h a L es ep t) : SetN P w h a L := ⟨es, ep, t, R.obj, R.ent, R.tab, R.dif, R.pla, R.led, R.rm, R.few⟩
theorem SetN.full {h : Heap} {a : Addr} {L : List KE} (R : SetN P w h a L) (hk : ∀ p ∈ L, KeyI P w h p.2 p.1) : ∃ es ep t, SetK P w h a L es ep t := by
  obtain ⟨es, ep, t, h1, h2, h3, h4, h5, h6, h7, h8⟩ := R.ex
  exact ⟨es, ep, t, h1, h2, h3, h4, hk, h5, h6, h7, h8⟩
theorem setO_mk {H : Hp} {h : Heap} {a : Addr} {L : List KE} (R : SetN P w h a L) : ObjOk P w H h a (SetO P w a L) := by
  obtain ⟨es, ep, t, ⟨o, ho, _⟩, _⟩ := R.ex
  refine ⟨R, ⟨o, ho⟩, ?_⟩
  rintro h1 h2 ⟨es', ep', t', ⟨o', ho', r'⟩, q'⟩ k
  exact ⟨es', ep', t', ⟨o', k o' ho', r'⟩, q'⟩
theorem nt_key : ∀ (n : Nat) (x : SV) (k : NestedKey), nt n x = true → keyOf x = some k → noTx k = true := by
  intro n
  induction n with
  | zero =>
    intro x k h e
    cases x <;> simp [nt] at h <;> (rw [keyOf] at e; cases e; rfl)
  | succ n ih =>
    intro x k h e
    cases x with
    | tup xs =>
      rw [nt, List.all_eq_true] at h
      rw [keyOf] at e
      obtain ⟨ks, e1, rfl⟩ := Option.map_eq_some_iff.mp e
      rw [noTx]
      clear e
      induction xs generalizing ks with
      | nil =>
        rw [keysOf] at e1
        cases e1
        rfl
      | cons y ys ihs =>
        rw [keysOf] at e1
        split at e1
        · rename_i k1 k2 e2 e3
          cases e1
          rw [noTxs, ih y k1 (h y (by simp)) e2, ihs (fun z hz => h z (by simp [hz])) k2 e3]
          rfl
        · cases e1
    | _ => first | (simp [nt] at h; done) | (rw [keyOf] at e; cases e; rfl)
end
section
variable {X : Cx} {g : Gs}
def KeyP (W : Wd) (A : List Addr) (H : Hp) (x : SV) (p : KE) : Prop := KR W A H p.1 x p.2 ∧ noTx p.2 = true
theorem keyP_ki {pins : List (Addr × Obj)} {σ : L2.St} {H : Hp} {s : Shared} (I : Inv X pins σ H s) {A : List Addr} {x : SV} {p : KE} (h : KeyP (wd X g) A H x p) : KeyI X.prog X.w s.heap p.2 p.1 := ⟨kr_is I h.1, h.2⟩
/-- the values of a list of keys, as addresses and keys -/
theorem keyP_all {W : Wd} {A : List Addr} {H : Hp} : ∀ {us : List V} {xs : List SV}, SRs W A H us xs → (∀ x ∈ xs, isKey x = true ∧ nt 8 x = true) → ∃ ks : List KE, us = ks.map (fun p => V.ref p.1) ∧ Paired (KeyP W A H) xs ks
  | _, _, .nil, _ => ⟨[], rfl, .nil⟩
  | _, _, .cons (x := x) q qs, h => by
    obtain ⟨ks, e, hp⟩ := keyP_all qs fun y hy => h y (by simp [hy])
    obtain ⟨h1, h2⟩ := h x (by simp)
    obtain ⟨a, k, rfl, hk⟩ := isKey_kr h1 q
    exact ⟨(a, k) :: ks, by rw [e]; rfl, .cons ⟨hk, nt_key 8 x k h2 hk.2.1⟩ hp⟩
theorem keyP_mem {W : Wd} {A : List Addr} {H : Hp} {xs : List SV} {ks : List KE} (h : Paired (KeyP W A H) xs ks) {p : KE} (hp : p ∈ ks) : ∃ x ∈ xs, KeyP W A H x p := by
  induction h with
  | nil => cases hp
  | cons q _ ih =>
    rcases List.mem_cons.mp hp with e | hp
    · subst e
      exact ⟨_, by simp, q⟩
    · obtain ⟨x, hx, hk⟩ := ih hp
      exact ⟨x, by simp [hx], hk⟩
theorem keyP_dif {W : Wd} {A : List Addr} {H : Hp} {xs : List SV} {ks : List KE} (h : Paired (KeyP W A H) xs ks) (hn : xs.Nodup) : (ks.map (·.2)).Nodup := by
  induction h with
  | nil => exact List.nodup_nil
  | cons q t ih =>
    rw [List.nodup_cons] at hn
    rw [List.map_cons, List.nodup_cons]
    refine ⟨fun hm => ?_, ih hn.2⟩
    obtain ⟨p, hp, e⟩ := List.mem_map.mp hm
    obtain ⟨x, hx, hk⟩ := keyP_mem t hp
    rename_i x0 p0 _ _
    have := keyOf_inj x0 x p0.2 q.1.2.1 (by rw [← e]; exact hk.1.2.1)
    exact hn.1 (this ▸ hx)
def rMkSet (W : Wd) : List V → Hp → VK → Prop := fun vs H Q => ∃ (l : Addr) (A : List Addr) (xs : List SV) (ks : List KE), vs = [.ref l] ∧ H l = some (.lst (ks.map fun p => V.ref p.1)) ∧ Paired (KeyP W A H) xs ks ∧ (ks.map (·.2)).Nodup ∧ ks.length < 64 ∧ ∀ a o L, H a = none → L.Perm ks → Q (.ref a) (upd H a (.frz o (SetO W.P W.w a L)))
theorem refs_map : ∀ {ks : List KE} {us : List Value}, Vals (ks.map fun p => V.ref p.1) us → us = ks.map fun p => Value.ref p.1
  | [], _, .nil => rfl
  | p :: ks, _, .cons r t => by
    cases r
    rw [refs_map t]
    rfl
theorem cr_mkSet (hc : X.calm = true) (hu : X.A.units + 64 < cLine) : CallR X (.type "set") (rMkSet (wd X g)) := by
  intro pins s σ H vs us Q I r ⟨l, A, xs, ks, e1, hl, hk, dif, few, q⟩
  subst e1
  rw [Vals.ref1 r]
  obtain ⟨its, rv, pl, hz⟩ := I.list (SqL.of hl)
  have hn : H s.heap.objs.size = none := I.hok.fresh (Nat.le_refl _)
  refine call_setK (P := X.prog) (w := X.w) ks (I.ok.hd hc) pl.isList (by simpa using refs_map rv) (fun p hp => ?_) dif few hu fun h' tk L es ep t R pm keep => ?_
  · obtain ⟨x, _, hx⟩ := keyP_mem hk hp
    exact keyP_ki I hx
  · obtain ⟨o, ho, _⟩ := R.obj
    exact ⟨.ref s.heap.objs.size, upd H s.heap.objs.size (.frz o (SetO X.prog X.w s.heap.objs.size L)), I.laid (t' := tk) keep (Nat.le_refl _) ⟨ho, setO_mk R.bare⟩, rfl, q _ o L hn pm⟩
def rLenSet (P : Program) (w : World) : List V → Hp → VK → Prop := fun vs H Q => ∃ (a : Addr) (o : Obj) (L : List KE), vs = [.ref a] ∧ H a = some (.frz o (SetO P w a L)) ∧ Q (.int L.length) H
theorem cr_lenSet : CallR X (.builtin "len") (rLenSet X.prog X.w) := by
  intro pins s σ H vs us Q I r ⟨a, ob, L, e1, ha, q⟩
  subst e1
  rw [Vals.ref1 r]
  obtain ⟨es, ep, t, ⟨o, ho, hex, hd⟩, h2, h3, h4, h5, h6, h7, h8⟩ := (show SetN X.prog X.w s.heap a L from (I.hok a _ ha).2.1).ex
  have hn : es.size = L.length := by rw [← Array.length_toList, h2, entS_len]
  have hfit : t.fits es.size = true := by
    rw [hn]
    exact fits_of (by rw [h3.sz, hashS_len]) h3.dm (by omega)
  exact call_len_set ho hex hd hfit (by rw [hn]; omega) ⟨.int L.length, H, I.tok _, ⟨_, by rw [hn]⟩, q⟩
variable {e : Expr} {F : DE} {p p2 q q2 pos : Pos} {k : Nat}
theorem de_mkSet (hc : X.calm = true) (hu : X.A.units + 64 < cLine) (hs : X.mg "set" = none) (he : PE X e (tD (wd X g) F)) (hgs : Gl X "set" := by rfl) (h1 : starEach [e] X.env = [(false, eval e X.env)] := by rfl) : PE X (.Call (.Name "set" p2) [e] [] q) (tCB (rMkSet (wd X g)) (tA (wd X g) (dCons F dNil))) := by
  have b : bootBuiltins "set" = some (.type "set") := by decide +kernel
  exact pe_callTy (cr_mkSet hc hu) hgs hs b (da_cons he da_nil h1) (by decide) (by decide) h1 (by rfl)
/-- the set of a list, made -/
theorem mkSet_run {W : Wd} {s : L2.St} {H : Hp} {Q : VK} {A : List Addr} {r : En} {m m1 : Mu} {i : Nat} {xs : List SV} (R : Rl W A H m) (Er : EnR W A H s r) (e : F r m = some (.ref i, m1)) (hx : lstAt m1 i = some xs) (ok : keysOk xs = true)
    (k : ∀ H1 A1 a o L ks, Stp W A A1 H H1 → Rl W A1 H1 m1 → H1 a = none → Paired (KeyP W A1 H1) xs ks → L.Perm ks → Q (.ref a) (upd H1 a (.frz o (SetO W.P W.w a L)))) : tCB (rMkSet W) (tA W (dCons F dNil)) s H Q := by
  unfold keysOk at ok
  simp only [Bool.and_eq_true, decide_eq_true_eq, List.all_eq_true] at ok
  obtain ⟨⟨⟨o1, o2⟩, o3⟩, o4⟩ := ok
  refine ⟨A, r, m, [.ref i], m1, R, Er, by simp [dCons, dNil, e], fun vs H1 A1 s1 R1 q1 => ?_⟩
  cases q1 with
  | cons q q' =>
    cases q'
    obtain ⟨l, rfl, ha⟩ := q.ex_ref
    obtain ⟨us, hu, qu⟩ := R1.lst ha (lstAt_some hx)
    obtain ⟨ks, e2, hp⟩ := keyP_all qu fun x hx => ⟨o2 x hx, o4 x hx⟩
    subst e2
    have hlen : ks.length = xs.length := by
      have := qu.length
      simpa using this
    exact ⟨l, A1, xs, ks, rfl, hu, hp, keyP_dif hp o3, by omega, fun a o L hn pm => k H1 A1 a o L ks s1 R1 hn hp pm⟩
theorem de_lenSet (hc : X.calm = true) (hr : Room k X.A) (hl : X.mg "len" = none) (hs : X.mg "set" = none) (he : PE X e (tD (wd X g) F)) (hgl : Gl X "len" := by rfl) (hgs : Gl X "set" := by rfl) (h1 : starEach [e] X.env = [(false, eval e X.env)] := by rfl) :
    PE X (.Call (.Name "len" p) [.Call (.Name "set" p2) [e] [] q] [] pos) (tD (wd X g) (dUn fLenSet F)) := by
  have hu : X.A.units + 64 < cLine := by have := hr.un; omega
  refine pe_weak (pe_callB cr_lenSet hgl hl PySem.boot_len (pa_cons (de_mkSet (g := g) (F := F) hc hu hs he hgs h1) pa_nil) (by decide) (by decide) (by rfl) (by rfl)) fun s H Q ⟨A, r, m, y, m', R, Er, e1, kk⟩ => ?_
  obtain ⟨⟨x, m1⟩, e2, e3⟩ := Option.bind_eq_some_iff.mp e1
  cases x with
  | ref i =>
    obtain ⟨xs, hx, e4⟩ := Option.bind_eq_some_iff.mp (show (lstAt m1 i).bind _ = _ from e3)
    dsimp only at e4
    split at e4
    · rename_i ok
      cases e4
      refine mkSet_run R Er e2 hx ok fun H1 A1 a o L ks s1 R1 hn hp pm => ?_
      refine ⟨a, o, L, rfl, upd_same, ?_⟩
      have hlen : L.length = xs.length := by
        rw [pm.length_eq]
        exact (paired_len hp).symm
      rw [hlen]
      exact kk _ _ A1 (s1.trans (.tup hn)) (R1.beside hn) (.int _)
    · cases e4
  | _ => cases e3
end
end VW

/-! viewwood k93: two sets of the same keys are not unlike. -/
namespace VW
open PySem PySem.Spec PyProof.Rows L2
section
variable {P : Program} {w : World} {A : Around} {E : Value → Shared → Prop} {s : Shared} {a b : Addr} {L M : List KE} {es fs : Array (Int × Value)} {ep eq : Nat} {t u : SetTable}
/-- the walk: the entries in some order -/
theorem walk_K {Q : Array (Int × Value) → Shared → Prop} (R : SetK P w s.heap a L es ep t) (q : ∀ out : Array (Int × Value), out.toList.Perm es.toList → Q out s) : wpAny (model P w) A (setWalk a) Q E s := by
  obtain ⟨o, ho, hex, hd⟩ := R.obj
  have hled := R.led
  unfold setWalk
  refine wpAny_bind (wpAny_setState_of ho hd R.fit ?_)
  dsimp only
  refine wpAny_bind (wpAny_byText ?_)
  by_cases hb : w.params.followText "set-order" = true
  · refine wp_if_pos hb ?_
    exact wpAny_bind (wpAny_askSetting (wpAny_pure (q _ (pick_perm _ es))))
  · have hl : t.led = true := hled.resolve_left hb
    refine wp_if_neg hb ?_
    try refine wpAny_bind (wpAny_pure ?_)
    refine wp_if_neg (by show ¬ ((!t.plain && decide (es.size > 1)) = true); rw [R.pla]; simp) ?_
    try refine wpAny_bind (wpAny_pure ?_)
    refine wpAny_bind (wpAny_of_eq (a := ()) ?_ ?_)
    · show (if (!t.led && decide (es.size > 1)) = true then unsupported "set:maker-not-led" else pure ()) = pure ()
      rw [hl]
      rfl
    · exact wpAny_pure (q es (List.Perm.refl _))
theorem quietEq_K {k : NestedKey} {c : Addr} {Q : Bool → Shared → Prop} (x : KeyI P w s.heap k c) (q : Q false s) : wpAny (model P w) A (Builtin.Frozenset.quietEq (.ref c)) Q E s := by
  have hT : s.TypeIs (.ref c) "tuple" := nestedKind_stays.tuple x.is_
  unfold Builtin.Frozenset.quietEq
  dsimp only
  refine wpAny_bind (wpAny_specialOf hT F.slot_tuple_eq.lookup ?_)
  exact wpAny_pure q
theorem entries_K {Q : Array (Int × Value) → Shared → Prop} (R : SetK P w s.heap a L es ep t) (q : Q es s) : wpAny (model P w) A (setEntries a) Q E s := by
  obtain ⟨o, ho, hex, hd⟩ := R.obj
  exact wpAny_setEntries_of ho hd R.fit q
theorem unseen_K {Q : List (Int × Value) → Shared → Prop} (R : SetK P w s.heap a L es ep t) (S : SetK P w s.heap b M fs eq u) (q : ∀ out : List (Int × Value), out.Perm es.toList → Q out s) : wpAny (model P w) A (Builtin.Frozenset.walkUnseen a b) Q E s := by
  unfold Builtin.Frozenset.walkUnseen
  refine wpAny_bind (entries_K R ?_)
  refine wpAny_bind (entries_K S ?_)
  have all : ∀ e ∈ es.toList ++ fs.toList, ∃ k c, e.2 = Value.ref c ∧ KeyI P w s.heap k c := fun e he => by
    rw [R.ent, S.ent, entS, entS] at he
    rcases List.mem_append.mp he with he | he
    · obtain ⟨p, hp, rfl⟩ := List.mem_map.mp he
      exact ⟨p.2, p.1, rfl, R.els p hp⟩
    · obtain ⟨p, hp, rfl⟩ := List.mem_map.mp he
      exact ⟨p.2, p.1, rfl, S.els p hp⟩
  refine wpAny_bind ?_
  refine wpAny_forIn_list _ (fun rest acc s' => s' = s ∧ acc.1 = none ∧ ∀ e ∈ rest, ∃ k c, e.2 = Value.ref c ∧ KeyI P w s.heap k c) _ (fun e rest acc s' I => ?_) (fun acc s' I => ?_) _ _ ⟨rfl, rfl, all⟩
  · obtain ⟨rfl, h2, h3⟩ := I
    obtain ⟨eh, ev⟩ := e
    obtain ⟨k, c, h4, h5⟩ := h3 (eh, ev) List.mem_cons_self
    dsimp only at h4
    subst h4
    dsimp only
    refine wpAny_bind (quietEq_K h5 ?_)
    simp only [Bool.not_false, if_true]
    refine wpAny_bind ?_
    unfold Builtin.Frozenset.walk
    refine wpAny_bind (walk_K R fun out pm => ?_)
    refine wpAny_pure ?_
    refine wpAny_pure ?_
    exact wpAny_pure (q _ pm)
  · obtain ⟨r1, r2⟩ := acc
    obtain ⟨rfl, h2, h3⟩ := I
    dsimp only at h2
    subst h2
    exact wpAny_pure (q _ (List.Perm.refl _))
theorem find_K {x : Addr} {k : NestedKey} {Q : Option Nat → Shared → Prop} (R : SetK P w s.heap a L es ep t) (hx : KeyI P w s.heap k x) (hr : (nestedKind P w).room A) (hin : k ∈ L.map (·.2)) (q : ∀ i, Q (some i) s) : wpAny (model P w) A (setFind a (.ref x) (k.hash w)) Q E s := by
  obtain ⟨o, ho, hex, hd⟩ := R.obj
  unfold setFind
  rw [show (100000 : Nat) = 99999 + 1 from rfl]
  unfold setFindIn
  refine wpAny_bind (wpAny_setState_of ho hd R.fit ?_)
  dsimp only
  refine wp_if_neg (by simp [byScan, Value.scannable]) ?_
  try refine wpAny_bind (wpAny_pure ?_)
  refine wpAny_bind (search_all (ad := false) R hx hr (fun i p _ _ => ?_) fun N hn _ _ => absurd hin hn)
  exact wpAny_pure (q i)
theorem subset_K {id : String} {Q : Bool → Shared → Prop} (R : SetK P w s.heap a L es ep t) (S : SetK P w s.heap b M fs eq u) (hr : (nestedKind P w).room A) (hlen : L.length = M.length) (hsub : ∀ k ∈ L.map (·.2), k ∈ M.map (·.2)) (q : Q true s) : wpAny (model P w) A (Builtin.Frozenset.subsetOf id a b) Q E s := by
  obtain ⟨o, ho, hex, hd⟩ := R.obj
  unfold Builtin.Frozenset.subsetOf Builtin.Frozenset.sizeOf
  refine wpAny_bind (wpAny_bind (entries_K R (wpAny_pure ?_)))
  refine wpAny_bind (wpAny_bind (entries_K S (wpAny_pure ?_)))
  refine wp_if_neg (by rw [R.n, S.n]; omega) ?_
  try refine wpAny_bind (wpAny_pure ?_)
  refine wpAny_bind (wpAny_setEpoch_of ho hd R.fit ?_)
  refine wpAny_bind (unseen_K R S fun out pm => ?_)
  have all : ∀ e ∈ out, ∃ k c, e = (k.hash w, Value.ref c) ∧ KeyI P w s.heap k c ∧ k ∈ M.map (·.2) := fun e he => by
    have h1 := pm.mem_iff.mp he
    rw [R.ent, entS] at h1
    obtain ⟨p, hp, rfl⟩ := List.mem_map.mp h1
    exact ⟨p.2, p.1, rfl, R.els p hp, hsub _ (List.mem_map.mpr ⟨p, hp, rfl⟩)⟩
  refine wpAny_bind ?_
  refine wpAny_forIn_list _ (fun rest acc s' => s' = s ∧ acc.1 = none ∧ ∀ e ∈ rest, ∃ k c, e = (k.hash w, Value.ref c) ∧ KeyI P w s.heap k c ∧ k ∈ M.map (·.2)) _ (fun e rest acc s' I => ?_) (fun acc s' I => ?_) _ _ ⟨rfl, rfl, all⟩
  · obtain ⟨rfl, h2, h3⟩ := I
    obtain ⟨k, c, rfl, h5, h6⟩ := h3 e List.mem_cons_self
    dsimp only
    refine wpAny_bind (wpAny_holding (find_K S h5 hr h6 fun i => ?_))
    simp only [Option.isNone_some, Bool.false_eq_true, if_false]
    unfold Builtin.Frozenset.unchanged
    refine wpAny_bind (wpAny_bind (wpAny_setEpoch_of ho hd R.fit ?_))
    refine wp_if_neg (by simp) ?_
    refine wpAny_pure ?_
    exact wpAny_pure ⟨rfl, rfl, fun y hy => h3 y (List.mem_cons_of_mem _ hy)⟩
  · obtain ⟨r1, r2⟩ := acc
    obtain ⟨rfl, h2, h3⟩ := I
    dsimp only at h2
    subst h2
    exact wpAny_pure q
end
end VW

/-! viewwood k93: set(xs) != set(ys), the comparison. -/
namespace VW
open PySem PySem.Spec PyProof.Rows L2
theorem entry_sne : entryFor table "set.__ne__" = some Builtin.«frozenset.__ne__» := entryFor_alias (id' := "frozenset.__ne__") (by kernel_rfl) rfl (by decide +kernel) (by kernel_rfl)
section
variable {P : Program} {w : World} {A : Around} {E : Value → Shared → Prop} {s : Shared} {a b : Addr} {L M : List KE} {es fs : Array (Int × Value)} {ep eq : Nat} {t u : SetTable}
theorem SetK.ty (R : SetK P w s.heap a L es ep t) : s.TypeIs (.ref a) "set" := by
  obtain ⟨o, ho, hex, _⟩ := R.obj
  exact ⟨o, ho, hex.1⟩
theorem isa_set {c : Addr} {Q : Bool → Shared → Prop} (hT : s.TypeIs (.ref c) "set") (q : Q true s) : wpAny (model P w) A (isInstance (.ref c) (.type "set")) Q E s :=
  wpAny_isInstance hT (b := true) (by rw [isSubtype_type]; kernel_rfl) q
theorem isa_fset {c : Addr} {Q : Bool → Shared → Prop} (hT : s.TypeIs (.ref c) "set") (q : Q false s) : wpAny (model P w) A (isInstance (.ref c) (.type "frozenset")) Q E s :=
  wpAny_isInstance hT F.sub_set_frozenset q
theorem ne_K {Q : Value → Shared → Prop} (R : SetK P w s.heap a L es ep t) (S : SetK P w s.heap b M fs eq u) (hr : (nestedKind P w).room A.in1) (hu : A.units < cLine) (hlen : L.length = M.length) (hsub : ∀ k ∈ L.map (·.2), k ∈ M.map (·.2)) (q : Q (.bool false) s) : wpAny (model P w) A (compareOp .NotEq (.ref a) (.ref b)) Q E s := by
  show wpAny _ _ (richCompare .NotEq (.ref a) (.ref b)) _ _ _
  refine wpAny_richCompare_same_room (op := .NotEq) R.ty S.ty F.slot_set_ne (wpAny_call_entry F.slot_set_ne R.ty entry_sne ?_ (F.args_set_ne_2 _ _)) hu
  unfold Builtin.«frozenset.__ne__»
  show wpAny _ _ (Builtin.Frozenset.slot1 "__ne__" _ >>= _) _ _ s
  have e1 : Builtin.Frozenset.slot1 "__ne__" ⟨[.ref a, .ref b], []⟩ = pure (.ref a, .ref b) := rfl
  rw [e1]
  refine wpAny_bind (wpAny_pure ?_)
  dsimp only
  unfold Builtin.Frozenset.isAnySet
  refine wpAny_bind (wpAny_bind (isa_set S.ty ?_))
  refine wpAny_pure (a := true) ?_
  refine wp_if_neg (by decide) ?_
  refine wpAny_bind (wpAny_pure ?_)
  refine wpAny_bind (wpAny_pure ?_)
  unfold Builtin.Frozenset.sizeOf
  refine wpAny_bind (wpAny_bind (entries_K R (wpAny_pure ?_)))
  refine wpAny_bind (wpAny_bind (entries_K S (wpAny_pure ?_)))
  refine wpAny_bind ?_
  refine wp_if_neg (by rw [R.n, S.n, hlen]; simp) ?_
  refine wpAny_bind (wpAny_bind (isa_fset R.ty ?_))
  refine wpAny_pure (a := false) ?_
  refine wp_if_neg (by decide) ?_
  refine subset_K R S hr hlen hsub ?_
  exact wpAny_pure ⟨_, rfl, by decide, q⟩
end
end VW

/-! viewwood k93: set(xs) != set(ys), read. -/
namespace VW
open PySem PySem.Spec PyProof.Rows L2
section
variable {X : Cx} {g : Gs}
def KeysP (W : Wd) (A : List Addr) (H : Hp) (L : List KE) : Prop := ∀ p ∈ L, ∃ x, KeyP W A H x p
def rNeSet (W : Wd) : R2 := fun v u H Q => ∃ (a b : Addr) (o o' : Obj) (L M : List KE) (A : List Addr), v = .ref a ∧ u = .ref b ∧ H a = some (.frz o (SetO W.P W.w a L)) ∧ H b = some (.frz o' (SetO W.P W.w b M)) ∧ KeysP W A H L ∧ KeysP W A H M ∧ L.length = M.length ∧ (∀ k ∈ L.map (·.2), k ∈ M.map (·.2)) ∧ Q (.bl false) H
theorem op_neSet {k : Nat} (hr : Room k X.A) : OpR X (compareOp .NotEq) (rNeSet (wd X g)) := by
  intro pins s σ H x y v u Q I r1 r2 ⟨a, b, o, o', L, M, A, e1, e2, ha, hb, hL, hM, hlen, hsub, q⟩
  subst e1
  subst e2
  obtain rfl : v = .ref a := r1
  obtain rfl : u = .ref b := r2
  obtain ⟨es, ep, t, R⟩ := (show SetN X.prog X.w s.heap a L from (I.hok a _ ha).2.1).full fun p hp => let ⟨x, hx⟩ := hL p hp; keyP_ki I hx
  obtain ⟨fs, eq, t', S⟩ := (show SetN X.prog X.w s.heap b M from (I.hok b _ hb).2.1).full fun p hp => let ⟨x, hx⟩ := hM p hp; keyP_ki I hx
  have hu : X.A.units < cLine := by have := hr.un; omega
  exact ne_K R S (room_key hr) hu hlen hsub ⟨.bl false, H, I, rfl, q⟩
theorem KeyP.go {W : Wd} {A A' : List Addr} {H H' : Hp} (s : Stp W A A' H H') {x : SV} {p : KE} (h : KeyP W A H x p) : KeyP W A' H' x p := ⟨⟨h.1.1, h.1.2.1, h.1.2.2.mono s⟩, h.2⟩
theorem keysP_of {W : Wd} {A A' : List Addr} {H H' : Hp} (s : Stp W A A' H H') {xs : List SV} {ks L : List KE} (h : Paired (KeyP W A H) xs ks) (pm : L.Perm ks) : KeysP W A' H' L := fun p hp => by
  obtain ⟨x, _, hx⟩ := keyP_mem h (pm.mem_iff.mp hp)
  exact ⟨x, hx.go s⟩
theorem keyP_same {W : Wd} {A A' : List Addr} {H H' : Hp} : ∀ {xs : List SV} {ks js : List KE}, Paired (KeyP W A H) xs ks → Paired (KeyP W A' H') xs js → ks.map (·.2) = js.map (·.2)
  | _, _, _, .nil, .nil => rfl
  | _, _, _, .cons q t, .cons q' t' => by
    have e := q.1.2.1.symm.trans q'.1.2.1
    rw [List.map_cons, List.map_cons, keyP_same t t', Option.some.inj e]
variable {a b : Expr} {F G : DE} {p p2 q q2 pos : Pos} {k : Nat}
theorem dt_setNe (hc : X.calm = true) (hr : Room k X.A) (hs : X.mg "set" = none) (ha : PE X a (tD (wd X g) F)) (hb : PE X b (tD (wd X g) G)) (hgs : Gl X "set" := by rfl)
    (h1 : starEach [a] X.env = [(false, eval a X.env)] := by rfl) (h2 : starEach [b] X.env = [(false, eval b X.env)] := by rfl) (hm : behindInMarks .NotEq (.Call (.Name "set" p2) [b] [] q2) = false := by rfl) :
    PT X (.Compare (.Call (.Name "set" p) [a] [] q) [.NotEq] [.Call (.Name "set" p2) [b] [] q2] pos) (tT (wd X g) (dTr (dSetNe F G))) := by
  have hu : X.A.units + 64 < cLine := by have := hr.un; omega
  refine pt_weak (pt_cmpR (op_neSet (g := g) hr) (de_mkSet (g := g) (F := F) hc hu hs ha hgs h1) (de_mkSet (g := g) (F := G) hc hu hs hb hgs h2) hm) fun s H Q ⟨A, r, m, bb, m', R, Er, e1, kk⟩ => ?_
  obtain ⟨⟨z, mz⟩, e2, e3⟩ := Option.bind_eq_some_iff.mp e1
  obtain ⟨⟨x, m1⟩, e4, e5⟩ := Option.bind_eq_some_iff.mp (show ((F r m).bind _) = _ from e2)
  cases x with
  | ref i =>
    obtain ⟨xs, hx, e6⟩ := Option.bind_eq_some_iff.mp (show (lstAt m1 i).bind _ = _ from e5)
    obtain ⟨⟨y, m2⟩, e7, e8⟩ := Option.bind_eq_some_iff.mp (show ((G r m1).bind _) = _ from e6)
    cases y with
    | ref j =>
      obtain ⟨ys, hy, e9⟩ := Option.bind_eq_some_iff.mp (show (lstAt m2 j).bind _ = _ from e8)
      dsimp only at e9
      split at e9
      · rename_i ok
        obtain ⟨ok, rfl⟩ := ok
        cases e9
        cases e3
        refine mkSet_run R Er e4 hx ok fun H1 A1 c o L ks s1 R1 hn hp pm => ?_
        have s2 : Stp (wd X g) A1 A1 H1 (upd H1 c (.frz o (SetO (wd X g).P (wd X g).w c L))) := .tup hn
        refine mkSet_run (R1.beside hn) (Er.mono (s1.trans s2)) e7 hy ok fun H2 A2 c2 o2 M js s3 R2 hn2 hp2 pm2 => ?_
        have s4 : Stp (wd X g) A2 A2 H2 (upd H2 c2 (.frz o2 (SetO (wd X g).P (wd X g).w c2 M))) := .tup hn2
        have ke := keyP_same hp hp2
        refine ⟨c, c2, o, o2, L, M, A2, rfl, rfl, (s3.trans s4).tk _ _ _ upd_same, upd_same, keysP_of ((s2.trans s3).trans s4) hp pm, keysP_of s4 hp2 pm2, ?_, ?_, false, rfl, ?_⟩
        · rw [pm.length_eq, pm2.length_eq, ← paired_len hp, ← paired_len hp2]
        · intro x hx
          have h3 := (pm.map (·.2)).mem_iff.mp hx
          rw [ke] at h3
          exact (pm2.map (·.2)).mem_iff.mpr h3
        · exact kk _ A2 ((((s1.trans s2).trans s3)).trans s4) (R2.beside hn2)
      · cases e9
    | _ => cases e8
  | _ => cases e5
end
end VW

/-! viewwood k93: printed by gen.py: meanings (S_, F_) of the defs, group 1. -/
namespace VW
open PySem PySem.Spec PyProof.Rows L2
abbrev s_is_whole : Stmt := topS 6
abbrev N_is_whole : List Str := ["thing"]
def S_is_whole : DS :=
  (dRet (dAnd (dUn (fIsi "int") (dVar 0)) (dNot (dUn (fIsi "bool") (dVar 0)))))
def F_is_whole : DF := dFn 1 1 S_is_whole
abbrev s_is_number : Stmt := topS 7
abbrev N_is_number : List Str := ["thing"]
def S_is_number : DS :=
  (dRet (dAnd (dApp F_is_whole (dCons (dVar 0) dNil)) (dChain fLe fLe (dBin fSub (dC (.int 0)) (dC (.int 1000000000))) (dVar 0) (dC (.int 1000000000)))))
def F_is_number : DF := dFn 1 1 S_is_number
abbrev s_is_name : Stmt := topS 8
abbrev N_is_name : List Str := ["thing", "sign"]
def S_is_name : DS :=
  (dSeq (dIf (dOrT (dNotT (dTr (dUn (fIsi "str") (dVar 0)))) (dOrT (dTr (dBin fLt (dApp fLenT (dCons (dVar 0) dNil)) (dC (.int 1)))) (dTr (dBin fGt (dApp fLenT (dCons (dVar 0) dNil)) (dC (.int 8)))))) (dRet (dC (.bl false))) dNext)
    (dRet (dApp fAll (dCons (dLc itStr (dVar 0) (bName 1) dYes (dBin fInT (dVar 1) (dC (.str "abcdefghijklmnopqrstuvwxyz"))) [1]) dNil))))
def F_is_name : DF := dFn 1 2 S_is_name
abbrev s_is_count : Stmt := topS 12
abbrev N_is_count : List Str := ["thing"]
def S_is_count : DS :=
  (dRet (dAnd (dUn (fIsi "int") (dVar 0)) (dAnd (dNot (dUn (fIsi "bool") (dVar 0))) (dBin fGe (dVar 0) (dC (.int 0))))))
def F_is_count : DF := dFn 1 1 S_is_count
abbrev s_is_spot : Stmt := topS 13
abbrev N_is_spot : List Str := ["thing"]
def S_is_spot : DS :=
  (dSeq (dIf (dOrT (dNotT (dTr (dUn (fIsi "tuple") (dVar 0)))) (dTr (dBin fNe (dApp fLen (dCons (dVar 0) dNil)) (dC (.int 2))))) (dRet (dC (.bl false))) dNext)
    (dRet (dAnd (dOr (dBin fIsN (dBin fIx (dVar 0) (dC (.int 0))) (dC .non)) (dApp F_is_number (dCons (dBin fIx (dVar 0) (dC (.int 0))) dNil))) (dApp F_is_count (dCons (dBin fIx (dVar 0) (dC (.int 1))) dNil)))))
def F_is_spot : DF := dFn 1 1 S_is_spot
abbrev s_is_path : Stmt := topS 14
abbrev N_is_path : List Str := ["thing", "one"]
def S_is_path : DS :=
  (dRet (dAnd (dUn (fIsi "tuple") (dVar 0)) (dApp fAll (dCons (dLc itTup (dVar 0) (bName 1) dYes (dApp F_is_spot (dCons (dVar 1) dNil)) [1]) dNil))))
def F_is_path : DF := dFn 1 2 S_is_path
abbrev s_is_label : Stmt := topS 15
abbrev N_is_label : List Str := ["thing"]
def S_is_label : DS :=
  (dRet (dAnd (dApp F_is_path (dCons (dVar 0) dNil)) (dBin fGt (dApp fLen (dCons (dVar 0) dNil)) (dC (.int 0)))))
def F_is_label : DF := dFn 1 1 S_is_label
abbrev s_is_address : Stmt := topS 16
abbrev N_is_address : List Str := ["thing", "one"]
def S_is_address : DS :=
  (dRet (dAnd (dUn (fIsi "tuple") (dVar 0)) (dApp fAll (dCons (dLc itTup (dVar 0) (bName 1) dYes (dApp F_is_label (dCons (dVar 1) dNil)) [1]) dNil))))
def F_is_address : DF := dFn 1 2 S_is_address
abbrev s_is_deed : Stmt := topS 20
abbrev N_is_deed : List Str := ["thing"]
def S_is_deed : DS :=
  (dSeq (dIf (dOrT (dNotT (dTr (dUn (fIsi "tuple") (dVar 0)))) (dOrT (dTr (dBin fEq (dApp fLen (dCons (dVar 0) dNil)) (dC (.int 0)))) (dNotT (dTr (dUn (fIsi "str") (dBin fIx (dVar 0) (dC (.int 0)))))))) (dRet (dC (.bl false))) dNext)
    (dSeq (dIf (dOrT (dTr (dUn fNinL (dBin fIx (dVar 0) (dC (.int 0))))) (dOrT (dTr (dBin fNe (dApp fLen (dCons (dVar 0) dNil)) (dUn fIxL (dBin fIx (dVar 0) (dC (.int 0)))))) (dNotT (dTr (dApp F_is_address (dCons (dBin fIx (dVar 0) (dC (.int 1))) dNil)))))) (dRet (dC (.bl false))) dNext)
    (dSeq (dIf (dTr (dBin fEq (dBin fIx (dVar 0) (dC (.int 0))) (dC (.str "put")))) (dRet (dAnd (dApp F_is_number (dCons (dBin fIx (dVar 0) (dC (.int 2))) dNil)) (dAnd (dApp F_is_label (dCons (dBin fIx (dVar 0) (dC (.int 3))) dNil)) (dApp F_is_name (dCons (dBin fIx (dVar 0) (dC (.int 4))) dNil))))) dNext)
    (dSeq (dIf (dTr (dBin fEq (dBin fIx (dVar 0) (dC (.int 0))) (dC (.str "take")))) (dRet (dApp F_is_label (dCons (dBin fIx (dVar 0) (dC (.int 2))) dNil))) dNext)
    (dSeq (dIf (dTr (dBin fEq (dBin fIx (dVar 0) (dC (.int 0))) (dC (.str "move")))) (dRet (dAnd (dApp F_is_label (dCons (dBin fIx (dVar 0) (dC (.int 2))) dNil)) (dApp F_is_number (dCons (dBin fIx (dVar 0) (dC (.int 3))) dNil)))) dNext)
    (dSeq (dIf (dTr (dBin fEq (dBin fIx (dVar 0) (dC (.int 0))) (dC (.str "hands")))) dNever dNext)
    (dRet (dAnd (dApp F_is_name (dCons (dBin fIx (dVar 0) (dC (.int 2))) dNil)) (dOr (dBin fEq (dBin fIx (dVar 0) (dC (.int 0))) (dC (.str "unset"))) (dApp F_is_number (dCons (dBin fIx (dVar 0) (dC (.int 3))) dNil)))))))))))
def F_is_deed : DF := dFn 1 1 S_is_deed
end VW

/-! viewwood k93: printed by gen.py: meanings (S_, F_) of the defs, group 2. -/
namespace VW
open PySem PySem.Spec PyProof.Rows L2
abbrev s_place_of : Stmt := topS 21
abbrev N_place_of : List Str := ["row", "label", "k"]
def S_place_of : DS :=
  (dSeq (dForR1 (dCons (dApp fLen (dCons (dVar 0) dNil)) dNil) (bName 2) (dIf (dTr (dBin fEq (dBin fIx (dBin fIx (dVar 0) (dVar 2)) (dC (.int 0))) (dVar 1))) (dRet (dVar 2)) dNext))
    (dRet (dC .non)))
def F_place_of : DF := dFn 2 3 S_place_of
abbrev s_box_found : Stmt := topS 22
abbrev N_box_found : List Str := ["tree", "address", "row", "box", "label", "k"]
def S_box_found : DS :=
  (dSeq (dAsg (bName 2) (dVar 0))
    (dSeq (dAsg (bName 3) (dC .non))
    (dSeq (dForT (dVar 1) (bName 4) (dSeq (dAsg (bName 5) (dApp F_place_of (dCons (dVar 2) (dCons (dVar 4) dNil))))
    (dSeq (dIf (dTr (dBin fIsN (dVar 5) (dC .non))) (dRet (dC .non)) dNext)
    (dSeq (dAsg (bName 3) (dBin fIx (dBin fIx (dVar 2) (dVar 5)) (dC (.int 1))))
    (dAsg (bName 2) (dBin fIx (dVar 3) (dC (.int 3))))))))
    (dRet (dVar 3)))))
def F_box_found : DF := dFn 2 6 S_box_found
abbrev s_row_found : Stmt := topS 23
abbrev N_row_found : List Str := ["tree", "address", "box"]
def S_row_found : DS :=
  (dSeq (dIf (dTr (dBin fEq (dVar 1) (dTup dNil))) (dRet (dVar 0)) dNext)
    (dSeq (dAsg (bName 2) (dApp F_box_found (dCons (dVar 0) (dCons (dVar 1) dNil))))
    (dSeq (dIf (dTr (dBin fIsN (dVar 2) (dC .non))) (dRet (dC .non)) dNext)
    (dRet (dBin fIx (dVar 2) (dC (.int 3)))))))
def F_row_found : DF := dFn 2 3 S_row_found
abbrev s_with_box : Stmt := topS 24
abbrev N_with_box : List Str := ["row", "address", "box", "k", "tag", "sets", "hands", "inner"]
def S_with_box : DS :=
  (dSeq (dAsg (bName 3) (dApp F_place_of (dCons (dVar 0) (dCons (dBin fIx (dVar 1) (dC (.int 0))) dNil))))
    (dSeq (dIf (dTr (dBin fGt (dApp fLen (dCons (dVar 1) dNil)) (dC (.int 1)))) (dSeq dNever
    dNever) dNext)
    (dRet (dBin fAdd (dBin fAdd (dSlice (dVar 0) dNoP (dPart (dVar 3))) (dTup (dCons (dTup (dCons (dBin fIx (dVar 1) (dC (.int 0))) (dCons (dVar 2) dNil))) dNil))) (dSlice (dVar 0) (dPart (dBin fAdd (dVar 3) (dC (.int 1)))) dNoP)))))
def F_with_box : DF := dFn 3 8 S_with_box
abbrev s_with_row : Stmt := topS 25
abbrev N_with_row : List Str := ["tree", "address", "row", "tag", "sets", "hands", "inner"]
def S_with_row : DS :=
  (dSeq (dIf (dTr (dBin fEq (dVar 1) (dTup dNil))) (dRet (dVar 2)) dNext)
    (dSeq (dAsg (bTup 4 (bCons (bName 3) (bCons (bName 4) (bCons (bName 5) (bCons (bName 6) bNil))))) (dApp F_box_found (dCons (dVar 0) (dCons (dVar 1) dNil))))
    (dRet (dApp F_with_box (dCons (dVar 0) (dCons (dVar 1) (dCons (dTup (dCons (dVar 3) (dCons (dVar 4) (dCons (dVar 5) (dCons (dVar 2) dNil))))) dNil)))))))
def F_with_row : DF := dFn 3 7 S_with_row
abbrev s_turned_row : Stmt := topS 26
abbrev N_turned_row : List Str := ["row", "deed", "k", "others", "place", "word", "address", "label", "tag"]
def S_turned_row : DS :=
  (dSeq (dIf (dTr (dBin fEq (dBin fIx (dVar 1) (dC (.int 0))) (dC (.str "put")))) (dSeq (dAsg (bTup 5 (bCons (bName 5) (bCons (bName 6) (bCons (bName 4) (bCons (bName 7) (bCons (bName 8) bNil)))))) (dVar 1))
    (dSeq (dIf (dOrT (dTr (dBin fNotN (dApp F_place_of (dCons (dVar 0) (dCons (dVar 7) dNil))) (dC .non))) (dNotT (dTr (dChain fLe fLe (dC (.int 0)) (dVar 4) (dApp fLen (dCons (dVar 0) dNil)))))) (dRet (dC .non)) dNext)
    (dRet (dBin fAdd (dBin fAdd (dSlice (dVar 0) dNoP (dPart (dVar 4))) (dTup (dCons (dTup (dCons (dVar 7) (dCons (dTup (dCons (dVar 8) (dCons (dTup dNil) (dCons (dTup dNil) (dCons (dTup dNil) dNil))))) dNil))) dNil))) (dSlice (dVar 0) (dPart (dVar 4)) dNoP))))) dNext)
    (dSeq (dAsg (bName 2) (dApp F_place_of (dCons (dVar 0) (dCons (dBin fIx (dVar 1) (dC (.int 2))) dNil))))
    (dSeq (dIf (dTr (dBin fIsN (dVar 2) (dC .non))) (dRet (dC .non)) dNext)
    (dSeq (dAsg (bName 3) (dBin fAdd (dSlice (dVar 0) dNoP (dPart (dVar 2))) (dSlice (dVar 0) (dPart (dBin fAdd (dVar 2) (dC (.int 1)))) dNoP)))
    (dSeq (dIf (dTr (dBin fEq (dBin fIx (dVar 1) (dC (.int 0))) (dC (.str "take")))) (dRet (dVar 3)) dNext)
    (dSeq (dAsg (bName 4) (dBin fIx (dVar 1) (dC (.int 3))))
    (dSeq (dIf (dNotT (dTr (dChain fLe fLe (dC (.int 0)) (dVar 4) (dApp fLen (dCons (dVar 3) dNil))))) (dRet (dC .non)) dNext)
    (dRet (dBin fAdd (dBin fAdd (dSlice (dVar 3) dNoP (dPart (dVar 4))) (dTup (dCons (dBin fIx (dVar 0) (dVar 2)) dNil))) (dSlice (dVar 3) (dPart (dVar 4)) dNoP))))))))))
def F_turned_row : DF := dFn 2 9 S_turned_row
abbrev s_turned_box : Stmt := topS 27
abbrev N_turned_box : List Str := ["box", "deed", "others", "tag", "sets", "hands", "row", "one"]
def S_turned_box : DS :=
  (dSeq (dAsg (bTup 4 (bCons (bName 3) (bCons (bName 4) (bCons (bName 5) (bCons (bName 6) bNil))))) (dVar 0))
    (dSeq (dIf (dTr (dBin fEq (dBin fIx (dVar 1) (dC (.int 0))) (dC (.str "hands")))) (dRet (dTup (dCons (dVar 3) (dCons (dVar 4) (dCons (dBin fIx (dVar 1) (dC (.int 2))) (dCons (dVar 6) dNil)))))) dNext)
    (dSeq (dAsg (bName 2) (dLc itTup (dVar 4) (bName 7) (dTr (dBin fNe (dBin fIx (dVar 7) (dC (.int 0))) (dBin fIx (dVar 1) (dC (.int 2))))) (dVar 7) [7]))
    (dSeq (dIf (dTr (dBin fEq (dBin fIx (dVar 1) (dC (.int 0))) (dC (.str "set")))) (dRet (dTup (dCons (dVar 3) (dCons (dApp fTuple (dCons (dApp fSort1 (dCons (dBin fAdd (dVar 2) (dLst (dCons (dTup (dCons (dBin fIx (dVar 1) (dC (.int 2))) (dCons (dBin fIx (dVar 1) (dC (.int 3))) dNil))) dNil))) dNil)) dNil)) (dCons (dVar 5) (dCons (dVar 6) dNil)))))) dNext)
    (dSeq (dIf (dTr (dBin fEq (dApp fLen (dCons (dVar 2) dNil)) (dApp fLen (dCons (dVar 4) dNil)))) (dRet (dC .non)) dNext)
    (dRet (dTup (dCons (dVar 3) (dCons (dApp fTuple (dCons (dVar 2) dNil)) (dCons (dVar 5) (dCons (dVar 6) dNil)))))))))))
def F_turned_box : DF := dFn 2 8 S_turned_box
abbrev s_turned : Stmt := topS 28
abbrev N_turned : List Str := ["tree", "deed", "box", "row"]
def S_turned : DS :=
  (dSeq (dIf (dTr (dBin fInS (dBin fIx (dVar 1) (dC (.int 0))) (dTup (dCons (dC (.str "put")) (dCons (dC (.str "take")) (dCons (dC (.str "move")) dNil)))))) (dSeq (dAsg (bName 3) (dApp F_row_found (dCons (dVar 0) (dCons (dBin fIx (dVar 1) (dC (.int 1))) dNil))))
    (dSeq (dIf (dTr (dBin fIsN (dVar 3) (dC .non))) (dRet (dC .non)) dNext)
    (dSeq (dAsg (bName 3) (dApp F_turned_row (dCons (dVar 3) (dCons (dVar 1) dNil))))
    (dSeq (dIf (dTr (dBin fIsN (dVar 3) (dC .non))) (dRet (dC .non)) dNext)
    (dRet (dApp F_with_row (dCons (dVar 0) (dCons (dBin fIx (dVar 1) (dC (.int 1))) (dCons (dVar 3) dNil))))))))) dNext)
    (dSeq (dAsg (bName 2) (dApp F_box_found (dCons (dVar 0) (dCons (dBin fIx (dVar 1) (dC (.int 1))) dNil))))
    (dSeq (dIf (dTr (dBin fIsN (dVar 2) (dC .non))) (dRet (dC .non)) dNext)
    (dSeq (dAsg (bName 2) (dApp F_turned_box (dCons (dVar 2) (dCons (dVar 1) dNil))))
    (dSeq (dIf (dTr (dBin fIsN (dVar 2) (dC .non))) (dRet (dC .non)) dNext)
    (dRet (dApp F_with_box (dCons (dVar 0) (dCons (dBin fIx (dVar 1) (dC (.int 1))) (dCons (dVar 2) dNil))))))))))
def F_turned : DF := dFn 2 4 S_turned
abbrev s_led : Stmt := topS 29
abbrev N_led : List Str := ["tree", "deeds", "place"]
def S_led : DS :=
  (dSeq (dForR1 (dCons (dApp fLen (dCons (dVar 1) dNil)) dNil) (bName 2) (dSeq (dAsg (bName 0) (dApp F_turned (dCons (dVar 0) (dCons (dBin fIx (dVar 1) (dVar 2)) dNil))))
    (dIf (dTr (dBin fIsN (dVar 0) (dC .non))) dNever dNext)))
    (dRet (dVar 0)))
def F_led : DF := dFn 2 3 S_led
end VW

/-! viewwood k93: printed by gen.py: meanings (S_, F_) of the defs, group 3. -/
namespace VW
open PySem PySem.Spec PyProof.Rows L2
abbrev s_places_in : Stmt := topS 31
abbrev N_places_in : List Str := ["row", "places", "k"]
def S_places_in : DS :=
  (dSeq (dAsg (bName 1) dDNew)
    (dSeq (dForR1 (dCons (dApp fLen (dCons (dVar 0) dNil)) dNil) (bName 2) (dPut fPutN (dVar 1) (dBin fIx (dVar 0) (dVar 2)) (dVar 2)))
    (dRet (dVar 1))))
def F_places_in : DF := dFn 1 3 S_places_in
abbrev s_piles_of : Stmt := topS 32
abbrev N_piles_of : List Str := ["old", "new", "at", "piles", "ahead", "label", "k"]
def S_piles_of : DS :=
  (dSeq (dAsg (bName 2) (dApp F_places_in (dCons (dVar 1) dNil)))
    (dSeq (dAsg (bName 3) (dLst dNil))
    (dSeq (dAsg (bName 4) dDNew)
    (dSeq (dForT (dVar 0) (bName 5) (dIf (dTr (dBin fInN (dVar 5) (dVar 2))) (dSeq (dAsg (bName 6) (dC (.int 0)))
    (dSeq (dWhile (dAndT (dTr (dBin fLt (dVar 6) (dApp fLen (dCons (dVar 3) dNil)))) (dTr (dBin fLt (dBin fIxN (dVar 2) (dBin fIx (dBin fIx (dVar 3) (dVar 6)) (dUn fNeg (dC (.int 1))))) (dBin fIxN (dVar 2) (dVar 5))))) (dAsg (bName 6) (dBin fAdd (dVar 6) (dC (.int 1)))) 30)
    (dSeq (dIf (dTr (dBin fEq (dVar 6) (dApp fLen (dCons (dVar 3) dNil)))) (dExp (dMeth fAppend (dVar 3) (dCons (dLst dNil) dNil))) dNext)
    (dSeq (dPut fPutN (dVar 4) (dVar 5) (dC .non))
    (dSeq (dIf (dTr (dBin fGt (dVar 6) (dC (.int 0)))) (dPut fPutN (dVar 4) (dVar 5) (dBin fIx (dBin fIx (dVar 3) (dBin fSub (dVar 6) (dC (.int 1)))) (dUn fNeg (dC (.int 1))))) dNext)
    (dExp (dMeth fAppend (dBin fIx (dVar 3) (dVar 6)) (dCons (dVar 5) dNil)))))))) dNext))
    (dRet (dTup (dCons (dVar 3) (dCons (dVar 4) dNil))))))))
def F_piles_of : DF := dFn 2 7 S_piles_of
abbrev s_row_paper : Stmt := topS 33
abbrev N_row_paper : List Str := ["old", "new", "stays", "label", "piles", "ahead", "pile"]
def S_row_paper : DS :=
  (dSeq (dAsg (bTup 2 (bCons (bName 4) (bCons (bName 5) bNil))) (dApp F_piles_of (dCons (dVar 0) (dCons (dVar 1) dNil))))
    (dSeq (dAsg (bName 2) (dLst dNil))
    (dSeq (dAsg (bName 3) (dC .non))
    (dSeq (dIf (dTr (dBin fGt (dApp fLen (dCons (dVar 4) dNil)) (dC (.int 0)))) (dAsg (bName 3) (dBin fIx (dBin fIx (dVar 4) (dUn fNeg (dC (.int 1)))) (dUn fNeg (dC (.int 1))))) dNext)
    (dSeq (dWhile (dTr (dBin fNotN (dVar 3) (dC .non))) (dSeq (dExp (dMeth fAppend (dVar 2) (dCons (dVar 3) dNil)))
    (dAsg (bName 3) (dBin fIxN (dVar 5) (dVar 3)))) 30)
    (dSeq (dExp (dMeth0 fRev (dVar 2)))
    (dRet (dTup (dCons (dApp fTuple (dCons (dVar 2) dNil)) (dCons (dApp fTuple (dCons (dLc itLst (dVar 4) (bName 6) dYes (dApp fTuple (dCons (dVar 6) dNil)) [6]) dNil)) dNil))))))))))
def F_row_paper : DF := dFn 2 7 S_row_paper
abbrev s_is_common : Stmt := topS 34
abbrev N_is_common : List Str := ["thing", "old", "new", "label"]
def S_is_common : DS :=
  (dSeq (dIf (dOrT (dNotT (dTr (dUn (fIsi "tuple") (dVar 0)))) (dNotT (dTr (dApp fAll (dCons (dLc itTup (dVar 0) (bName 3) dYes (dApp F_is_label (dCons (dVar 3) dNil)) [3]) dNil))))) (dRet (dC (.bl false))) dNext)
    (dRet (dApp fAll (dCons (dLc itTup (dVar 0) (bName 3) dYes (dAnd (dBin fInN (dVar 3) (dVar 1)) (dBin fInN (dVar 3) (dVar 2))) [3]) dNil))))
def F_is_common : DF := dFn 3 4 S_is_common
abbrev s_goes_on : Stmt := topS 35
abbrev N_goes_on : List Str := ["labels", "old", "new", "falls", "k", "one", "other"]
def S_goes_on : DS :=
  (dSeq (dForR2 (dCons (dC (.int 1)) (dCons (dApp fLen (dCons (dVar 0) dNil)) dNil)) (bName 4) (dSeq (dPar 5 6 (dCons (dBin fIx (dVar 0) (dBin fSub (dVar 4) (dC (.int 1)))) (dCons (dBin fIx (dVar 0) (dVar 4)) dNil)))
    (dIf (dOrT (dTr (dBin fGe (dBin fIxN (dVar 1) (dVar 5)) (dBin fIxN (dVar 1) (dVar 6)))) (dOrT (dTr (dBin fEq (dBin fIxN (dVar 2) (dVar 5)) (dBin fIxN (dVar 2) (dVar 6)))) (dTr (dBin fNe (dBin fGt (dBin fIxN (dVar 2) (dVar 5)) (dBin fIxN (dVar 2) (dVar 6))) (dVar 3))))) (dRet (dC (.bl false))) dNext)))
    (dRet (dC (.bl true))))
def F_goes_on : DF := dFn 4 7 S_goes_on
abbrev s_lets_row : Stmt := topS 36
abbrev N_lets_row : List Str := ["old", "new", "paper", "at_old", "at_new", "seen", "fall", "stays", "falls", "label"]
def S_lets_row : DS :=
  (dSeq (dIf (dOrT (dNotT (dTr (dUn (fIsi "tuple") (dVar 2)))) (dOrT (dTr (dBin fNe (dApp fLen (dCons (dVar 2) dNil)) (dC (.int 2)))) (dNotT (dTr (dUn (fIsi "tuple") (dBin fIx (dVar 2) (dC (.int 1)))))))) (dRet (dC (.bl false))) dNext)
    (dSeq (dAsg (bName 3) (dApp F_places_in (dCons (dVar 0) dNil)))
    (dSeq (dAsg (bName 4) (dApp F_places_in (dCons (dVar 1) dNil)))
    (dSeq (dAsg (bTup 2 (bCons (bName 7) (bCons (bName 8) bNil))) (dVar 2))
    (dSeq (dIf (dOrT (dNotT (dTr (dApp F_is_common (dCons (dVar 7) (dCons (dVar 3) (dCons (dVar 4) dNil)))))) (dTr (dBin fNe (dApp fLen (dCons (dVar 7) dNil)) (dApp fLen (dCons (dVar 8) dNil))))) (dRet (dC (.bl false))) dNext)
    (dSeq (dIf (dNotT (dTr (dApp F_goes_on (dCons (dVar 7) (dCons (dVar 3) (dCons (dVar 4) (dCons (dC (.bl false)) dNil))))))) (dRet (dC (.bl false))) dNext)
    (dSeq (dAsg (bName 5) (dLst dNil))
    (dSeq (dForT (dVar 8) (bName 6) (dSeq (dIf (dOrT (dNotT (dTr (dApp F_is_common (dCons (dVar 6) (dCons (dVar 3) (dCons (dVar 4) dNil)))))) (dOrT (dTr (dBin fEq (dApp fLen (dCons (dVar 6) dNil)) (dC (.int 0)))) (dNotT (dTr (dApp F_goes_on (dCons (dVar 6) (dCons (dVar 3) (dCons (dVar 4) (dCons (dC (.bl true)) dNil))))))))) (dRet (dC (.bl false))) dNext)
    (dExp (dMeth fExtT (dVar 5) (dCons (dVar 6) dNil)))))
    (dRet (dAnd (dBin fEq (dApp fLen (dCons (dVar 5) dNil)) (dUn fLenSet (dVar 5))) (dBin fEq (dApp fLen (dCons (dVar 5) dNil)) (dApp fLen (dCons (dLc itTup (dVar 0) (bName 9) (dTr (dBin fInN (dVar 9) (dVar 4))) (dVar 9) [9]) dNil)))))))))))))
def F_lets_row : DF := dFn 3 10 S_lets_row
end VW

/-! viewwood k93: printed by gen.py: meanings (S_, F_) of the defs, group 4. -/
namespace VW
open PySem PySem.Spec PyProof.Rows L2
abbrev s_is_kept : Stmt := topS 38
abbrev N_is_kept : List Str := ["old", "new", "label", "k", "j"]
def S_is_kept : DS :=
  (dSeq (dAsg (bName 3) (dApp F_place_of (dCons (dVar 0) (dCons (dVar 2) dNil))))
    (dSeq (dAsg (bName 4) (dApp F_place_of (dCons (dVar 1) (dCons (dVar 2) dNil))))
    (dRet (dAnd (dBin fNotN (dVar 3) (dC .non)) (dAnd (dBin fNotN (dVar 4) (dC .non)) (dBin fEq (dBin fIx (dBin fIx (dBin fIx (dVar 0) (dVar 3)) (dC (.int 1))) (dC (.int 0))) (dBin fIx (dBin fIx (dBin fIx (dVar 1) (dVar 4)) (dC (.int 1))) (dC (.int 0)))))))))
def F_is_kept : DF := dFn 3 5 S_is_kept
abbrev s_kept_labels : Stmt := topS 39
abbrev N_kept_labels : List Str := ["row", "old", "new", "one"]
def S_kept_labels : DS :=
  (dRet (dLc itTup (dVar 0) (bName 3) (dTr (dApp F_is_kept (dCons (dVar 1) (dCons (dVar 2) (dCons (dBin fIx (dVar 3) (dC (.int 0))) dNil))))) (dBin fIx (dVar 3) (dC (.int 0))) [3]))
def F_kept_labels : DF := dFn 3 4 S_kept_labels
abbrev s_kept_below : Stmt := topS 40
abbrev N_kept_below : List Str := ["old", "new", "address", "found", "label", "inner"]
def S_kept_below (self : DF) : DS :=
  (dSeq (dAsg (bName 3) (dLst (dCons (dVar 2) dNil)))
    (dSeq (dForL (dApp F_kept_labels (dCons (dVar 0) (dCons (dVar 0) (dCons (dVar 1) dNil)))) (bName 4) (dSeq (dAsg (bName 5) (dBin fIx (dBin fIx (dBin fIx (dVar 0) (dApp F_place_of (dCons (dVar 0) (dCons (dVar 4) dNil)))) (dC (.int 1))) (dC (.int 3))))
    (dExp (dMeth fExtend (dVar 3) (dCons (dApp self (dCons (dVar 5) (dCons (dBin fIx (dBin fIx (dBin fIx (dVar 1) (dApp F_place_of (dCons (dVar 1) (dCons (dVar 4) dNil)))) (dC (.int 1))) (dC (.int 3))) (dCons (dBin fAdd (dVar 2) (dTup (dCons (dVar 4) dNil))) dNil)))) dNil)))))
    (dRet (dVar 3))))
def F_kept_below : Nat → DF
  | 0 => fun _ _ => none
  | n + 1 => dFn 3 6 (S_kept_below (F_kept_below n))
abbrev s_kept : Stmt := topS 41
abbrev N_kept : List Str := ["old", "new"]
def S_kept : DS :=
  (dRet (dApp (F_kept_below 4) (dCons (dVar 0) (dCons (dVar 1) (dCons (dTup dNil) dNil)))))
def F_kept : DF := dFn 2 2 S_kept
abbrev s_fill_deeds : Stmt := topS 42
abbrev N_fill_deeds : List Str := ["deeds", "address", "box", "k", "tag", "sets", "hands", "row", "name", "number", "label", "inner"]
def S_fill_deeds (self : DF) : DS :=
  (dSeq (dAsg (bTup 4 (bCons (bName 4) (bCons (bName 5) (bCons (bName 6) (bCons (bName 7) bNil))))) (dVar 2))
    (dSeq (dForT (dVar 5) (bTup 2 (bCons (bName 8) (bCons (bName 9) bNil))) (dExp (dMeth fAppend (dVar 0) (dCons (dTup (dCons (dC (.str "set")) (dCons (dVar 1) (dCons (dVar 8) (dCons (dVar 9) dNil))))) dNil))))
    (dSeq (dIf (dTr (dBin fNe (dVar 6) (dTup dNil))) (dExp (dMeth fAppend (dVar 0) (dCons (dTup (dCons (dC (.str "hands")) (dCons (dVar 1) (dCons (dVar 6) dNil)))) dNil))) dNext)
    (dForR1 (dCons (dApp fLen (dCons (dVar 7) dNil)) dNil) (bName 3) (dSeq (dAsg (bTup 2 (bCons (bName 10) (bCons (bName 11) bNil))) (dBin fIx (dVar 7) (dVar 3)))
    (dSeq (dExp (dMeth fAppend (dVar 0) (dCons (dTup (dCons (dC (.str "put")) (dCons (dVar 1) (dCons (dVar 3) (dCons (dVar 10) (dCons (dBin fIx (dVar 11) (dC (.int 0))) dNil)))))) dNil)))
    (dExp (dApp self (dCons (dVar 0) (dCons (dBin fAdd (dVar 1) (dTup (dCons (dVar 10) dNil))) (dCons (dVar 11) dNil)))))))))))
def F_fill_deeds : Nat → DF
  | 0 => fun _ _ => none
  | n + 1 => dFn 3 12 (S_fill_deeds (F_fill_deeds n))
abbrev s_box_deeds : Stmt := topS 43
abbrev N_box_deeds : List Str := ["deeds", "address", "old", "new", "before", "behind", "name", "number"]
def S_box_deeds : DS :=
  (dSeq (dAsg (bName 4) (dApp fDict (dCons (dBin fIx (dVar 2) (dC (.int 1))) dNil)))
    (dSeq (dAsg (bName 5) (dApp fDict (dCons (dBin fIx (dVar 3) (dC (.int 1))) dNil)))
    (dSeq (dForD (dVar 4) (bName 6) (dIf (dTr (dBin fNinD (dVar 6) (dVar 5))) (dExp (dMeth fAppend (dVar 0) (dCons (dTup (dCons (dC (.str "unset")) (dCons (dVar 1) (dCons (dVar 6) dNil)))) dNil))) dNext))
    (dSeq (dForT (dBin fIx (dVar 3) (dC (.int 1))) (bTup 2 (bCons (bName 6) (bCons (bName 7) bNil))) (dIf (dOrT (dTr (dBin fNinD (dVar 6) (dVar 4))) (dTr (dBin fNe (dBin fIxD (dVar 4) (dVar 6)) (dVar 7)))) (dExp (dMeth fAppend (dVar 0) (dCons (dTup (dCons (dC (.str "set")) (dCons (dVar 1) (dCons (dVar 6) (dCons (dVar 7) dNil))))) dNil))) dNext))
    (dIf (dTr (dBin fNe (dBin fIx (dVar 2) (dC (.int 2))) (dBin fIx (dVar 3) (dC (.int 2))))) (dExp (dMeth fAppend (dVar 0) (dCons (dTup (dCons (dC (.str "hands")) (dCons (dVar 1) (dCons (dBin fIx (dVar 3) (dC (.int 2))) dNil)))) dNil))) dNext)))))
def F_box_deeds : DF := dFn 4 8 S_box_deeds
abbrev s_place_behind : Stmt := topS 44
abbrev N_place_behind : List Str := ["now", "new", "k"]
def S_place_behind : DS :=
  (dSeq (dIf (dTr (dBin fEq (dVar 2) (dC (.int 0)))) (dRet (dC (.int 0))) dNext)
    (dRet (dBin fAdd (dMeth fIndex (dVar 0) (dCons (dBin fIx (dBin fIx (dVar 1) (dBin fSub (dVar 2) (dC (.int 1)))) (dC (.int 0))) dNil)) (dC (.int 1)))))
def F_place_behind : DF := dFn 3 3 S_place_behind
abbrev s_order_deeds : Stmt := topS 45
abbrev N_order_deeds : List Str := ["deeds", "address", "old", "new", "stays", "now", "one", "mine", "k", "label", "box", "place"]
def S_order_deeds : DS :=
  (dSeq (dAsg (bName 5) (dApp F_kept_labels (dCons (dVar 2) (dCons (dVar 2) (dCons (dVar 3) dNil)))))
    (dSeq (dForT (dVar 2) (bName 6) (dIf (dTr (dBin fNinS (dBin fIx (dVar 6) (dC (.int 0))) (dVar 5))) (dExp (dMeth fAppend (dVar 0) (dCons (dTup (dCons (dC (.str "take")) (dCons (dVar 1) (dCons (dBin fIx (dVar 6) (dC (.int 0))) dNil)))) dNil))) dNext))
    (dSeq (dAsg (bName 7) (dApp fList (dCons (dVar 5) dNil)))
    (dForR1 (dCons (dApp fLen (dCons (dVar 3) dNil)) dNil) (bName 8) (dSeq (dAsg (bTup 2 (bCons (bName 9) (bCons (bName 10) bNil))) (dBin fIx (dVar 3) (dVar 8)))
    (dIf (dTr (dBin fNinS (dVar 9) (dVar 7))) (dSeq (dAsg (bName 11) (dApp F_place_behind (dCons (dVar 5) (dCons (dVar 3) (dCons (dVar 8) dNil)))))
    (dSeq (dExp (dMeth fAppend (dVar 0) (dCons (dTup (dCons (dC (.str "put")) (dCons (dVar 1) (dCons (dVar 11) (dCons (dVar 9) (dCons (dBin fIx (dVar 10) (dC (.int 0))) dNil)))))) dNil)))
    (dSeq (dExp (dApp (F_fill_deeds 4) (dCons (dVar 0) (dCons (dBin fAdd (dVar 1) (dTup (dCons (dVar 9) dNil))) (dCons (dVar 10) dNil)))))
    (dExp (dMeth fInsert (dVar 5) (dCons (dVar 11) (dCons (dVar 9) dNil))))))) (dIf (dTr (dBin fNinS (dVar 9) (dVar 4))) (dSeq (dExp (dMeth fRemove (dVar 5) (dCons (dVar 9) dNil)))
    (dSeq (dAsg (bName 11) (dApp F_place_behind (dCons (dVar 5) (dCons (dVar 3) (dCons (dVar 8) dNil)))))
    (dSeq (dExp (dMeth fAppend (dVar 0) (dCons (dTup (dCons (dC (.str "move")) (dCons (dVar 1) (dCons (dVar 9) (dCons (dVar 11) dNil))))) dNil)))
    (dExp (dMeth fInsert (dVar 5) (dCons (dVar 11) (dCons (dVar 9) dNil))))))) dNext)))))))
def F_order_deeds : DF := dFn 5 12 S_order_deeds
abbrev s_row_deeds : Stmt := topS 46
abbrev N_row_deeds : List Str := ["deeds", "rows", "address", "old", "new", "mine", "label", "stays", "falls", "one", "other"]
def S_row_deeds (self : DF) : DS :=
  (dSeq (dAsg (bName 5) (dApp F_kept_labels (dCons (dVar 3) (dCons (dVar 3) (dCons (dVar 4) dNil)))))
    (dSeq (dAsg (bTup 2 (bCons (bName 7) (bCons (bName 8) bNil))) (dApp F_row_paper (dCons (dApp fTuple (dCons (dVar 5) dNil)) (dCons (dApp fTuple (dCons (dApp F_kept_labels (dCons (dVar 4) (dCons (dVar 3) (dCons (dVar 4) dNil)))) dNil)) dNil))))
    (dSeq (dExp (dMeth fAppend (dVar 1) (dCons (dTup (dCons (dVar 2) (dCons (dVar 7) (dCons (dVar 8) dNil)))) dNil)))
    (dSeq (dExp (dApp F_order_deeds (dCons (dVar 0) (dCons (dVar 2) (dCons (dVar 3) (dCons (dVar 4) (dCons (dVar 7) dNil)))))))
    (dForL (dVar 5) (bName 6) (dSeq (dAsg (bName 9) (dBin fIx (dBin fIx (dVar 3) (dApp F_place_of (dCons (dVar 3) (dCons (dVar 6) dNil)))) (dC (.int 1))))
    (dSeq (dAsg (bName 10) (dBin fIx (dBin fIx (dVar 4) (dApp F_place_of (dCons (dVar 4) (dCons (dVar 6) dNil)))) (dC (.int 1))))
    (dSeq (dExp (dApp F_box_deeds (dCons (dVar 0) (dCons (dBin fAdd (dVar 2) (dTup (dCons (dVar 6) dNil))) (dCons (dVar 9) (dCons (dVar 10) dNil))))))
    (dExp (dApp self (dCons (dVar 0) (dCons (dVar 1) (dCons (dBin fAdd (dVar 2) (dTup (dCons (dVar 6) dNil))) (dCons (dBin fIx (dVar 9) (dC (.int 3))) (dCons (dBin fIx (dVar 10) (dC (.int 3))) dNil)))))))))))))))
def F_row_deeds : Nat → DF
  | 0 => fun _ _ => none
  | n + 1 => dFn 5 11 (S_row_deeds (F_row_deeds n))
abbrev s_paper_of : Stmt := topS 47
abbrev N_paper_of : List Str := ["old", "new", "deeds", "rows"]
def S_paper_of : DS :=
  (dSeq (dAsg (bName 2) (dLst dNil))
    (dSeq (dAsg (bName 3) (dLst dNil))
    (dSeq (dExp (dApp (F_row_deeds 4) (dCons (dVar 2) (dCons (dVar 3) (dCons (dTup dNil) (dCons (dVar 0) (dCons (dVar 1) dNil)))))))
    (dRet (dTup (dCons (dApp fTuple (dCons (dVar 2) dNil)) (dCons (dApp fTuple (dCons (dVar 3) dNil)) dNil)))))))
def F_paper_of : DF := dFn 2 4 S_paper_of
end VW

/-! viewwood k93: printed by gen.py: meanings (S_, F_) of the defs, group 5. -/
namespace VW
open PySem PySem.Spec PyProof.Rows L2
abbrev s_is_row_paper : Stmt := topS 49
abbrev N_is_row_paper : List Str := ["thing"]
def S_is_row_paper : DS :=
  (dRet (dAnd (dUn (fIsi "tuple") (dVar 0)) (dAnd (dBin fEq (dApp fLen (dCons (dVar 0) dNil)) (dC (.int 3))) (dApp F_is_address (dCons (dBin fIx (dVar 0) (dC (.int 0))) dNil)))))
def F_is_row_paper : DF := dFn 1 1 S_is_row_paper
abbrev s_is_paper : Stmt := topS 50
abbrev N_is_paper : List Str := ["thing", "deed", "row"]
def S_is_paper : DS :=
  (dSeq (dIf (dOrT (dNotT (dTr (dUn (fIsi "tuple") (dVar 0)))) (dTr (dBin fNe (dApp fLen (dCons (dVar 0) dNil)) (dC (.int 2))))) (dRet (dC (.bl false))) dNext)
    (dSeq (dIf (dOrT (dNotT (dTr (dUn (fIsi "tuple") (dBin fIx (dVar 0) (dC (.int 0)))))) (dNotT (dTr (dUn (fIsi "tuple") (dBin fIx (dVar 0) (dC (.int 1))))))) (dRet (dC (.bl false))) dNext)
    (dRet (dAnd (dApp fAll (dCons (dLc itTup (dBin fIx (dVar 0) (dC (.int 0))) (bName 1) dYes (dApp F_is_deed (dCons (dVar 1) dNil)) [1]) dNil)) (dApp fAll (dCons (dLc itTup (dBin fIx (dVar 0) (dC (.int 1))) (bName 2) dYes (dApp F_is_row_paper (dCons (dVar 2) dNil)) [2]) dNil))))))
def F_is_paper : DF := dFn 1 3 S_is_paper
abbrev s_leads : Stmt := topS 51
abbrev N_leads : List Str := ["old", "new", "deeds", "found"]
def S_leads : DS :=
  (dSeq (dAsg (bName 3) (dC .non))
    (dSeq (dAsg (bName 3) (dApp F_led (dCons (dVar 0) (dCons (dVar 2) dNil))))
    (dRet (dAnd (dBin fNotN (dVar 3) (dC .non)) (dBin fEq (dVar 3) (dVar 1))))))
def F_leads : DF := dFn 3 4 S_leads
abbrev s_rows_fit : Stmt := topS 52
abbrev N_rows_fit : List Str := ["old", "new", "rows", "addresses", "address", "stays", "falls", "one", "other", "mine", "row"]
def S_rows_fit : DS :=
  (dSeq (dAsg (bName 3) (dLc itTup (dVar 2) (bName 10) dYes (dBin fIx (dVar 10) (dC (.int 0))) [10]))
    (dSeq (dIf (dOrT (dTr (dBin fNe (dUn fLenSet (dVar 3)) (dApp fLen (dCons (dVar 3) dNil)))) (dTr (dSetNe (dVar 3) (dApp F_kept (dCons (dVar 0) (dCons (dVar 1) dNil)))))) (dRet (dC (.bl false))) dNext)
    (dSeq (dForT (dVar 2) (bTup 3 (bCons (bName 4) (bCons (bName 5) (bCons (bName 6) bNil)))) (dSeq (dAsg (bName 7) (dApp F_row_found (dCons (dVar 0) (dCons (dVar 4) dNil))))
    (dSeq (dAsg (bName 8) (dApp F_row_found (dCons (dVar 1) (dCons (dVar 4) dNil))))
    (dSeq (dAsg (bName 9) (dApp fTuple (dCons (dApp F_kept_labels (dCons (dVar 7) (dCons (dVar 7) (dCons (dVar 8) dNil)))) dNil)))
    (dIf (dNotT (dTr (dApp F_lets_row (dCons (dVar 9) (dCons (dApp fTuple (dCons (dApp F_kept_labels (dCons (dVar 8) (dCons (dVar 7) (dCons (dVar 8) dNil)))) dNil)) (dCons (dTup (dCons (dVar 5) (dCons (dVar 6) dNil))) dNil)))))) (dRet (dC (.bl false))) dNext)))))
    (dRet (dC (.bl true))))))
def F_rows_fit : DF := dFn 3 11 S_rows_fit
abbrev s_mark_of : Stmt := topS 53
abbrev N_mark_of : List Str := ["deed"]
def S_mark_of : DS :=
  (dSeq (dIf (dTr (dBin fEq (dBin fIx (dVar 0) (dC (.int 0))) (dC (.str "put")))) (dRet (dTup (dCons (dC (.str "put")) (dCons (dBin fIx (dVar 0) (dC (.int 1))) (dCons (dBin fIx (dVar 0) (dC (.int 3))) dNil))))) dNext)
    (dSeq (dIf (dTr (dBin fEq (dBin fIx (dVar 0) (dC (.int 0))) (dC (.str "hands")))) (dRet (dTup (dCons (dC (.str "hands")) (dCons (dBin fIx (dVar 0) (dC (.int 1))) (dCons (dC (.str "")) dNil))))) dNext)
    (dSeq (dIf (dTr (dBin fEq (dBin fIx (dVar 0) (dC (.int 0))) (dC (.str "unset")))) (dRet (dTup (dCons (dC (.str "set")) (dCons (dBin fIx (dVar 0) (dC (.int 1))) (dCons (dBin fIx (dVar 0) (dC (.int 2))) dNil))))) dNext)
    (dRet (dTup (dCons (dBin fIx (dVar 0) (dC (.int 0))) (dCons (dBin fIx (dVar 0) (dC (.int 1))) (dCons (dBin fIx (dVar 0) (dC (.int 2))) dNil))))))))
def F_mark_of : DF := dFn 1 1 S_mark_of
abbrev s_row_deed_fits : Stmt := topS 54
abbrev N_row_deed_fits : List Str := ["old", "new", "deed", "stays", "one", "other"]
def S_row_deed_fits : DS :=
  (dSeq (dAsg (bName 4) (dApp F_row_found (dCons (dVar 0) (dCons (dBin fIx (dVar 2) (dC (.int 1))) dNil))))
    (dSeq (dAsg (bName 5) (dApp F_row_found (dCons (dVar 1) (dCons (dBin fIx (dVar 2) (dC (.int 1))) dNil))))
    (dSeq (dIf (dTr (dBin fEq (dBin fIx (dVar 2) (dC (.int 0))) (dC (.str "put")))) (dRet (dAnd (dBin fNotN (dApp F_place_of (dCons (dVar 5) (dCons (dBin fIx (dVar 2) (dC (.int 3))) dNil))) (dC .non)) (dNot (dApp F_is_kept (dCons (dVar 4) (dCons (dVar 5) (dCons (dBin fIx (dVar 2) (dC (.int 3))) dNil))))))) dNext)
    (dSeq (dIf (dTr (dBin fEq (dBin fIx (dVar 2) (dC (.int 0))) (dC (.str "take")))) (dRet (dAnd (dBin fNotN (dApp F_place_of (dCons (dVar 4) (dCons (dBin fIx (dVar 2) (dC (.int 2))) dNil))) (dC .non)) (dNot (dApp F_is_kept (dCons (dVar 4) (dCons (dVar 5) (dCons (dBin fIx (dVar 2) (dC (.int 2))) dNil))))))) dNext)
    (dRet (dAnd (dApp F_is_kept (dCons (dVar 4) (dCons (dVar 5) (dCons (dBin fIx (dVar 2) (dC (.int 2))) dNil)))) (dBin fNinS (dBin fIx (dVar 2) (dC (.int 2))) (dVar 3))))))))
def F_row_deed_fits : DF := dFn 4 6 S_row_deed_fits
abbrev s_box_deed_fits : Stmt := topS 55
abbrev N_box_deed_fits : List Str := ["old", "new", "deed", "one", "other", "before", "behind"]
def S_box_deed_fits : DS :=
  (dSeq (dAsg (bName 3) (dApp F_box_found (dCons (dVar 0) (dCons (dBin fIx (dVar 2) (dC (.int 1))) dNil))))
    (dSeq (dAsg (bName 4) (dApp F_box_found (dCons (dVar 1) (dCons (dBin fIx (dVar 2) (dC (.int 1))) dNil))))
    (dSeq (dIf (dTr (dBin fEq (dBin fIx (dVar 2) (dC (.int 0))) (dC (.str "hands")))) (dRet (dBin fNe (dBin fIx (dVar 3) (dC (.int 2))) (dBin fIx (dVar 4) (dC (.int 2))))) dNext)
    (dSeq (dAsg (bName 5) (dApp fDict (dCons (dBin fIx (dVar 3) (dC (.int 1))) dNil)))
    (dSeq (dAsg (bName 6) (dApp fDict (dCons (dBin fIx (dVar 4) (dC (.int 1))) dNil)))
    (dSeq (dIf (dTr (dBin fEq (dBin fIx (dVar 2) (dC (.int 0))) (dC (.str "unset")))) (dRet (dBin fNinD (dBin fIx (dVar 2) (dC (.int 2))) (dVar 6))) dNext)
    (dSeq (dIf (dTr (dBin fNinD (dBin fIx (dVar 2) (dC (.int 2))) (dVar 6))) (dRet (dC (.bl false))) dNext)
    (dRet (dOr (dBin fNinD (dBin fIx (dVar 2) (dC (.int 2))) (dVar 5)) (dBin fNe (dBin fIxD (dVar 5) (dBin fIx (dVar 2) (dC (.int 2)))) (dBin fIxD (dVar 6) (dBin fIx (dVar 2) (dC (.int 2))))))))))))))
def F_box_deed_fits : DF := dFn 3 7 S_box_deed_fits
abbrev s_fill_deed_fits : Stmt := topS 56
abbrev N_fill_deed_fits : List Str := ["new", "deed", "box", "name", "number"]
def S_fill_deed_fits : DS :=
  (dSeq (dAsg (bName 2) (dApp F_box_found (dCons (dVar 0) (dCons (dBin fIx (dVar 1) (dC (.int 1))) dNil))))
    (dSeq (dIf (dTr (dBin fIsN (dVar 2) (dC .non))) (dRet (dC (.bl false))) dNext)
    (dSeq (dIf (dTr (dBin fEq (dBin fIx (dVar 1) (dC (.int 0))) (dC (.str "put")))) (dRet (dBin fNotN (dApp F_place_of (dCons (dBin fIx (dVar 2) (dC (.int 3))) (dCons (dBin fIx (dVar 1) (dC (.int 3))) dNil))) (dC .non))) dNext)
    (dSeq (dIf (dTr (dBin fEq (dBin fIx (dVar 1) (dC (.int 0))) (dC (.str "set")))) (dRet (dBin fInS (dBin fIx (dVar 1) (dC (.int 2))) (dLc itTup (dBin fIx (dVar 2) (dC (.int 1))) (bTup 2 (bCons (bName 3) (bCons (bName 4) bNil))) dYes (dVar 3) [3, 4]))) dNext)
    (dRet (dAnd (dBin fEq (dBin fIx (dVar 1) (dC (.int 0))) (dC (.str "hands"))) (dBin fNe (dBin fIx (dVar 2) (dC (.int 2))) (dTup dNil))))))))
def F_fill_deed_fits : DF := dFn 2 5 S_fill_deed_fits
abbrev s_lets_by : Stmt := topS 57
abbrev N_lets_by : List Str := ["old", "new", "paper", "stays_at", "row", "seen", "deed", "fits"]
def S_lets_by : DS :=
  (dSeq (dIf (dOrT (dNotT (dTr (dApp F_is_paper (dCons (dVar 2) dNil)))) (dOrT (dNotT (dTr (dApp F_leads (dCons (dVar 0) (dCons (dVar 1) (dCons (dBin fIx (dVar 2) (dC (.int 0))) dNil)))))) (dNotT (dTr (dApp F_rows_fit (dCons (dVar 0) (dCons (dVar 1) (dCons (dBin fIx (dVar 2) (dC (.int 1))) dNil)))))))) (dRet (dC (.bl false))) dNext)
    (dSeq (dAsg (bName 3) dDNew)
    (dSeq (dForT (dBin fIx (dVar 2) (dC (.int 1))) (bName 4) (dPut fPutN (dVar 3) (dBin fIx (dVar 4) (dC (.int 0))) (dBin fIx (dVar 4) (dC (.int 1)))))
    (dSeq (dAsg (bName 5) dDNew)
    (dSeq (dForT (dBin fIx (dVar 2) (dC (.int 0))) (bName 6) (dSeq (dIf (dTr (dBin fInN (dApp F_mark_of (dCons (dVar 6) dNil)) (dVar 5))) (dRet (dC (.bl false))) dNext)
    (dSeq (dPut fPutN (dVar 5) (dApp F_mark_of (dCons (dVar 6) dNil)) (dC (.bl true)))
    (dSeq (dIf (dTr (dBin fNinN (dBin fIx (dVar 6) (dC (.int 1))) (dVar 3))) (dAsg (bName 7) (dApp F_fill_deed_fits (dCons (dVar 1) (dCons (dVar 6) dNil)))) (dIf (dTr (dBin fInS (dBin fIx (dVar 6) (dC (.int 0))) (dTup (dCons (dC (.str "put")) (dCons (dC (.str "take")) (dCons (dC (.str "move")) dNil)))))) (dAsg (bName 7) (dApp F_row_deed_fits (dCons (dVar 0) (dCons (dVar 1) (dCons (dVar 6) (dCons (dBin fIxN (dVar 3) (dBin fIx (dVar 6) (dC (.int 1)))) dNil)))))) (dAsg (bName 7) (dApp F_box_deed_fits (dCons (dVar 0) (dCons (dVar 1) (dCons (dVar 6) dNil)))))))
    (dIf (dNotT (dTr (dVar 7))) (dRet (dC (.bl false))) dNext)))))
    (dRet (dC (.bl true))))))))
def F_lets_by : DF := dFn 3 8 S_lets_by
end VW

/-! viewwood k93: printed by gen.py: meanings (S_, F_) of the defs, group 6. -/
namespace VW
open PySem PySem.Spec PyProof.Rows L2
abbrev s_law_tape : Stmt := topS 59
abbrev N_law_tape : List Str := ["_law_script"]
def S_law_tape : DS :=
  (dRet (dLst (dCons (dVar 0) (dCons (dC (.int 0)) (dCons (dC (.int 0)) (dCons (dC (.int 0)) dNil))))))
def F_law_tape : DF := dFn 1 1 S_law_tape
abbrev s_law_draw : Stmt := topS 60
abbrev N_law_draw : List Str := ["_law_tape_here", "_law_many", "_law_script", "_law_cell", "_law_mixed", "_law_digit"]
def S_law_draw : DS :=
  (dSeq (dAsg (bName 2) (dBin fIx (dVar 0) (dC (.int 0))))
    (dSeq (dPut fPutL (dVar 0) (dC (.int 1)) (dBin fAdd (dBin fIx (dVar 0) (dC (.int 1))) (dC (.int 1))))
    (dSeq (dIf (dAndT (dTr (dBin fEq (dBin fIx (dVar 0) (dC (.int 2))) (dC (.int 0)))) (dTr (dBin fLt (dBin fIx (dVar 0) (dC (.int 3))) (dApp fLen (dCons (dVar 2) dNil))))) (dSeq (dPut fPutL (dVar 0) (dC (.int 2)) (dBin fDiv (dApp fAbs (dCons (dBin fIx (dVar 2) (dBin fIx (dVar 0) (dC (.int 3)))) dNil)) (dBin fPow (dC (.int 10)) (dC (.int 18)))))
    (dPut fPutL (dVar 0) (dC (.int 3)) (dBin fAdd (dBin fIx (dVar 0) (dC (.int 3))) (dC (.int 1))))) dNext)
    (dSeq (dIf (dTr (dBin fGt (dBin fIx (dVar 0) (dC (.int 2))) (dC (.int 0)))) (dSeq (dAsg (bName 5) (dBin fMod (dBin fIx (dVar 0) (dC (.int 2))) (dVar 1)))
    (dSeq (dPut fPutL (dVar 0) (dC (.int 2)) (dBin fDiv (dBin fIx (dVar 0) (dC (.int 2))) (dVar 1)))
    (dRet (dVar 5)))) dNext)
    (dSeq (dAsg (bName 3) (dC (.int 0)))
    (dSeq (dIf (dTr (dBin fGt (dApp fLen (dCons (dVar 2) dNil)) (dC (.int 0)))) (dAsg (bName 3) (dBin fIx (dVar 2) (dBin fMod (dBin fIx (dVar 0) (dC (.int 1))) (dApp fLen (dCons (dVar 2) dNil))))) dNext)
    (dSeq (dAsg (bName 4) (dBin fMod (dBin fAdd (dBin fAdd (dBin fMul (dBin fMod (dVar 3) (dC (.int 2147483647))) (dC (.int 48271))) (dBin fMul (dBin fIx (dVar 0) (dC (.int 1))) (dC (.int 7919)))) (dC (.int 12345))) (dC (.int 2147483629))))
    (dSeq (dAsg (bName 4) (dBin fMod (dBin fMul (dVar 4) (dBin fAdd (dVar 4) (dC (.int 40692)))) (dC (.int 2147483587))))
    (dRet (dBin fMod (dBin fMod (dBin fMul (dVar 4) (dC (.int 16807))) (dC (.int 2147483563))) (dVar 1)))))))))))
def F_law_draw : DF := dFn 2 6 S_law_draw
abbrev s_law_kept : Stmt := topS 61
abbrev N_law_kept : List Str := ["_law_old", "_law_new", "_law_found", "_law_label", "_law_box", "_law_one", "_law_other", "_law_address"]
def S_law_kept (self : DF) : DS :=
  (dSeq (dAsg (bName 2) (dLst (dCons (dTup dNil) dNil)))
    (dSeq (dForT (dVar 0) (bTup 2 (bCons (bName 3) (bCons (bName 4) bNil))) (dForT (dVar 1) (bTup 2 (bCons (bName 5) (bCons (bName 6) bNil))) (dIf (dAndT (dTr (dBin fEq (dVar 5) (dVar 3))) (dTr (dBin fEq (dBin fIx (dVar 6) (dC (.int 0))) (dBin fIx (dVar 4) (dC (.int 0)))))) (dAsg (bName 2) (dBin fAdd (dVar 2) (dLc itLst (dApp self (dCons (dBin fIx (dVar 4) (dC (.int 3))) (dCons (dBin fIx (dVar 6) (dC (.int 3))) dNil))) (bName 7) dYes (dBin fAdd (dTup (dCons (dVar 3) dNil)) (dVar 7)) [7]))) dNext)))
    (dRet (dVar 2))))
def F_law_kept : Nat → DF
  | 0 => fun _ _ => none
  | n + 1 => dFn 2 8 (S_law_kept (F_law_kept n))
abbrev s_law_labels : Stmt := topS 62
abbrev N_law_labels : List Str := ["_law_tape_here", "_law_found", "_law_k", "_law_key", "_law_label"]
def S_law_labels : DS :=
  (dSeq (dAsg (bName 1) (dLst dNil))
    (dSeq (dForR1 (dCons (dC (.int 7)) dNil) (bName 2) (dSeq (dAsg (bName 3) (dBin fIx (dLst (dCons (dC .non) (dCons (dVar 2) (dCons (dBin fMul (dUn fNeg (dC (.int 7))) (dVar 2)) (dCons (dBin fSub (dBin fPow (dC (.int 10)) (dC (.int 9))) (dVar 2)) (dCons (dC (.int 3)) dNil)))))) (dApp F_law_draw (dCons (dVar 0) (dCons (dC (.int 5)) dNil)))))
    (dSeq (dAsg (bName 4) (dTup (dCons (dTup (dCons (dVar 3) (dCons (dVar 2) dNil))) dNil)))
    (dSeq (dIf (dTr (dBin fEq (dApp F_law_draw (dCons (dVar 0) (dCons (dC (.int 3)) dNil))) (dC (.int 0)))) (dAsg (bName 4) (dTup (dCons (dTup (dCons (dC (.int 3)) (dCons (dC (.int 0)) dNil))) (dCons (dTup (dCons (dVar 3) (dCons (dVar 2) dNil))) dNil)))) dNext)
    (dExp (dMeth fAppend (dVar 1) (dCons (dVar 4) dNil)))))))
    (dRet (dVar 1))))
def F_law_labels : DF := dFn 1 5 S_law_labels
abbrev s_law_some_row : Stmt := topS 63
abbrev N_law_some_row : List Str := ["_law_tape_here", "_law_labels_here", "_law_left", "_law_row", "_law_k", "_law_label", "_law_sets", "_law_inner"]
def S_law_some_row : DS :=
  (dSeq (dAsg (bName 2) (dApp fList (dCons (dVar 1) dNil)))
    (dSeq (dAsg (bName 3) (dLst dNil))
    (dSeq (dForR1 (dCons (dApp F_law_draw (dCons (dVar 0) (dCons (dC (.int 6)) dNil))) dNil) (bName 4) (dSeq (dAsg (bName 5) (dMeth fPopAt (dVar 2) (dCons (dApp F_law_draw (dCons (dVar 0) (dCons (dApp fLen (dCons (dVar 2) dNil)) dNil))) dNil)))
    (dSeq (dAsg (bName 6) (dTup dNil))
    (dSeq (dIf (dTr (dBin fEq (dApp F_law_draw (dCons (dVar 0) (dCons (dC (.int 2)) dNil))) (dC (.int 0)))) (dAsg (bName 6) (dTup (dCons (dTup (dCons (dC (.str "ab")) (dCons (dApp F_law_draw (dCons (dVar 0) (dCons (dC (.int 3)) dNil))) dNil))) dNil))) dNext)
    (dSeq (dAsg (bName 7) (dTup dNil))
    (dSeq (dIf (dTr (dBin fEq (dApp F_law_draw (dCons (dVar 0) (dCons (dC (.int 3)) dNil))) (dC (.int 0)))) (dAsg (bName 7) (dTup (dCons (dTup (dCons (dTup (dCons (dTup (dCons (dC .non) (dCons (dC (.int 0)) dNil))) dNil)) (dCons (dTup (dCons (dC (.str "b")) (dCons (dTup dNil) (dCons (dTup dNil) (dCons (dTup dNil) dNil))))) dNil))) dNil))) dNext)
    (dExp (dMeth fAppend (dVar 3) (dCons (dTup (dCons (dVar 5) (dCons (dTup (dCons (dBin fIx (dLst (dCons (dC (.str "a")) (dCons (dC (.str "a")) (dCons (dC (.str "a")) (dCons (dC (.str "b")) dNil))))) (dApp F_law_draw (dCons (dVar 0) (dCons (dC (.int 4)) dNil)))) (dCons (dVar 6) (dCons (dTup dNil) (dCons (dVar 7) dNil))))) dNil))) dNil)))))))))
    (dRet (dApp fTuple (dCons (dVar 3) dNil))))))
def F_law_some_row : DF := dFn 2 8 S_law_some_row
abbrev s_law_fewest : Stmt := topS 64
abbrev N_law_fewest : List Str := ["_law_begin", "_law_end", "_law_orders", "_law_many", "_law_met", "_law_later", "_law_order", "_law_at", "_law_rest", "_law_to", "_law_other"]
def S_law_fewest : DS :=
  (dSeq (dAsg (bName 2) (dLst (dCons (dVar 0) dNil)))
    (dSeq (dAsg (bName 3) (dC (.int 0)))
    (dSeq (dAsg (bName 4) (dDis (dVar 0) (dC (.bl true))))
    (dSeq (dWhile (dTr (dBin fNinS (dVar 1) (dVar 2))) (dSeq (dAsg (bName 5) (dLst dNil))
    (dSeq (dForL (dVar 2) (bName 6) (dForR1 (dCons (dApp fLen (dCons (dVar 6) dNil)) dNil) (bName 7) (dSeq (dAsg (bName 8) (dBin fAdd (dSlice (dVar 6) dNoP (dPart (dVar 7))) (dSlice (dVar 6) (dPart (dBin fAdd (dVar 7) (dC (.int 1)))) dNoP)))
    (dForR1 (dCons (dApp fLen (dCons (dVar 6) dNil)) dNil) (bName 9) (dSeq (dAsg (bName 10) (dBin fAdd (dBin fAdd (dSlice (dVar 8) dNoP (dPart (dVar 9))) (dSlice (dVar 6) (dPart (dVar 7)) (dPart (dBin fAdd (dVar 7) (dC (.int 1)))))) (dSlice (dVar 8) (dPart (dVar 9)) dNoP)))
    (dIf (dTr (dBin fNinN (dVar 10) (dVar 4))) (dSeq (dPut fPutN (dVar 4) (dVar 10) (dC (.bl true)))
    (dExp (dMeth fAppend (dVar 5) (dCons (dVar 10) dNil)))) dNext))))))
    (dSeq (dAsg (bName 2) (dVar 5))
    (dAsg (bName 3) (dBin fAdd (dVar 3) (dC (.int 1))))))) 30)
    (dRet (dVar 3))))))
def F_law_fewest : DF := dFn 2 11 S_law_fewest
abbrev s_law : Stmt := topS 65
abbrev N_law : List Str := ["_law_script", "_law_tape_here", "_law_labels_here", "_law_old", "_law_new", "_law_same", "_law_ahead", "_law_later", "_law_fewest_here", "_law_paper", "_law_here", "_law_many", "_law_told", "_law_deed", "_law_word", "_law_label", "_law_box"]
def S_law : DS :=
  (dSeq (dAsg (bName 1) (dApp F_law_tape (dCons (dVar 0) dNil)))
    (dSeq (dAsg (bName 2) (dApp F_law_labels (dCons (dVar 1) dNil)))
    (dSeq (dAsg (bName 3) (dApp F_law_some_row (dCons (dVar 1) (dCons (dVar 2) dNil))))
    (dSeq (dAsg (bName 4) (dApp F_law_some_row (dCons (dVar 1) (dCons (dVar 2) dNil))))
    (dSeq (dAsg (bName 5) (dApp (F_law_kept 4) (dCons (dVar 3) (dCons (dVar 4) dNil))))
    (dSeq (dAsg (bName 6) (dApp fTuple (dCons (dLc itTup (dVar 3) (bTup 2 (bCons (bName 15) (bCons (bName 16) bNil))) (dTr (dBin fInS (dTup (dCons (dVar 15) dNil)) (dVar 5))) (dVar 15) [15, 16]) dNil)))
    (dSeq (dAsg (bName 7) (dApp fTuple (dCons (dLc itTup (dVar 4) (bTup 2 (bCons (bName 15) (bCons (bName 16) bNil))) (dTr (dBin fInS (dTup (dCons (dVar 15) dNil)) (dVar 5))) (dVar 15) [15, 16]) dNil)))
    (dSeq (dAsg (bName 8) (dApp F_law_fewest (dCons (dVar 6) (dCons (dVar 7) dNil))))
    (dSeq (dAsg (bName 9) (dApp F_paper_of (dCons (dVar 3) (dCons (dVar 4) dNil))))
    (dSeq (dIf (dTr (dBin fNotB (dApp F_lets_by (dCons (dVar 3) (dCons (dVar 4) (dCons (dVar 9) dNil)))) (dC (.bl true)))) (dRet (dC (.bl false))) dNext)
    (dSeq (dAsg (bName 10) (dLc itTup (dBin fIx (dVar 9) (dC (.int 0))) (bName 13) (dTr (dBin fEq (dBin fIx (dVar 13) (dC (.int 1))) (dTup dNil))) (dVar 13) [13]))
    (dSeq (dAsg (bName 11) (dLc itLst (dLst (dCons (dC (.str "move")) (dCons (dC (.str "take")) (dCons (dC (.str "put")) dNil)))) (bName 14) dYes (dApp fLen (dCons (dLc itLst (dVar 10) (bName 13) (dTr (dBin fEq (dBin fIx (dVar 13) (dC (.int 0))) (dVar 14))) (dVar 13) [13]) dNil)) [14]))
    (dSeq (dIf (dTr (dBin fNe (dVar 11) (dLst (dCons (dVar 8) (dCons (dBin fSub (dApp fLen (dCons (dVar 3) dNil)) (dApp fLen (dCons (dVar 6) dNil))) (dCons (dBin fSub (dApp fLen (dCons (dVar 4) dNil)) (dApp fLen (dCons (dVar 7) dNil))) dNil)))))) (dRet (dC (.bl false))) dNext)
    (dSeq (dIf (dTr (dBin fNe (dLc itLst (dVar 10) (bName 13) (dAndT (dTr (dBin fEq (dBin fIx (dVar 13) (dC (.int 0))) (dC (.str "take")))) (dTr (dBin fInS (dBin fIx (dVar 13) (dC (.int 2))) (dVar 6)))) (dVar 13) [13]) (dLst dNil))) (dRet (dC (.bl false))) dNext)
    (dSeq (dAsg (bName 12) (dApp F_row_paper (dCons (dVar 6) (dCons (dVar 7) dNil))))
    (dRet (dAnd (dBin fIsB (dApp F_lets_row (dCons (dVar 6) (dCons (dVar 7) (dCons (dVar 12) dNil)))) (dC (.bl true))) (dBin fEq (dApp fLen (dCons (dBin fIx (dVar 12) (dC (.int 0))) dNil)) (dBin fSub (dApp fLen (dCons (dVar 6) dNil)) (dVar 8))))))))))))))))))))
def F_law : DF := dFn 1 17 S_law
end VW

/-! viewwood k93: printed by gen.py: each def has its meaning, group 1. -/
namespace VW
open PySem PySem.Spec PyProof.Rows L2
section
variable {P : Program} {w : World} {K : PySem.W.Frag} {mg : Str → Option Value} {base : Heap} {g : Gs}
theorem sc_is_whole : FnScope N_is_whole ["thing"] (defScope s_is_whole) := ⟨rfl, rfl, rfl, by decide +kernel, rfl, by decide +kernel, by decide +kernel⟩
theorem ok_is_whole {f : Addr} {fd : FuncData} (Fu : Fun K "is_whole" "is_whole" s_is_whole f fd) (hm : mg "is_whole" = some (.ref f)) (B : Bl mg) : Dn P w K mg base g "is_whole" ["thing"] 1 F_is_whole := by
  refine Dn.mk' Fu hm (Fu.binds fun _ _ _ _ _ _ us hl => match us, hl with | [_], _ => rfl) sc_is_whole fun cdv A outer s H E hr => ?_
  have nd := sc_is_whole.nd
  exact (dss_one (ds_ret (de_and (de_isi B.isi B.int (de_var 0) boot_int') (de_one (de_not (de_isi B.isi B.bool (de_var 0) boot_bool'))))))
theorem sc_is_number : FnScope N_is_number ["thing"] (defScope s_is_number) := ⟨rfl, rfl, rfl, by decide +kernel, rfl, by decide +kernel, by decide +kernel⟩
theorem ok_is_number {f : Addr} {fd : FuncData} (Fu : Fun K "is_number" "is_number" s_is_number f fd) (hm : mg "is_number" = some (.ref f)) (B : Bl mg) (gG : ∃ t, mg "GREATEST" = some (.int 1000000000 t)) (D_is_whole : Dn P w K mg base g "is_whole" ["thing"] 1 F_is_whole) : Dn P w K mg base g "is_number" ["thing"] 2 F_is_number := by
  refine Dn.mk' Fu hm (Fu.binds fun _ _ _ _ _ _ us hl => match us, hl with | [_], _ => rfl) sc_is_number fun cdv A outer s H E hr => ?_
  have nd := sc_is_number.nd
  exact (dss_one (ds_ret (de_and (de_call D_is_whole (hr.mono (by omega)) (by rfl) (da_cons (de_var 0) da_nil)) (de_one (de_chain op_le se_le op_le se_le (de_op op_sub se_sub de_int (de_globI (by rfl) gG)) (de_var 0) (de_globI (by rfl) gG))))))
theorem sc_is_name : FnScope N_is_name ["thing"] (defScope s_is_name) := ⟨rfl, rfl, rfl, by decide +kernel, rfl, by decide +kernel, by decide +kernel⟩
theorem ok_is_name {f : Addr} {fd : FuncData} (Fu : Fun K "is_name" "is_name" s_is_name f fd) (hm : mg "is_name" = some (.ref f)) (B : Bl mg) (gL : ∃ t, mg "LETTERS" = some (.str "abcdefghijklmnopqrstuvwxyz" t)) : Dn P w K mg base g "is_name" ["thing"] 1 F_is_name := by
  refine Dn.mk' Fu hm (Fu.binds fun _ _ _ _ _ _ us hl => match us, hl with | [_], _ => rfl) sc_is_name fun cdv A outer s H E hr => ?_
  have nd := sc_is_name.nd
  exact (dss_cons (ds_if (PW.pt (dw_or (dt_not (dt_val (de_isi B.isi B.str (de_var 0) boot_str'))) (dw_or (dt_cmp op_lt se_lt (de_callB call_len_str se_lenT (by rfl) B.len PySem.boot_len (da_cons (de_var 0) da_nil)) de_int (nomark _)) (dw_or1 (dt_cmp op_gt se_gt (de_callB call_len_str se_lenT (by rfl) B.len PySem.boot_len (da_cons (de_var 0) da_nil)) de_int (nomark _)))))) (dss_one (ds_ret de_bl)) dss_nil)
      (dss_one (ds_ret (de_callB (cr_all rfl) se_all (by rfl) B.all boot_all (da_cons (de_lcS (de_var 0) (blk0 (own := [("sign", 1)]) rfl nd (blkOk_by (N := N_is_name) (sc := _) (by kernel_rfl)) (sg_name 1) (by decide) (fun _ _ _ _ _ => by exact (pg_name (i := 1) nd rfl (by first | exact Or.inl rfl | exact Or.inr rfl))) (fun _ _ _ _ _ => by exact (de_cmp op_inT se_inT (de_var 1) (de_globS (by rfl) gL) (by with_unfolding_all rfl))))) da_nil)))))
theorem sc_is_count : FnScope N_is_count ["thing"] (defScope s_is_count) := ⟨rfl, rfl, rfl, by decide +kernel, rfl, by decide +kernel, by decide +kernel⟩
theorem ok_is_count {f : Addr} {fd : FuncData} (Fu : Fun K "is_count" "is_count" s_is_count f fd) (hm : mg "is_count" = some (.ref f)) (B : Bl mg) : Dn P w K mg base g "is_count" ["thing"] 1 F_is_count := by
  refine Dn.mk' Fu hm (Fu.binds fun _ _ _ _ _ _ us hl => match us, hl with | [_], _ => rfl) sc_is_count fun cdv A outer s H E hr => ?_
  have nd := sc_is_count.nd
  exact (dss_one (ds_ret (de_and (de_isi B.isi B.int (de_var 0) boot_int') (de_and (de_not (de_isi B.isi B.bool (de_var 0) boot_bool')) (de_one (de_cmp op_ge se_ge (de_var 0) de_int (nomark _)))))))
theorem sc_is_spot : FnScope N_is_spot ["thing"] (defScope s_is_spot) := ⟨rfl, rfl, rfl, by decide +kernel, rfl, by decide +kernel, by decide +kernel⟩
theorem ok_is_spot {f : Addr} {fd : FuncData} (Fu : Fun K "is_spot" "is_spot" s_is_spot f fd) (hm : mg "is_spot" = some (.ref f)) (B : Bl mg) (D_is_count : Dn P w K mg base g "is_count" ["thing"] 1 F_is_count) (D_is_number : Dn P w K mg base g "is_number" ["thing"] 2 F_is_number) : Dn P w K mg base g "is_spot" ["thing"] 3 F_is_spot := by
  refine Dn.mk' Fu hm (Fu.binds fun _ _ _ _ _ _ us hl => match us, hl with | [_], _ => rfl) sc_is_spot fun cdv A outer s H E hr => ?_
  have nd := sc_is_spot.nd
  have hu64 : (A.deeper (envOfC "is_spot" (defScope s_is_spot) s.heap.objs.size f cdv)).units + 64 < cLine := by have := hr.un; omega
  exact (dss_cons (ds_if (PW.pt (dw_or (dt_not (dt_val (de_isi B.isi B.tuple (de_var 0) boot_tuple))) (dw_or1 (dt_cmp (op_neD hu64) se_ne (de_callB call_len_seq se_len (by rfl) B.len PySem.boot_len (da_cons (de_var 0) da_nil)) de_int (nomark _))))) (dss_one (ds_ret de_bl)) dss_nil)
      (dss_one (ds_ret (de_and (de_or (de_cmp op_isN se_isN (de_ix ix_both se_ix (de_var 0) de_int) de_non (nomark _)) (de_one (de_call D_is_number (hr.mono (by omega)) (by rfl) (da_cons (de_ix ix_both se_ix (de_var 0) de_int) da_nil)))) (de_one (de_call D_is_count (hr.mono (by omega)) (by rfl) (da_cons (de_ix ix_both se_ix (de_var 0) de_int) da_nil)))))))
theorem sc_is_path : FnScope N_is_path ["thing"] (defScope s_is_path) := ⟨rfl, rfl, rfl, by decide +kernel, rfl, by decide +kernel, by decide +kernel⟩
theorem ok_is_path {f : Addr} {fd : FuncData} (Fu : Fun K "is_path" "is_path" s_is_path f fd) (hm : mg "is_path" = some (.ref f)) (B : Bl mg) (D_is_spot : Dn P w K mg base g "is_spot" ["thing"] 3 F_is_spot) : Dn P w K mg base g "is_path" ["thing"] 4 F_is_path := by
  refine Dn.mk' Fu hm (Fu.binds fun _ _ _ _ _ _ us hl => match us, hl with | [_], _ => rfl) sc_is_path fun cdv A outer s H E hr => ?_
  have nd := sc_is_path.nd
  exact (dss_one (ds_ret (de_and (de_isi B.isi B.tuple (de_var 0) boot_tuple) (de_one (de_callB (cr_all rfl) se_all (by rfl) B.all boot_all (da_cons (de_lcT (de_var 0) (blk0 (own := [("one", 1)]) rfl nd (blkOk_by (N := N_is_path) (sc := _) (by kernel_rfl)) (sg_name 1) (by decide) (fun _ _ _ _ _ => by exact (pg_name (i := 1) nd rfl (by first | exact Or.inl rfl | exact Or.inr rfl))) (fun _ _ _ _ _ => by exact (de_call D_is_spot (hr.mono (by omega)) (by rfl) (da_cons (de_var 1) da_nil))))) da_nil))))))
theorem sc_is_label : FnScope N_is_label ["thing"] (defScope s_is_label) := ⟨rfl, rfl, rfl, by decide +kernel, rfl, by decide +kernel, by decide +kernel⟩
theorem ok_is_label {f : Addr} {fd : FuncData} (Fu : Fun K "is_label" "is_label" s_is_label f fd) (hm : mg "is_label" = some (.ref f)) (B : Bl mg) (D_is_path : Dn P w K mg base g "is_path" ["thing"] 4 F_is_path) : Dn P w K mg base g "is_label" ["thing"] 5 F_is_label := by
  refine Dn.mk' Fu hm (Fu.binds fun _ _ _ _ _ _ us hl => match us, hl with | [_], _ => rfl) sc_is_label fun cdv A outer s H E hr => ?_
  have nd := sc_is_label.nd
  exact (dss_one (ds_ret (de_and (de_call D_is_path (hr.mono (by omega)) (by rfl) (da_cons (de_var 0) da_nil)) (de_one (de_cmp op_gt se_gt (de_callB call_len_seq se_len (by rfl) B.len PySem.boot_len (da_cons (de_var 0) da_nil)) de_int (nomark _))))))
theorem sc_is_address : FnScope N_is_address ["thing"] (defScope s_is_address) := ⟨rfl, rfl, rfl, by decide +kernel, rfl, by decide +kernel, by decide +kernel⟩
theorem ok_is_address {f : Addr} {fd : FuncData} (Fu : Fun K "is_address" "is_address" s_is_address f fd) (hm : mg "is_address" = some (.ref f)) (B : Bl mg) (D_is_label : Dn P w K mg base g "is_label" ["thing"] 5 F_is_label) : Dn P w K mg base g "is_address" ["thing"] 6 F_is_address := by
  refine Dn.mk' Fu hm (Fu.binds fun _ _ _ _ _ _ us hl => match us, hl with | [_], _ => rfl) sc_is_address fun cdv A outer s H E hr => ?_
  have nd := sc_is_address.nd
  exact (dss_one (ds_ret (de_and (de_isi B.isi B.tuple (de_var 0) boot_tuple) (de_one (de_callB (cr_all rfl) se_all (by rfl) B.all boot_all (da_cons (de_lcT (de_var 0) (blk0 (own := [("one", 1)]) rfl nd (blkOk_by (N := N_is_address) (sc := _) (by kernel_rfl)) (sg_name 1) (by decide) (fun _ _ _ _ _ => by exact (pg_name (i := 1) nd rfl (by first | exact Or.inl rfl | exact Or.inr rfl))) (fun _ _ _ _ _ => by exact (de_call D_is_label (hr.mono (by omega)) (by rfl) (da_cons (de_var 1) da_nil))))) da_nil))))))
theorem sc_is_deed : FnScope N_is_deed ["thing"] (defScope s_is_deed) := ⟨rfl, rfl, rfl, by decide +kernel, rfl, by decide +kernel, by decide +kernel⟩
theorem ok_is_deed {f : Addr} {fd : FuncData} (Fu : Fun K "is_deed" "is_deed" s_is_deed f fd) (hm : mg "is_deed" = some (.ref f)) (B : Bl mg) (LF : LenF K w mg) (D_is_number : Dn P w K mg base g "is_number" ["thing"] 2 F_is_number) (D_is_name : Dn P w K mg base g "is_name" ["thing"] 1 F_is_name) (D_is_label : Dn P w K mg base g "is_label" ["thing"] 5 F_is_label) (D_is_address : Dn P w K mg base g "is_address" ["thing"] 6 F_is_address) : Dn P w K mg base g "is_deed" ["thing"] 7 F_is_deed := by
  refine Dn.mk' Fu hm (Fu.binds fun _ _ _ _ _ _ us hl => match us, hl with | [_], _ => rfl) sc_is_deed fun cdv A outer s H E hr => ?_
  have nd := sc_is_deed.nd
  have hu64 : (A.deeper (envOfC "is_deed" (defScope s_is_deed) s.heap.objs.size f cdv)).units + 64 < cLine := by have := hr.un; omega
  exact (dss_cons (ds_if (PW.pt (dw_or (dt_not (dt_val (de_isi B.isi B.tuple (de_var 0) boot_tuple))) (dw_or (dt_cmp (op_eqD hu64) se_eq (de_callB call_len_seq se_len (by rfl) B.len PySem.boot_len (da_cons (de_var 0) da_nil)) de_int (nomark _)) (dw_or1 (dt_not (dt_val (de_isi B.isi B.str (de_ix ix_both se_ix (de_var 0) de_int) boot_str'))))))) (dss_one (ds_ret de_bl)) dss_nil)
      (dss_cons (ds_if (PW.pt (dw_or (dt_ninL LF (de_ix ix_both se_ix (de_var 0) de_int)) (dw_or (dt_cmp (op_neD hu64) se_ne (de_callB call_len_seq se_len (by rfl) B.len PySem.boot_len (da_cons (de_var 0) da_nil)) (de_ixL LF (de_ix ix_both se_ix (de_var 0) de_int)) (nomark _)) (dw_or1 (dt_not (dt_val (de_call D_is_address (hr.mono (by omega)) (by rfl) (da_cons (de_ix ix_both se_ix (de_var 0) de_int) da_nil)))))))) (dss_one (ds_ret de_bl)) dss_nil)
      (dss_cons (ds_if (dt_cmp (op_eqD hu64) se_eq (de_ix ix_both se_ix (de_var 0) de_int) de_str (nomark _)) (dss_one (ds_ret (de_and (de_call D_is_number (hr.mono (by omega)) (by rfl) (da_cons (de_ix ix_both se_ix (de_var 0) de_int) da_nil)) (de_and (de_call D_is_label (hr.mono (by omega)) (by rfl) (da_cons (de_ix ix_both se_ix (de_var 0) de_int) da_nil)) (de_one (de_call D_is_name (hr.mono (by omega)) (by rfl) (da_cons (de_ix ix_both se_ix (de_var 0) de_int) da_nil))))))) dss_nil)
      (dss_cons (ds_if (dt_cmp (op_eqD hu64) se_eq (de_ix ix_both se_ix (de_var 0) de_int) de_str (nomark _)) (dss_one (ds_ret (de_call D_is_label (hr.mono (by omega)) (by rfl) (da_cons (de_ix ix_both se_ix (de_var 0) de_int) da_nil)))) dss_nil)
      (dss_cons (ds_if (dt_cmp (op_eqD hu64) se_eq (de_ix ix_both se_ix (de_var 0) de_int) de_str (nomark _)) (dss_one (ds_ret (de_and (de_call D_is_label (hr.mono (by omega)) (by rfl) (da_cons (de_ix ix_both se_ix (de_var 0) de_int) da_nil)) (de_one (de_call D_is_number (hr.mono (by omega)) (by rfl) (da_cons (de_ix ix_both se_ix (de_var 0) de_int) da_nil)))))) dss_nil)
      (dss_cons (ds_if (dt_cmp (op_eqD hu64) se_eq (de_ix ix_both se_ix (de_var 0) de_int) de_str (nomark _)) (dss_one ds_never) dss_nil)
      (dss_one (ds_ret (de_and (de_call D_is_name (hr.mono (by omega)) (by rfl) (da_cons (de_ix ix_both se_ix (de_var 0) de_int) da_nil)) (de_one (de_or (de_cmp (op_eqD hu64) se_eq (de_ix ix_both se_ix (de_var 0) de_int) de_str (nomark _)) (de_one (de_call D_is_number (hr.mono (by omega)) (by rfl) (da_cons (de_ix ix_both se_ix (de_var 0) de_int) da_nil))))))))))))))
end
end VW

/-! viewwood k93: printed by gen.py: each def has its meaning, group 2. -/
namespace VW
open PySem PySem.Spec PyProof.Rows L2
section
variable {P : Program} {w : World} {K : PySem.W.Frag} {mg : Str → Option Value} {base : Heap} {g : Gs}
theorem sc_place_of : FnScope N_place_of ["row", "label"] (defScope s_place_of) := ⟨rfl, rfl, rfl, by decide +kernel, rfl, by decide +kernel, by decide +kernel⟩
theorem ok_place_of {f : Addr} {fd : FuncData} (Fu : Fun K "place_of" "place_of" s_place_of f fd) (hm : mg "place_of" = some (.ref f)) (B : Bl mg) : Dn P w K mg base g "place_of" ["row", "label"] 1 F_place_of := by
  refine Dn.mk' Fu hm (Fu.binds fun _ _ _ _ _ _ us hl => match us, hl with | [_, _], _ => rfl) sc_place_of fun cdv A outer s H E hr => ?_
  have nd := sc_place_of.nd
  have hu64 : (A.deeper (envOfC "place_of" (defScope s_place_of) s.heap.objs.size f cdv)).units + 64 < cLine := by have := hr.un; omega
  exact (dss_cons (ds_forR1 rfl B.range (da_cons (de_callB call_len_seq se_len (by rfl) B.len PySem.boot_len (da_cons (de_var 0) da_nil)) da_nil) (dg_name nd (i := 2)) (dss_one (ds_if (dt_cmp (op_eqD hu64) se_eq (de_ix ix_both se_ix (de_ix ix_both se_ix (de_var 0) (de_var 2)) de_int) (de_var 1) (nomark _)) (dss_one (ds_ret (de_var 2))) dss_nil)))
      (dss_one (ds_ret de_non)))
theorem sc_box_found : FnScope N_box_found ["tree", "address"] (defScope s_box_found) := ⟨rfl, rfl, rfl, by decide +kernel, rfl, by decide +kernel, by decide +kernel⟩
theorem ok_box_found {f : Addr} {fd : FuncData} (Fu : Fun K "box_found" "box_found" s_box_found f fd) (hm : mg "box_found" = some (.ref f)) (B : Bl mg) (D_place_of : Dn P w K mg base g "place_of" ["row", "label"] 1 F_place_of) : Dn P w K mg base g "box_found" ["tree", "address"] 2 F_box_found := by
  refine Dn.mk' Fu hm (Fu.binds fun _ _ _ _ _ _ us hl => match us, hl with | [_, _], _ => rfl) sc_box_found fun cdv A outer s H E hr => ?_
  have nd := sc_box_found.nd
  exact (dss_cons (ds_set (i := 2) nd (de_var 0))
      (dss_cons (ds_set (i := 3) nd de_non)
      (dss_cons (ds_forT rfl (de_var 1) (dg_name nd (i := 4)) (dss_cons (ds_set (i := 5) nd (de_call D_place_of (hr.mono (by omega)) (by rfl) (da_cons (de_var 2) (da_cons (de_var 4) da_nil))))
      (dss_cons (ds_if (dt_cmp op_isN se_isN (de_var 5) de_non (nomark _)) (dss_one (ds_ret de_non)) dss_nil)
      (dss_cons (ds_set (i := 3) nd (de_ix ix_both se_ix (de_ix ix_both se_ix (de_var 2) (de_var 5)) de_int))
      (dss_one (ds_set (i := 2) nd (de_ix ix_both se_ix (de_var 3) de_int)))))))
      (dss_one (ds_ret (de_var 3))))))
theorem sc_row_found : FnScope N_row_found ["tree", "address"] (defScope s_row_found) := ⟨rfl, rfl, rfl, by decide +kernel, rfl, by decide +kernel, by decide +kernel⟩
theorem ok_row_found {f : Addr} {fd : FuncData} (Fu : Fun K "row_found" "row_found" s_row_found f fd) (hm : mg "row_found" = some (.ref f)) (B : Bl mg) (D_box_found : Dn P w K mg base g "box_found" ["tree", "address"] 2 F_box_found) : Dn P w K mg base g "row_found" ["tree", "address"] 3 F_row_found := by
  refine Dn.mk' Fu hm (Fu.binds fun _ _ _ _ _ _ us hl => match us, hl with | [_, _], _ => rfl) sc_row_found fun cdv A outer s H E hr => ?_
  have nd := sc_row_found.nd
  have hu64 : (A.deeper (envOfC "row_found" (defScope s_row_found) s.heap.objs.size f cdv)).units + 64 < cLine := by have := hr.un; omega
  exact (dss_cons (ds_if (dt_cmp (op_eqD hu64) se_eq (de_var 1) (de_tup da_nil) (nomark _)) (dss_one (ds_ret (de_var 0))) dss_nil)
      (dss_cons (ds_set (i := 2) nd (de_call D_box_found (hr.mono (by omega)) (by rfl) (da_cons (de_var 0) (da_cons (de_var 1) da_nil))))
      (dss_cons (ds_if (dt_cmp op_isN se_isN (de_var 2) de_non (nomark _)) (dss_one (ds_ret de_non)) dss_nil)
      (dss_one (ds_ret (de_ix ix_both se_ix (de_var 2) de_int))))))
theorem sc_with_box : FnScope N_with_box ["row", "address", "box"] (defScope s_with_box) := ⟨rfl, rfl, rfl, by decide +kernel, rfl, by decide +kernel, by decide +kernel⟩
theorem ok_with_box {f : Addr} {fd : FuncData} (Fu : Fun K "with_box" "with_box" s_with_box f fd) (hm : mg "with_box" = some (.ref f)) (B : Bl mg) (D_place_of : Dn P w K mg base g "place_of" ["row", "label"] 1 F_place_of) : Dn P w K mg base g "with_box" ["row", "address", "box"] 2 F_with_box := by
  refine Dn.mk' Fu hm (Fu.binds fun _ _ _ _ _ _ us hl => match us, hl with | [_, _, _], _ => rfl) sc_with_box fun cdv A outer s H E hr => ?_
  have nd := sc_with_box.nd
  exact (dss_cons (ds_set (i := 3) nd (de_call D_place_of (hr.mono (by omega)) (by rfl) (da_cons (de_var 0) (da_cons (de_ix ix_both se_ix (de_var 1) de_int) da_nil))))
      (dss_cons (ds_if (dt_cmp op_gt se_gt (de_callB call_len_seq se_len (by rfl) B.len PySem.boot_len (da_cons (de_var 1) da_nil)) de_int (nomark _)) (dss_cons ds_never
      (dss_one ds_never)) dss_nil)
      (dss_one (ds_ret (de_op op_addA se_add (de_op op_addA se_add (de_slice (de_var 0) do_none (do_some (de_var 3))) (de_tup (da_cons (de_tup (da_cons (de_ix ix_both se_ix (de_var 1) de_int) (da_cons (de_var 2) da_nil))) da_nil))) (de_slice (de_var 0) (do_some (de_op op_addA se_add (de_var 3) de_int)) do_none))))))
theorem sc_with_row : FnScope N_with_row ["tree", "address", "row"] (defScope s_with_row) := ⟨rfl, rfl, rfl, by decide +kernel, rfl, by decide +kernel, by decide +kernel⟩
theorem ok_with_row {f : Addr} {fd : FuncData} (Fu : Fun K "with_row" "with_row" s_with_row f fd) (hm : mg "with_row" = some (.ref f)) (B : Bl mg) (D_with_box : Dn P w K mg base g "with_box" ["row", "address", "box"] 2 F_with_box) (D_box_found : Dn P w K mg base g "box_found" ["tree", "address"] 2 F_box_found) : Dn P w K mg base g "with_row" ["tree", "address", "row"] 3 F_with_row := by
  refine Dn.mk' Fu hm (Fu.binds fun _ _ _ _ _ _ us hl => match us, hl with | [_, _, _], _ => rfl) sc_with_row fun cdv A outer s H E hr => ?_
  have nd := sc_with_row.nd
  have hu64 : (A.deeper (envOfC "with_row" (defScope s_with_row) s.heap.objs.size f cdv)).units + 64 < cLine := by have := hr.un; omega
  exact (dss_cons (ds_if (dt_cmp (op_eqD hu64) se_eq (de_var 1) (de_tup da_nil) (nomark _)) (dss_one (ds_ret (de_var 2))) dss_nil)
      (dss_cons (ds_asg (de_call D_box_found (hr.mono (by omega)) (by rfl) (da_cons (de_var 0) (da_cons (de_var 1) da_nil))) (dg_tup rfl (dg_cons (dg_name nd (i := 3)) (dg_cons (dg_name nd (i := 4)) (dg_cons (dg_name nd (i := 5)) (dg_cons (dg_name nd (i := 6)) dg_nil))))))
      (dss_one (ds_ret (de_call D_with_box (hr.mono (by omega)) (by rfl) (da_cons (de_var 0) (da_cons (de_var 1) (da_cons (de_tup (da_cons (de_var 3) (da_cons (de_var 4) (da_cons (de_var 5) (da_cons (de_var 2) da_nil))))) da_nil))))))))
theorem sc_turned_row : FnScope N_turned_row ["row", "deed"] (defScope s_turned_row) := ⟨rfl, rfl, rfl, by decide +kernel, rfl, by decide +kernel, by decide +kernel⟩
theorem ok_turned_row {f : Addr} {fd : FuncData} (Fu : Fun K "turned_row" "turned_row" s_turned_row f fd) (hm : mg "turned_row" = some (.ref f)) (B : Bl mg) (D_place_of : Dn P w K mg base g "place_of" ["row", "label"] 1 F_place_of) : Dn P w K mg base g "turned_row" ["row", "deed"] 2 F_turned_row := by
  refine Dn.mk' Fu hm (Fu.binds fun _ _ _ _ _ _ us hl => match us, hl with | [_, _], _ => rfl) sc_turned_row fun cdv A outer s H E hr => ?_
  have nd := sc_turned_row.nd
  have hu64 : (A.deeper (envOfC "turned_row" (defScope s_turned_row) s.heap.objs.size f cdv)).units + 64 < cLine := by have := hr.un; omega
  exact (dss_cons (ds_if (dt_cmp (op_eqD hu64) se_eq (de_ix ix_both se_ix (de_var 1) de_int) de_str (nomark _)) (dss_cons (ds_asg (de_var 1) (dg_tup rfl (dg_cons (dg_name nd (i := 5)) (dg_cons (dg_name nd (i := 6)) (dg_cons (dg_name nd (i := 4)) (dg_cons (dg_name nd (i := 7)) (dg_cons (dg_name nd (i := 8)) dg_nil)))))))
      (dss_cons (ds_if (PW.pt (dw_or (dt_cmp op_notN se_notN (de_call D_place_of (hr.mono (by omega)) (by rfl) (da_cons (de_var 0) (da_cons (de_var 7) da_nil))) de_non (nomark _)) (dw_or1 (dt_not (dt_chain op_le se_le op_le se_le de_int (de_var 4) (de_callB call_len_seq se_len (by rfl) B.len PySem.boot_len (da_cons (de_var 0) da_nil))))))) (dss_one (ds_ret de_non)) dss_nil)
      (dss_one (ds_ret (de_op op_addA se_add (de_op op_addA se_add (de_slice (de_var 0) do_none (do_some (de_var 4))) (de_tup (da_cons (de_tup (da_cons (de_var 7) (da_cons (de_tup (da_cons (de_var 8) (da_cons (de_tup da_nil) (da_cons (de_tup da_nil) (da_cons (de_tup da_nil) da_nil))))) da_nil))) da_nil))) (de_slice (de_var 0) (do_some (de_var 4)) do_none)))))) dss_nil)
      (dss_cons (ds_set (i := 2) nd (de_call D_place_of (hr.mono (by omega)) (by rfl) (da_cons (de_var 0) (da_cons (de_ix ix_both se_ix (de_var 1) de_int) da_nil))))
      (dss_cons (ds_if (dt_cmp op_isN se_isN (de_var 2) de_non (nomark _)) (dss_one (ds_ret de_non)) dss_nil)
      (dss_cons (ds_set (i := 3) nd (de_op op_addA se_add (de_slice (de_var 0) do_none (do_some (de_var 2))) (de_slice (de_var 0) (do_some (de_op op_addA se_add (de_var 2) de_int)) do_none)))
      (dss_cons (ds_if (dt_cmp (op_eqD hu64) se_eq (de_ix ix_both se_ix (de_var 1) de_int) de_str (nomark _)) (dss_one (ds_ret (de_var 3))) dss_nil)
      (dss_cons (ds_set (i := 4) nd (de_ix ix_both se_ix (de_var 1) de_int))
      (dss_cons (ds_if (dt_not (dt_chain op_le se_le op_le se_le de_int (de_var 4) (de_callB call_len_seq se_len (by rfl) B.len PySem.boot_len (da_cons (de_var 3) da_nil)))) (dss_one (ds_ret de_non)) dss_nil)
      (dss_one (ds_ret (de_op op_addA se_add (de_op op_addA se_add (de_slice (de_var 3) do_none (do_some (de_var 4))) (de_tup (da_cons (de_ix ix_both se_ix (de_var 0) (de_var 2)) da_nil))) (de_slice (de_var 3) (do_some (de_var 4)) do_none)))))))))))
theorem sc_turned_box : FnScope N_turned_box ["box", "deed"] (defScope s_turned_box) := ⟨rfl, rfl, rfl, by decide +kernel, rfl, by decide +kernel, by decide +kernel⟩
theorem ok_turned_box {f : Addr} {fd : FuncData} (Fu : Fun K "turned_box" "turned_box" s_turned_box f fd) (hm : mg "turned_box" = some (.ref f)) (B : Bl mg) : Dn P w K mg base g "turned_box" ["box", "deed"] 1 F_turned_box := by
  refine Dn.mk' Fu hm (Fu.binds fun _ _ _ _ _ _ us hl => match us, hl with | [_, _], _ => rfl) sc_turned_box fun cdv A outer s H E hr => ?_
  have nd := sc_turned_box.nd
  have hu64 : (A.deeper (envOfC "turned_box" (defScope s_turned_box) s.heap.objs.size f cdv)).units + 64 < cLine := by have := hr.un; omega
  exact (dss_cons (ds_asg (de_var 0) (dg_tup rfl (dg_cons (dg_name nd (i := 3)) (dg_cons (dg_name nd (i := 4)) (dg_cons (dg_name nd (i := 5)) (dg_cons (dg_name nd (i := 6)) dg_nil))))))
      (dss_cons (ds_if (dt_cmp (op_eqD hu64) se_eq (de_ix ix_both se_ix (de_var 1) de_int) de_str (nomark _)) (dss_one (ds_ret (de_tup (da_cons (de_var 3) (da_cons (de_var 4) (da_cons (de_ix ix_both se_ix (de_var 1) de_int) (da_cons (de_var 6) da_nil))))))) dss_nil)
      (dss_cons (ds_lcT (i := 2) (de_var 4) (blk1 (own := [("one", 7)]) rfl nd (blkOk_by (N := N_turned_box) (sc := _) (by kernel_rfl)) (sg_name 7) (by decide) (fun _ _ _ _ _ => by exact (pg_name (i := 7) nd rfl (by first | exact Or.inl rfl | exact Or.inr rfl))) (fun _ _ _ _ _ => by exact (dt_cmp (op_neD hu64) se_ne (de_ix ix_both se_ix (de_var 7) de_int) (de_ix ix_both se_ix (de_var 1) de_int) (nomark _))) (fun _ _ _ _ _ => by exact (de_var 7))) rfl (sw_true rfl rfl rfl (by decide +kernel)))
      (dss_cons (ds_if (dt_cmp (op_eqD hu64) se_eq (de_ix ix_both se_ix (de_var 1) de_int) de_str (nomark _)) (dss_one (ds_ret (de_tup (da_cons (de_var 3) (da_cons (de_callTy call_tupleF se_tuple (by rfl) B.tuple boot_tuple (da_cons (de_callB (call_sort1 hr) seL_of (by rfl) B.sorted boot_sorted (da_cons (de_op op_addA se_add (de_var 2) (de_lst (da_cons (de_tup (da_cons (de_ix ix_both se_ix (de_var 1) de_int) (da_cons (de_ix ix_both se_ix (de_var 1) de_int) da_nil))) da_nil))) da_nil)) da_nil)) (da_cons (de_var 5) (da_cons (de_var 6) da_nil))))))) dss_nil)
      (dss_cons (ds_if (dt_cmp (op_eqD hu64) se_eq (de_callB call_len_seq se_len (by rfl) B.len PySem.boot_len (da_cons (de_var 2) da_nil)) (de_callB call_len_seq se_len (by rfl) B.len PySem.boot_len (da_cons (de_var 4) da_nil)) (nomark _)) (dss_one (ds_ret de_non)) dss_nil)
      (dss_one (ds_ret (de_tup (da_cons (de_var 3) (da_cons (de_callTy call_tupleF se_tuple (by rfl) B.tuple boot_tuple (da_cons (de_var 2) da_nil)) (da_cons (de_var 5) (da_cons (de_var 6) da_nil))))))))))))
theorem sc_turned : FnScope N_turned ["tree", "deed"] (defScope s_turned) := ⟨rfl, rfl, rfl, by decide +kernel, rfl, by decide +kernel, by decide +kernel⟩
theorem ok_turned {f : Addr} {fd : FuncData} (Fu : Fun K "turned" "turned" s_turned f fd) (hm : mg "turned" = some (.ref f)) (B : Bl mg) (D_with_box : Dn P w K mg base g "with_box" ["row", "address", "box"] 2 F_with_box) (D_turned_box : Dn P w K mg base g "turned_box" ["box", "deed"] 1 F_turned_box) (D_box_found : Dn P w K mg base g "box_found" ["tree", "address"] 2 F_box_found) (D_with_row : Dn P w K mg base g "with_row" ["tree", "address", "row"] 3 F_with_row) (D_turned_row : Dn P w K mg base g "turned_row" ["row", "deed"] 2 F_turned_row) (D_row_found : Dn P w K mg base g "row_found" ["tree", "address"] 3 F_row_found) : Dn P w K mg base g "turned" ["tree", "deed"] 4 F_turned := by
  refine Dn.mk' Fu hm (Fu.binds fun _ _ _ _ _ _ us hl => match us, hl with | [_, _], _ => rfl) sc_turned fun cdv A outer s H E hr => ?_
  have nd := sc_turned.nd
  exact (dss_cons (ds_if (dt_cmp (op_inQ hr) se_inS (de_ix ix_both se_ix (de_var 1) de_int) (de_tup (da_cons de_str (da_cons de_str (da_cons de_str da_nil)))) (by with_unfolding_all rfl)) (dss_cons (ds_set (i := 3) nd (de_call D_row_found (hr.mono (by omega)) (by rfl) (da_cons (de_var 0) (da_cons (de_ix ix_both se_ix (de_var 1) de_int) da_nil))))
      (dss_cons (ds_if (dt_cmp op_isN se_isN (de_var 3) de_non (nomark _)) (dss_one (ds_ret de_non)) dss_nil)
      (dss_cons (ds_set (i := 3) nd (de_call D_turned_row (hr.mono (by omega)) (by rfl) (da_cons (de_var 3) (da_cons (de_var 1) da_nil))))
      (dss_cons (ds_if (dt_cmp op_isN se_isN (de_var 3) de_non (nomark _)) (dss_one (ds_ret de_non)) dss_nil)
      (dss_one (ds_ret (de_call D_with_row (hr.mono (by omega)) (by rfl) (da_cons (de_var 0) (da_cons (de_ix ix_both se_ix (de_var 1) de_int) (da_cons (de_var 3) da_nil)))))))))) dss_nil)
      (dss_cons (ds_set (i := 2) nd (de_call D_box_found (hr.mono (by omega)) (by rfl) (da_cons (de_var 0) (da_cons (de_ix ix_both se_ix (de_var 1) de_int) da_nil))))
      (dss_cons (ds_if (dt_cmp op_isN se_isN (de_var 2) de_non (nomark _)) (dss_one (ds_ret de_non)) dss_nil)
      (dss_cons (ds_set (i := 2) nd (de_call D_turned_box (hr.mono (by omega)) (by rfl) (da_cons (de_var 2) (da_cons (de_var 1) da_nil))))
      (dss_cons (ds_if (dt_cmp op_isN se_isN (de_var 2) de_non (nomark _)) (dss_one (ds_ret de_non)) dss_nil)
      (dss_one (ds_ret (de_call D_with_box (hr.mono (by omega)) (by rfl) (da_cons (de_var 0) (da_cons (de_ix ix_both se_ix (de_var 1) de_int) (da_cons (de_var 2) da_nil)))))))))))
theorem sc_led : FnScope N_led ["tree", "deeds"] (defScope s_led) := ⟨rfl, rfl, rfl, by decide +kernel, rfl, by decide +kernel, by decide +kernel⟩
theorem ok_led {f : Addr} {fd : FuncData} (Fu : Fun K "led" "led" s_led f fd) (hm : mg "led" = some (.ref f)) (B : Bl mg) (D_turned : Dn P w K mg base g "turned" ["tree", "deed"] 4 F_turned) : Dn P w K mg base g "led" ["tree", "deeds"] 5 F_led := by
  refine Dn.mk' Fu hm (Fu.binds fun _ _ _ _ _ _ us hl => match us, hl with | [_, _], _ => rfl) sc_led fun cdv A outer s H E hr => ?_
  have nd := sc_led.nd
  exact (dss_cons (ds_forR1 rfl B.range (da_cons (de_callB call_len_seq se_len (by rfl) B.len PySem.boot_len (da_cons (de_var 1) da_nil)) da_nil) (dg_name nd (i := 2)) (dss_cons (ds_set (i := 0) nd (de_call D_turned (hr.mono (by omega)) (by rfl) (da_cons (de_var 0) (da_cons (de_ix ix_both se_ix (de_var 1) (de_var 2)) da_nil))))
      (dss_one (ds_if (dt_cmp op_isN se_isN (de_var 0) de_non (nomark _)) (dss_one ds_never) dss_nil))))
      (dss_one (ds_ret (de_var 0))))
end
end VW

/-! viewwood k93: printed by gen.py: each def has its meaning, group 3. -/
namespace VW
open PySem PySem.Spec PyProof.Rows L2
section
variable {P : Program} {w : World} {K : PySem.W.Frag} {mg : Str → Option Value} {base : Heap} {g : Gs}
theorem sc_places_in : FnScope N_places_in ["row"] (defScope s_places_in) := ⟨rfl, rfl, rfl, by decide +kernel, rfl, by decide +kernel, by decide +kernel⟩
theorem ok_places_in {f : Addr} {fd : FuncData} (Fu : Fun K "places_in" "places_in" s_places_in f fd) (hm : mg "places_in" = some (.ref f)) (B : Bl mg) : Dn P w K mg base g "places_in" ["row"] 1 F_places_in := by
  refine Dn.mk' Fu hm (Fu.binds fun _ _ _ _ _ _ us hl => match us, hl with | [_], _ => rfl) sc_places_in fun cdv A outer s H E hr => ?_
  have nd := sc_places_in.nd
  exact (dss_cons (ds_set (i := 1) nd de_dnew)
      (dss_cons (ds_forR1 rfl B.range (da_cons (de_callB call_len_seq se_len (by rfl) B.len PySem.boot_len (da_cons (de_var 0) da_nil)) da_nil) (dg_name nd (i := 2)) (dss_one (ds_put (de_var 1) (de_ix ix_both se_ix (de_var 0) (de_var 2)) (set_dn hr) sp_of (de_var 2))))
      (dss_one (ds_ret (de_var 1)))))
theorem sc_piles_of : FnScope N_piles_of ["old", "new"] (defScope s_piles_of) := ⟨rfl, rfl, rfl, by decide +kernel, rfl, by decide +kernel, by decide +kernel⟩
theorem ok_piles_of {f : Addr} {fd : FuncData} (Fu : Fun K "piles_of" "piles_of" s_piles_of f fd) (hm : mg "piles_of" = some (.ref f)) (B : Bl mg) (D_places_in : Dn P w K mg base g "places_in" ["row"] 1 F_places_in) : Dn P w K mg base g "piles_of" ["old", "new"] 2 F_piles_of := by
  refine Dn.mk' Fu hm (Fu.binds fun _ _ _ _ _ _ us hl => match us, hl with | [_, _], _ => rfl) sc_piles_of fun cdv A outer s H E hr => ?_
  have nd := sc_piles_of.nd
  have hu64 : (A.deeper (envOfC "piles_of" (defScope s_piles_of) s.heap.objs.size f cdv)).units + 64 < cLine := by have := hr.un; omega
  exact (dss_cons (ds_set (i := 2) nd (de_call D_places_in (hr.mono (by omega)) (by rfl) (da_cons (de_var 1) da_nil)))
      (dss_cons (ds_set (i := 3) nd (de_lst da_nil))
      (dss_cons (ds_set (i := 4) nd de_dnew)
      (dss_cons (ds_forT rfl (de_var 0) (dg_name nd (i := 5)) (dss_one (ds_if (dt_cmp (op_inN hr) se_of (de_var 5) (de_var 2) (by with_unfolding_all rfl)) (dss_cons (ds_set (i := 6) nd de_int)
      (dss_cons (ds_while 30 (PW.pt (dw_and (dt_cmp op_lt se_lt (de_var 6) (de_callB call_len_seq se_len (by rfl) B.len PySem.boot_len (da_cons (de_var 3) da_nil)) (nomark _)) (dw_and1 (dt_cmp op_lt se_lt (de_ix (ix_dn hr) se_of (de_var 2) (de_ix ix_both se_ix (de_ix ix_both se_ix (de_var 3) (de_var 6)) (de_un un_neg se_neg de_int))) (de_ix (ix_dn hr) se_of (de_var 2) (de_var 5)) (nomark _))))) (dss_one (ds_set (i := 6) nd (de_op op_addA se_add (de_var 6) de_int))))
      (dss_cons (ds_if (dt_cmp (op_eqD hu64) se_eq (de_var 6) (de_callB call_len_seq se_len (by rfl) B.len PySem.boot_len (da_cons (de_var 3) da_nil)) (nomark _)) (dss_one (ds_exp (de_meth PySem.F.slot_list_append PySem.F.type_list_append mt_append se_append (de_var 3) (da_cons (de_lst da_nil) da_nil)))) dss_nil)
      (dss_cons (ds_put (de_var 4) (de_var 5) (set_dn hr) sp_of de_non)
      (dss_cons (ds_if (dt_cmp op_gt se_gt (de_var 6) de_int (nomark _)) (dss_one (ds_put (de_var 4) (de_var 5) (set_dn hr) sp_of (de_ix ix_both se_ix (de_ix ix_both se_ix (de_var 3) (de_op op_sub se_sub (de_var 6) de_int)) (de_un un_neg se_neg de_int)))) dss_nil)
      (dss_one (ds_exp (de_meth PySem.F.slot_list_append PySem.F.type_list_append mt_append se_append (de_ix ix_both se_ix (de_var 3) (de_var 6)) (da_cons (de_var 5) da_nil))))))))) dss_nil)))
      (dss_one (ds_ret (de_tup (da_cons (de_var 3) (da_cons (de_var 4) da_nil)))))))))
theorem sc_row_paper : FnScope N_row_paper ["old", "new"] (defScope s_row_paper) := ⟨rfl, rfl, rfl, by decide +kernel, rfl, by decide +kernel, by decide +kernel⟩
theorem ok_row_paper {f : Addr} {fd : FuncData} (Fu : Fun K "row_paper" "row_paper" s_row_paper f fd) (hm : mg "row_paper" = some (.ref f)) (B : Bl mg) (D_piles_of : Dn P w K mg base g "piles_of" ["old", "new"] 2 F_piles_of) : Dn P w K mg base g "row_paper" ["old", "new"] 3 F_row_paper := by
  refine Dn.mk' Fu hm (Fu.binds fun _ _ _ _ _ _ us hl => match us, hl with | [_, _], _ => rfl) sc_row_paper fun cdv A outer s H E hr => ?_
  have nd := sc_row_paper.nd
  exact (dss_cons (ds_asg (de_call D_piles_of (hr.mono (by omega)) (by rfl) (da_cons (de_var 0) (da_cons (de_var 1) da_nil))) (dg_tup rfl (dg_cons (dg_name nd (i := 4)) (dg_cons (dg_name nd (i := 5)) dg_nil))))
      (dss_cons (ds_set (i := 2) nd (de_lst da_nil))
      (dss_cons (ds_set (i := 3) nd de_non)
      (dss_cons (ds_if (dt_cmp op_gt se_gt (de_callB call_len_seq se_len (by rfl) B.len PySem.boot_len (da_cons (de_var 4) da_nil)) de_int (nomark _)) (dss_one (ds_set (i := 3) nd (de_ix ix_both se_ix (de_ix ix_both se_ix (de_var 4) (de_un un_neg se_neg de_int)) (de_un un_neg se_neg de_int)))) dss_nil)
      (dss_cons (ds_while 30 (dt_cmp op_notN se_notN (de_var 3) de_non (nomark _)) (dss_cons (ds_exp (de_meth PySem.F.slot_list_append PySem.F.type_list_append mt_append se_append (de_var 2) (da_cons (de_var 3) da_nil)))
      (dss_one (ds_set (i := 3) nd (de_ix (ix_dn hr) se_of (de_var 5) (de_var 3))))))
      (dss_cons (ds_exp (de_meth0 PySem.F.slot_list_reverse PySem.F.type_list_reverse mt_reverse se_rev (de_var 2)))
      (dss_one (ds_ret (de_tup (da_cons (de_callTy call_tupleF se_tuple (by rfl) B.tuple boot_tuple (da_cons (de_var 2) da_nil)) (da_cons (de_callTy call_tupleF se_tuple (by rfl) B.tuple boot_tuple (da_cons (de_lcL (de_var 4) (blk0 (own := [("pile", 6)]) rfl nd (blkOk_by (N := N_row_paper) (sc := _) (by kernel_rfl)) (sg_name 6) (by decide) (fun _ _ _ _ _ => by exact (pg_name (i := 6) nd rfl (by first | exact Or.inl rfl | exact Or.inr rfl))) (fun _ _ _ _ _ => by exact (de_callTy call_tupleF se_tuple (by rfl) B.tuple boot_tuple (da_cons (de_var 6) da_nil))))) da_nil)) da_nil)))))))))))
theorem sc_is_common : FnScope N_is_common ["thing", "old", "new"] (defScope s_is_common) := ⟨rfl, rfl, rfl, by decide +kernel, rfl, by decide +kernel, by decide +kernel⟩
theorem ok_is_common {f : Addr} {fd : FuncData} (Fu : Fun K "is_common" "is_common" s_is_common f fd) (hm : mg "is_common" = some (.ref f)) (B : Bl mg) (D_is_label : Dn P w K mg base g "is_label" ["thing"] 5 F_is_label) : Dn P w K mg base g "is_common" ["thing", "old", "new"] 6 F_is_common := by
  refine Dn.mk' Fu hm (Fu.binds fun _ _ _ _ _ _ us hl => match us, hl with | [_, _, _], _ => rfl) sc_is_common fun cdv A outer s H E hr => ?_
  have nd := sc_is_common.nd
  exact (dss_cons (ds_if (PW.pt (dw_or (dt_not (dt_val (de_isi B.isi B.tuple (de_var 0) boot_tuple))) (dw_or1 (dt_not (dt_val (de_callB (cr_all rfl) se_all (by rfl) B.all boot_all (da_cons (de_lcT (de_var 0) (blk0 (own := [("label", 3)]) rfl nd (blkOk_by (N := N_is_common) (sc := _) (by kernel_rfl)) (sg_name 3) (by decide) (fun _ _ _ _ _ => by exact (pg_name (i := 3) nd rfl (by first | exact Or.inl rfl | exact Or.inr rfl))) (fun _ _ _ _ _ => by exact (de_call D_is_label (hr.mono (by omega)) (by rfl) (da_cons (de_var 3) da_nil))))) da_nil))))))) (dss_one (ds_ret de_bl)) dss_nil)
      (dss_one (ds_ret (de_callB (cr_all rfl) se_all (by rfl) B.all boot_all (da_cons (de_lcT (de_var 0) (blk0 (own := [("label", 3)]) rfl nd (blkOk_by (N := N_is_common) (sc := _) (by kernel_rfl)) (sg_name 3) (by decide) (fun _ _ _ _ _ => by exact (pg_name (i := 3) nd rfl (by first | exact Or.inl rfl | exact Or.inr rfl))) (fun _ _ _ _ _ => by exact (de_and (de_cmp (op_inN hr) se_of (de_var 3) (de_var 1) (by with_unfolding_all rfl)) (de_one (de_cmp (op_inN hr) se_of (de_var 3) (de_var 2) (by with_unfolding_all rfl))))))) da_nil)))))
theorem sc_goes_on : FnScope N_goes_on ["labels", "old", "new", "falls"] (defScope s_goes_on) := ⟨rfl, rfl, rfl, by decide +kernel, rfl, by decide +kernel, by decide +kernel⟩
theorem ok_goes_on {f : Addr} {fd : FuncData} (Fu : Fun K "goes_on" "goes_on" s_goes_on f fd) (hm : mg "goes_on" = some (.ref f)) (B : Bl mg) : Dn P w K mg base g "goes_on" ["labels", "old", "new", "falls"] 1 F_goes_on := by
  refine Dn.mk' Fu hm (Fu.binds fun _ _ _ _ _ _ us hl => match us, hl with | [_, _, _, _], _ => rfl) sc_goes_on fun cdv A outer s H E hr => ?_
  have nd := sc_goes_on.nd
  have hu64 : (A.deeper (envOfC "goes_on" (defScope s_goes_on) s.heap.objs.size f cdv)).units + 64 < cLine := by have := hr.un; omega
  exact (dss_cons (ds_forR2 rfl B.range (da_cons de_int (da_cons (de_callB call_len_seq se_len (by rfl) B.len PySem.boot_len (da_cons (de_var 0) da_nil)) da_nil)) (dg_name nd (i := 4)) (dss_cons (ds_par (i := 5) (j := 6) rfl nd (da_cons (de_ix ix_both se_ix (de_var 0) (de_op op_sub se_sub (de_var 4) de_int)) (da_cons (de_ix ix_both se_ix (de_var 0) (de_var 4)) da_nil)))
      (dss_one (ds_if (PW.pt (dw_or (dt_cmp op_ge se_ge (de_ix (ix_dn hr) se_of (de_var 1) (de_var 5)) (de_ix (ix_dn hr) se_of (de_var 1) (de_var 6)) (nomark _)) (dw_or (dt_cmp (op_eqD hu64) se_eq (de_ix (ix_dn hr) se_of (de_var 2) (de_var 5)) (de_ix (ix_dn hr) se_of (de_var 2) (de_var 6)) (nomark _)) (dw_or1 (dt_cmp (op_neD hu64) se_ne (de_cmp op_gt se_gt (de_ix (ix_dn hr) se_of (de_var 2) (de_var 5)) (de_ix (ix_dn hr) se_of (de_var 2) (de_var 6)) (nomark _)) (de_var 3) (nomark _)))))) (dss_one (ds_ret de_bl)) dss_nil))))
      (dss_one (ds_ret de_bl)))
theorem sc_lets_row : FnScope N_lets_row ["old", "new", "paper"] (defScope s_lets_row) := ⟨rfl, rfl, rfl, by decide +kernel, rfl, by decide +kernel, by decide +kernel⟩
theorem ok_lets_row {f : Addr} {fd : FuncData} (Fu : Fun K "lets_row" "lets_row" s_lets_row f fd) (hm : mg "lets_row" = some (.ref f)) (B : Bl mg) (D_goes_on : Dn P w K mg base g "goes_on" ["labels", "old", "new", "falls"] 1 F_goes_on) (D_is_common : Dn P w K mg base g "is_common" ["thing", "old", "new"] 6 F_is_common) (D_places_in : Dn P w K mg base g "places_in" ["row"] 1 F_places_in) : Dn P w K mg base g "lets_row" ["old", "new", "paper"] 7 F_lets_row := by
  refine Dn.mk' Fu hm (Fu.binds fun _ _ _ _ _ _ us hl => match us, hl with | [_, _, _], _ => rfl) sc_lets_row fun cdv A outer s H E hr => ?_
  have nd := sc_lets_row.nd
  have hu64 : (A.deeper (envOfC "lets_row" (defScope s_lets_row) s.heap.objs.size f cdv)).units + 64 < cLine := by have := hr.un; omega
  exact (dss_cons (ds_if (PW.pt (dw_or (dt_not (dt_val (de_isi B.isi B.tuple (de_var 2) boot_tuple))) (dw_or (dt_cmp (op_neD hu64) se_ne (de_callB call_len_seq se_len (by rfl) B.len PySem.boot_len (da_cons (de_var 2) da_nil)) de_int (nomark _)) (dw_or1 (dt_not (dt_val (de_isi B.isi B.tuple (de_ix ix_both se_ix (de_var 2) de_int) boot_tuple))))))) (dss_one (ds_ret de_bl)) dss_nil)
      (dss_cons (ds_set (i := 3) nd (de_call D_places_in (hr.mono (by omega)) (by rfl) (da_cons (de_var 0) da_nil)))
      (dss_cons (ds_set (i := 4) nd (de_call D_places_in (hr.mono (by omega)) (by rfl) (da_cons (de_var 1) da_nil)))
      (dss_cons (ds_asg (de_var 2) (dg_tup rfl (dg_cons (dg_name nd (i := 7)) (dg_cons (dg_name nd (i := 8)) dg_nil))))
      (dss_cons (ds_if (PW.pt (dw_or (dt_not (dt_val (de_call D_is_common (hr.mono (by omega)) (by rfl) (da_cons (de_var 7) (da_cons (de_var 3) (da_cons (de_var 4) da_nil)))))) (dw_or1 (dt_cmp (op_neD hu64) se_ne (de_callB call_len_seq se_len (by rfl) B.len PySem.boot_len (da_cons (de_var 7) da_nil)) (de_callB call_len_seq se_len (by rfl) B.len PySem.boot_len (da_cons (de_var 8) da_nil)) (nomark _))))) (dss_one (ds_ret de_bl)) dss_nil)
      (dss_cons (ds_if (dt_not (dt_val (de_call D_goes_on (hr.mono (by omega)) (by rfl) (da_cons (de_var 7) (da_cons (de_var 3) (da_cons (de_var 4) (da_cons de_bl da_nil))))))) (dss_one (ds_ret de_bl)) dss_nil)
      (dss_cons (ds_set (i := 5) nd (de_lst da_nil))
      (dss_cons (ds_forT rfl (de_var 8) (dg_name nd (i := 6)) (dss_cons (ds_if (PW.pt (dw_or (dt_not (dt_val (de_call D_is_common (hr.mono (by omega)) (by rfl) (da_cons (de_var 6) (da_cons (de_var 3) (da_cons (de_var 4) da_nil)))))) (dw_or (dt_cmp (op_eqD hu64) se_eq (de_callB call_len_seq se_len (by rfl) B.len PySem.boot_len (da_cons (de_var 6) da_nil)) de_int (nomark _)) (dw_or1 (dt_not (dt_val (de_call D_goes_on (hr.mono (by omega)) (by rfl) (da_cons (de_var 6) (da_cons (de_var 3) (da_cons (de_var 4) (da_cons de_bl da_nil))))))))))) (dss_one (ds_ret de_bl)) dss_nil)
      (dss_one (ds_exp (de_meth PySem.F.slot_list_extend PySem.F.type_list_extend mt_extT se_extT (de_var 5) (da_cons (de_var 6) da_nil))))))
      (dss_one (ds_ret (de_and (de_cmp (op_eqD hu64) se_eq (de_callB call_len_seq se_len (by rfl) B.len PySem.boot_len (da_cons (de_var 5) da_nil)) (de_lenSet rfl hr B.len B.set (de_var 5)) (nomark _)) (de_one (de_cmp (op_eqD hu64) se_eq (de_callB call_len_seq se_len (by rfl) B.len PySem.boot_len (da_cons (de_var 5) da_nil)) (de_callB call_len_seq se_len (by rfl) B.len PySem.boot_len (da_cons (de_lcT (de_var 0) (blk1 (own := [("label", 9)]) rfl nd (blkOk_by (N := N_lets_row) (sc := _) (by kernel_rfl)) (sg_name 9) (by decide) (fun _ _ _ _ _ => by exact (pg_name (i := 9) nd rfl (by first | exact Or.inl rfl | exact Or.inr rfl))) (fun _ _ _ _ _ => by exact (dt_cmp (op_inN hr) se_of (de_var 9) (de_var 4) (by with_unfolding_all rfl))) (fun _ _ _ _ _ => by exact (de_var 9)))) da_nil)) (nomark _))))))))))))))
end
end VW

/-! viewwood k93: printed by gen.py: each def has its meaning, group 4. -/
namespace VW
open PySem PySem.Spec PyProof.Rows L2
section
variable {P : Program} {w : World} {K : PySem.W.Frag} {mg : Str → Option Value} {base : Heap} {g : Gs}
theorem sc_is_kept : FnScope N_is_kept ["old", "new", "label"] (defScope s_is_kept) := ⟨rfl, rfl, rfl, by decide +kernel, rfl, by decide +kernel, by decide +kernel⟩
theorem ok_is_kept {f : Addr} {fd : FuncData} (Fu : Fun K "is_kept" "is_kept" s_is_kept f fd) (hm : mg "is_kept" = some (.ref f)) (B : Bl mg) (D_place_of : Dn P w K mg base g "place_of" ["row", "label"] 1 F_place_of) : Dn P w K mg base g "is_kept" ["old", "new", "label"] 2 F_is_kept := by
  refine Dn.mk' Fu hm (Fu.binds fun _ _ _ _ _ _ us hl => match us, hl with | [_, _, _], _ => rfl) sc_is_kept fun cdv A outer s H E hr => ?_
  have nd := sc_is_kept.nd
  have hu64 : (A.deeper (envOfC "is_kept" (defScope s_is_kept) s.heap.objs.size f cdv)).units + 64 < cLine := by have := hr.un; omega
  exact (dss_cons (ds_set (i := 3) nd (de_call D_place_of (hr.mono (by omega)) (by rfl) (da_cons (de_var 0) (da_cons (de_var 2) da_nil))))
      (dss_cons (ds_set (i := 4) nd (de_call D_place_of (hr.mono (by omega)) (by rfl) (da_cons (de_var 1) (da_cons (de_var 2) da_nil))))
      (dss_one (ds_ret (de_and (de_cmp op_notN se_notN (de_var 3) de_non (nomark _)) (de_and (de_cmp op_notN se_notN (de_var 4) de_non (nomark _)) (de_one (de_cmp (op_eqD hu64) se_eq (de_ix ix_both se_ix (de_ix ix_both se_ix (de_ix ix_both se_ix (de_var 0) (de_var 3)) de_int) de_int) (de_ix ix_both se_ix (de_ix ix_both se_ix (de_ix ix_both se_ix (de_var 1) (de_var 4)) de_int) de_int) (nomark _)))))))))
theorem sc_kept_labels : FnScope N_kept_labels ["row", "old", "new"] (defScope s_kept_labels) := ⟨rfl, rfl, rfl, by decide +kernel, rfl, by decide +kernel, by decide +kernel⟩
theorem ok_kept_labels {f : Addr} {fd : FuncData} (Fu : Fun K "kept_labels" "kept_labels" s_kept_labels f fd) (hm : mg "kept_labels" = some (.ref f)) (B : Bl mg) (D_is_kept : Dn P w K mg base g "is_kept" ["old", "new", "label"] 2 F_is_kept) : Dn P w K mg base g "kept_labels" ["row", "old", "new"] 3 F_kept_labels := by
  refine Dn.mk' Fu hm (Fu.binds fun _ _ _ _ _ _ us hl => match us, hl with | [_, _, _], _ => rfl) sc_kept_labels fun cdv A outer s H E hr => ?_
  have nd := sc_kept_labels.nd
  exact (dss_one (ds_ret (de_lcT (de_var 0) (blk1 (own := [("one", 3)]) rfl nd (blkOk_by (N := N_kept_labels) (sc := _) (by kernel_rfl)) (sg_name 3) (by decide) (fun _ _ _ _ _ => by exact (pg_name (i := 3) nd rfl (by first | exact Or.inl rfl | exact Or.inr rfl))) (fun _ _ _ _ _ => by exact (dt_val (de_call D_is_kept (hr.mono (by omega)) (by rfl) (da_cons (de_var 1) (da_cons (de_var 2) (da_cons (de_ix ix_both se_ix (de_var 3) de_int) da_nil)))))) (fun _ _ _ _ _ => by exact (de_ix ix_both se_ix (de_var 3) de_int))))))
theorem sc_kept_below : FnScope N_kept_below ["old", "new", "address"] (defScope s_kept_below) := ⟨rfl, rfl, rfl, by decide +kernel, rfl, by decide +kernel, by decide +kernel⟩
theorem step_kept_below {f : Addr} {fd : FuncData} {lv : Nat} {self : DF} (Fu : Fun K "kept_below" "kept_below" s_kept_below f fd) (hm : mg "kept_below" = some (.ref f)) (B : Bl mg) (D_place_of : Dn P w K mg base g "place_of" ["row", "label"] 1 F_place_of) (D_kept_labels : Dn P w K mg base g "kept_labels" ["row", "old", "new"] 3 F_kept_labels) (hlv : 3 ≤ lv) (D_self : Dn P w K mg base g "kept_below" ["old", "new", "address"] lv self) : Dn P w K mg base g "kept_below" ["old", "new", "address"] (lv + 1) (dFn 3 6 (S_kept_below self)) := by
  refine Dn.mk' Fu hm (Fu.binds fun _ _ _ _ _ _ us hl => match us, hl with | [_, _, _], _ => rfl) sc_kept_below fun cdv A outer s H E hr => ?_
  have nd := sc_kept_below.nd
  exact (dss_cons (ds_set (i := 3) nd (de_lst (da_cons (de_var 2) da_nil)))
      (dss_cons (ds_forL rfl (de_call D_kept_labels (hr.mono (by omega)) (by rfl) (da_cons (de_var 0) (da_cons (de_var 0) (da_cons (de_var 1) da_nil)))) (dg_name nd (i := 4)) (dss_cons (ds_set (i := 5) nd (de_ix ix_both se_ix (de_ix ix_both se_ix (de_ix ix_both se_ix (de_var 0) (de_call D_place_of (hr.mono (by omega)) (by rfl) (da_cons (de_var 0) (da_cons (de_var 4) da_nil)))) de_int) de_int))
      (dss_one (ds_exp (de_meth PySem.F.slot_list_extend PySem.F.type_list_extend mt_extend se_extend (de_var 3) (da_cons (de_call D_self (hr.mono (by omega)) (by rfl) (da_cons (de_var 5) (da_cons (de_ix ix_both se_ix (de_ix ix_both se_ix (de_ix ix_both se_ix (de_var 1) (de_call D_place_of (hr.mono (by omega)) (by rfl) (da_cons (de_var 1) (da_cons (de_var 4) da_nil)))) de_int) de_int) (da_cons (de_op op_addA se_add (de_var 2) (de_tup (da_cons (de_var 4) da_nil))) da_nil)))) da_nil))))))
      (dss_one (ds_ret (de_var 3)))))
theorem okn_kept_below {f : Addr} {fd : FuncData} (Fu : Fun K "kept_below" "kept_below" s_kept_below f fd) (hm : mg "kept_below" = some (.ref f)) (B : Bl mg) (D_place_of : Dn P w K mg base g "place_of" ["row", "label"] 1 F_place_of) (D_kept_labels : Dn P w K mg base g "kept_labels" ["row", "old", "new"] 3 F_kept_labels) : ∀ n, Dn P w K mg base g "kept_below" ["old", "new", "address"] (3 + n) (F_kept_below n)
  | 0 => Dn.bot Fu hm (Fu.binds fun _ _ _ _ _ _ us hl => match us, hl with | [_, _, _], _ => rfl)
  | n + 1 => step_kept_below Fu hm B D_place_of D_kept_labels (Nat.le_add_right _ _) (okn_kept_below Fu hm B D_place_of D_kept_labels n)
theorem ok_kept_below {f : Addr} {fd : FuncData} (Fu : Fun K "kept_below" "kept_below" s_kept_below f fd) (hm : mg "kept_below" = some (.ref f)) (B : Bl mg) (D_place_of : Dn P w K mg base g "place_of" ["row", "label"] 1 F_place_of) (D_kept_labels : Dn P w K mg base g "kept_labels" ["row", "old", "new"] 3 F_kept_labels) : Dn P w K mg base g "kept_below" ["old", "new", "address"] 7 (F_kept_below 4) := okn_kept_below Fu hm B D_place_of D_kept_labels 4
theorem sc_kept : FnScope N_kept ["old", "new"] (defScope s_kept) := ⟨rfl, rfl, rfl, by decide +kernel, rfl, by decide +kernel, by decide +kernel⟩
theorem ok_kept {f : Addr} {fd : FuncData} (Fu : Fun K "kept" "kept" s_kept f fd) (hm : mg "kept" = some (.ref f)) (B : Bl mg) (D_kept_below : Dn P w K mg base g "kept_below" ["old", "new", "address"] 7 (F_kept_below 4)) : Dn P w K mg base g "kept" ["old", "new"] 8 F_kept := by
  refine Dn.mk' Fu hm (Fu.binds fun _ _ _ _ _ _ us hl => match us, hl with | [_, _], _ => rfl) sc_kept fun cdv A outer s H E hr => ?_
  have nd := sc_kept.nd
  exact (dss_one (ds_ret (de_call D_kept_below (hr.mono (by omega)) (by rfl) (da_cons (de_var 0) (da_cons (de_var 1) (da_cons (de_tup da_nil) da_nil))))))
theorem sc_fill_deeds : FnScope N_fill_deeds ["deeds", "address", "box"] (defScope s_fill_deeds) := ⟨rfl, rfl, rfl, by decide +kernel, rfl, by decide +kernel, by decide +kernel⟩
theorem step_fill_deeds {f : Addr} {fd : FuncData} {lv : Nat} {self : DF} (Fu : Fun K "fill_deeds" "fill_deeds" s_fill_deeds f fd) (hm : mg "fill_deeds" = some (.ref f)) (B : Bl mg) (hlv : 0 ≤ lv) (D_self : Dn P w K mg base g "fill_deeds" ["deeds", "address", "box"] lv self) : Dn P w K mg base g "fill_deeds" ["deeds", "address", "box"] (lv + 1) (dFn 3 12 (S_fill_deeds self)) := by
  refine Dn.mk' Fu hm (Fu.binds fun _ _ _ _ _ _ us hl => match us, hl with | [_, _, _], _ => rfl) sc_fill_deeds fun cdv A outer s H E hr => ?_
  have nd := sc_fill_deeds.nd
  have hu64 : (A.deeper (envOfC "fill_deeds" (defScope s_fill_deeds) s.heap.objs.size f cdv)).units + 64 < cLine := by have := hr.un; omega
  exact (dss_cons (ds_asg (de_var 2) (dg_tup rfl (dg_cons (dg_name nd (i := 4)) (dg_cons (dg_name nd (i := 5)) (dg_cons (dg_name nd (i := 6)) (dg_cons (dg_name nd (i := 7)) dg_nil))))))
      (dss_cons (ds_forT rfl (de_var 5) (dg_tup rfl (dg_cons (dg_name nd (i := 8)) (dg_cons (dg_name nd (i := 9)) dg_nil))) (dss_one (ds_exp (de_meth PySem.F.slot_list_append PySem.F.type_list_append mt_append se_append (de_var 0) (da_cons (de_tup (da_cons de_str (da_cons (de_var 1) (da_cons (de_var 8) (da_cons (de_var 9) da_nil))))) da_nil)))))
      (dss_cons (ds_if (dt_cmp (op_neD hu64) se_ne (de_var 6) (de_tup da_nil) (nomark _)) (dss_one (ds_exp (de_meth PySem.F.slot_list_append PySem.F.type_list_append mt_append se_append (de_var 0) (da_cons (de_tup (da_cons de_str (da_cons (de_var 1) (da_cons (de_var 6) da_nil)))) da_nil)))) dss_nil)
      (dss_one (ds_forR1 rfl B.range (da_cons (de_callB call_len_seq se_len (by rfl) B.len PySem.boot_len (da_cons (de_var 7) da_nil)) da_nil) (dg_name nd (i := 3)) (dss_cons (ds_asg (de_ix ix_both se_ix (de_var 7) (de_var 3)) (dg_tup rfl (dg_cons (dg_name nd (i := 10)) (dg_cons (dg_name nd (i := 11)) dg_nil))))
      (dss_cons (ds_exp (de_meth PySem.F.slot_list_append PySem.F.type_list_append mt_append se_append (de_var 0) (da_cons (de_tup (da_cons de_str (da_cons (de_var 1) (da_cons (de_var 3) (da_cons (de_var 10) (da_cons (de_ix ix_both se_ix (de_var 11) de_int) da_nil)))))) da_nil)))
      (dss_one (ds_exp (de_call D_self (hr.mono (by omega)) (by rfl) (da_cons (de_var 0) (da_cons (de_op op_addA se_add (de_var 1) (de_tup (da_cons (de_var 10) da_nil))) (da_cons (de_var 11) da_nil)))))))))))))
theorem okn_fill_deeds {f : Addr} {fd : FuncData} (Fu : Fun K "fill_deeds" "fill_deeds" s_fill_deeds f fd) (hm : mg "fill_deeds" = some (.ref f)) (B : Bl mg) : ∀ n, Dn P w K mg base g "fill_deeds" ["deeds", "address", "box"] (0 + n) (F_fill_deeds n)
  | 0 => Dn.bot Fu hm (Fu.binds fun _ _ _ _ _ _ us hl => match us, hl with | [_, _, _], _ => rfl)
  | n + 1 => step_fill_deeds Fu hm B (Nat.le_add_right _ _) (okn_fill_deeds Fu hm B n)
theorem ok_fill_deeds {f : Addr} {fd : FuncData} (Fu : Fun K "fill_deeds" "fill_deeds" s_fill_deeds f fd) (hm : mg "fill_deeds" = some (.ref f)) (B : Bl mg) : Dn P w K mg base g "fill_deeds" ["deeds", "address", "box"] 4 (F_fill_deeds 4) := okn_fill_deeds Fu hm B 4
theorem sc_box_deeds : FnScope N_box_deeds ["deeds", "address", "old", "new"] (defScope s_box_deeds) := ⟨rfl, rfl, rfl, by decide +kernel, rfl, by decide +kernel, by decide +kernel⟩
theorem ok_box_deeds {f : Addr} {fd : FuncData} (Fu : Fun K "box_deeds" "box_deeds" s_box_deeds f fd) (hm : mg "box_deeds" = some (.ref f)) (B : Bl mg) : Dn P w K mg base g "box_deeds" ["deeds", "address", "old", "new"] 1 F_box_deeds := by
  refine Dn.mk' Fu hm (Fu.binds fun _ _ _ _ _ _ us hl => match us, hl with | [_, _, _, _], _ => rfl) sc_box_deeds fun cdv A outer s H E hr => ?_
  have nd := sc_box_deeds.nd
  have hu64 : (A.deeper (envOfC "box_deeds" (defScope s_box_deeds) s.heap.objs.size f cdv)).units + 64 < cLine := by have := hr.un; omega
  exact (dss_cons (ds_set (i := 4) nd (de_callTy (call_dictT rfl) seL_of (by rfl) B.dict boot_dict (da_cons (de_ix ix_both se_ix (de_var 2) de_int) da_nil)))
      (dss_cons (ds_set (i := 5) nd (de_callTy (call_dictT rfl) seL_of (by rfl) B.dict boot_dict (da_cons (de_ix ix_both se_ix (de_var 3) de_int) da_nil)))
      (dss_cons (ds_forD rfl (de_var 4) (dg_name nd (i := 6)) (dss_one (ds_if (dt_cmp (op_ninDS hr) se_of (de_var 6) (de_var 5) (by with_unfolding_all rfl)) (dss_one (ds_exp (de_meth PySem.F.slot_list_append PySem.F.type_list_append mt_append se_append (de_var 0) (da_cons (de_tup (da_cons de_str (da_cons (de_var 1) (da_cons (de_var 6) da_nil)))) da_nil)))) dss_nil)))
      (dss_cons (ds_forT rfl (de_ix ix_both se_ix (de_var 3) de_int) (dg_tup rfl (dg_cons (dg_name nd (i := 6)) (dg_cons (dg_name nd (i := 7)) dg_nil))) (dss_one (ds_if (PW.pt (dw_or (dt_cmp (op_ninDS hr) se_of (de_var 6) (de_var 4) (by with_unfolding_all rfl)) (dw_or1 (dt_cmp (op_neD hu64) se_ne (de_ix (ix_ds hr) se_of (de_var 4) (de_var 6)) (de_var 7) (nomark _))))) (dss_one (ds_exp (de_meth PySem.F.slot_list_append PySem.F.type_list_append mt_append se_append (de_var 0) (da_cons (de_tup (da_cons de_str (da_cons (de_var 1) (da_cons (de_var 6) (da_cons (de_var 7) da_nil))))) da_nil)))) dss_nil)))
      (dss_one (ds_if (dt_cmp (op_neD hu64) se_ne (de_ix ix_both se_ix (de_var 2) de_int) (de_ix ix_both se_ix (de_var 3) de_int) (nomark _)) (dss_one (ds_exp (de_meth PySem.F.slot_list_append PySem.F.type_list_append mt_append se_append (de_var 0) (da_cons (de_tup (da_cons de_str (da_cons (de_var 1) (da_cons (de_ix ix_both se_ix (de_var 3) de_int) da_nil)))) da_nil)))) dss_nil))))))
theorem sc_place_behind : FnScope N_place_behind ["now", "new", "k"] (defScope s_place_behind) := ⟨rfl, rfl, rfl, by decide +kernel, rfl, by decide +kernel, by decide +kernel⟩
theorem ok_place_behind {f : Addr} {fd : FuncData} (Fu : Fun K "place_behind" "place_behind" s_place_behind f fd) (hm : mg "place_behind" = some (.ref f)) (B : Bl mg) : Dn P w K mg base g "place_behind" ["now", "new", "k"] 1 F_place_behind := by
  refine Dn.mk' Fu hm (Fu.binds fun _ _ _ _ _ _ us hl => match us, hl with | [_, _, _], _ => rfl) sc_place_behind fun cdv A outer s H E hr => ?_
  have nd := sc_place_behind.nd
  have hu64 : (A.deeper (envOfC "place_behind" (defScope s_place_behind) s.heap.objs.size f cdv)).units + 64 < cLine := by have := hr.un; omega
  have hu65 : (A.deeper (envOfC "place_behind" (defScope s_place_behind) s.heap.objs.size f cdv)).units + 65 < cLine := by have := hr.un; omega
  exact (dss_cons (ds_if (dt_cmp (op_eqD hu64) se_eq (de_var 2) de_int (nomark _)) (dss_one (ds_ret de_int)) dss_nil)
      (dss_one (ds_ret (de_op op_addA se_add (de_meth PySem.F.slot_list_index PySem.F.type_list_index (mt_indexD hu65) se_index (de_var 0) (da_cons (de_ix ix_both se_ix (de_ix ix_both se_ix (de_var 1) (de_op op_sub se_sub (de_var 2) de_int)) de_int) da_nil)) de_int))))
theorem sc_order_deeds : FnScope N_order_deeds ["deeds", "address", "old", "new", "stays"] (defScope s_order_deeds) := ⟨rfl, rfl, rfl, by decide +kernel, rfl, by decide +kernel, by decide +kernel⟩
theorem ok_order_deeds {f : Addr} {fd : FuncData} (Fu : Fun K "order_deeds" "order_deeds" s_order_deeds f fd) (hm : mg "order_deeds" = some (.ref f)) (B : Bl mg) (D_fill_deeds : Dn P w K mg base g "fill_deeds" ["deeds", "address", "box"] 4 (F_fill_deeds 4)) (D_place_behind : Dn P w K mg base g "place_behind" ["now", "new", "k"] 1 F_place_behind) (D_kept_labels : Dn P w K mg base g "kept_labels" ["row", "old", "new"] 3 F_kept_labels) : Dn P w K mg base g "order_deeds" ["deeds", "address", "old", "new", "stays"] 5 F_order_deeds := by
  refine Dn.mk' Fu hm (Fu.binds fun _ _ _ _ _ _ us hl => match us, hl with | [_, _, _, _, _], _ => rfl) sc_order_deeds fun cdv A outer s H E hr => ?_
  have nd := sc_order_deeds.nd
  exact (dss_cons (ds_set (i := 5) nd (de_call D_kept_labels (hr.mono (by omega)) (by rfl) (da_cons (de_var 2) (da_cons (de_var 2) (da_cons (de_var 3) da_nil)))))
      (dss_cons (ds_forT rfl (de_var 2) (dg_name nd (i := 6)) (dss_one (ds_if (dt_cmp (op_ninQ hr) se_ninS (de_ix ix_both se_ix (de_var 6) de_int) (de_var 5) (by with_unfolding_all rfl)) (dss_one (ds_exp (de_meth PySem.F.slot_list_append PySem.F.type_list_append mt_append se_append (de_var 0) (da_cons (de_tup (da_cons de_str (da_cons (de_var 1) (da_cons (de_ix ix_both se_ix (de_var 6) de_int) da_nil)))) da_nil)))) dss_nil)))
      (dss_cons (ds_set (i := 7) nd (de_callTy call_list_of se_list (by rfl) B.list boot_list (da_cons (de_var 5) da_nil)))
      (dss_one (ds_forR1 rfl B.range (da_cons (de_callB call_len_seq se_len (by rfl) B.len PySem.boot_len (da_cons (de_var 3) da_nil)) da_nil) (dg_name nd (i := 8)) (dss_cons (ds_asg (de_ix ix_both se_ix (de_var 3) (de_var 8)) (dg_tup rfl (dg_cons (dg_name nd (i := 9)) (dg_cons (dg_name nd (i := 10)) dg_nil))))
      (dss_one (ds_if (dt_cmp (op_ninQ hr) se_ninS (de_var 9) (de_var 7) (by with_unfolding_all rfl)) (dss_cons (ds_set (i := 11) nd (de_call D_place_behind (hr.mono (by omega)) (by rfl) (da_cons (de_var 5) (da_cons (de_var 3) (da_cons (de_var 8) da_nil)))))
      (dss_cons (ds_exp (de_meth PySem.F.slot_list_append PySem.F.type_list_append mt_append se_append (de_var 0) (da_cons (de_tup (da_cons de_str (da_cons (de_var 1) (da_cons (de_var 11) (da_cons (de_var 9) (da_cons (de_ix ix_both se_ix (de_var 10) de_int) da_nil)))))) da_nil)))
      (dss_cons (ds_exp (de_call D_fill_deeds (hr.mono (by omega)) (by rfl) (da_cons (de_var 0) (da_cons (de_op op_addA se_add (de_var 1) (de_tup (da_cons (de_var 9) da_nil))) (da_cons (de_var 10) da_nil)))))
      (dss_one (ds_exp (de_meth PySem.F.slot_list_insert PySem.F.type_list_insert mt_insert se_insert (de_var 5) (da_cons (de_var 11) (da_cons (de_var 9) da_nil)))))))) (dss_one (ds_if (dt_cmp (op_ninQ hr) se_ninS (de_var 9) (de_var 4) (by with_unfolding_all rfl)) (dss_cons (ds_exp (de_meth PySem.F.slot_list_remove PySem.F.type_list_remove (mt_removeD hr) se_remove (de_var 5) (da_cons (de_var 9) da_nil)))
      (dss_cons (ds_set (i := 11) nd (de_call D_place_behind (hr.mono (by omega)) (by rfl) (da_cons (de_var 5) (da_cons (de_var 3) (da_cons (de_var 8) da_nil)))))
      (dss_cons (ds_exp (de_meth PySem.F.slot_list_append PySem.F.type_list_append mt_append se_append (de_var 0) (da_cons (de_tup (da_cons de_str (da_cons (de_var 1) (da_cons (de_var 9) (da_cons (de_var 11) da_nil))))) da_nil)))
      (dss_one (ds_exp (de_meth PySem.F.slot_list_insert PySem.F.type_list_insert mt_insert se_insert (de_var 5) (da_cons (de_var 11) (da_cons (de_var 9) da_nil)))))))) dss_nil))))))))))
theorem sc_row_deeds : FnScope N_row_deeds ["deeds", "rows", "address", "old", "new"] (defScope s_row_deeds) := ⟨rfl, rfl, rfl, by decide +kernel, rfl, by decide +kernel, by decide +kernel⟩
theorem step_row_deeds {f : Addr} {fd : FuncData} {lv : Nat} {self : DF} (Fu : Fun K "row_deeds" "row_deeds" s_row_deeds f fd) (hm : mg "row_deeds" = some (.ref f)) (B : Bl mg) (D_box_deeds : Dn P w K mg base g "box_deeds" ["deeds", "address", "old", "new"] 1 F_box_deeds) (D_place_of : Dn P w K mg base g "place_of" ["row", "label"] 1 F_place_of) (D_order_deeds : Dn P w K mg base g "order_deeds" ["deeds", "address", "old", "new", "stays"] 5 F_order_deeds) (D_kept_labels : Dn P w K mg base g "kept_labels" ["row", "old", "new"] 3 F_kept_labels) (D_row_paper : Dn P w K mg base g "row_paper" ["old", "new"] 3 F_row_paper) (hlv : 5 ≤ lv) (D_self : Dn P w K mg base g "row_deeds" ["deeds", "rows", "address", "old", "new"] lv self) : Dn P w K mg base g "row_deeds" ["deeds", "rows", "address", "old", "new"] (lv + 1) (dFn 5 11 (S_row_deeds self)) := by
  refine Dn.mk' Fu hm (Fu.binds fun _ _ _ _ _ _ us hl => match us, hl with | [_, _, _, _, _], _ => rfl) sc_row_deeds fun cdv A outer s H E hr => ?_
  have nd := sc_row_deeds.nd
  exact (dss_cons (ds_set (i := 5) nd (de_call D_kept_labels (hr.mono (by omega)) (by rfl) (da_cons (de_var 3) (da_cons (de_var 3) (da_cons (de_var 4) da_nil)))))
      (dss_cons (ds_asg (de_call D_row_paper (hr.mono (by omega)) (by rfl) (da_cons (de_callTy call_tupleF se_tuple (by rfl) B.tuple boot_tuple (da_cons (de_var 5) da_nil)) (da_cons (de_callTy call_tupleF se_tuple (by rfl) B.tuple boot_tuple (da_cons (de_call D_kept_labels (hr.mono (by omega)) (by rfl) (da_cons (de_var 4) (da_cons (de_var 3) (da_cons (de_var 4) da_nil)))) da_nil)) da_nil))) (dg_tup rfl (dg_cons (dg_name nd (i := 7)) (dg_cons (dg_name nd (i := 8)) dg_nil))))
      (dss_cons (ds_exp (de_meth PySem.F.slot_list_append PySem.F.type_list_append mt_append se_append (de_var 1) (da_cons (de_tup (da_cons (de_var 2) (da_cons (de_var 7) (da_cons (de_var 8) da_nil)))) da_nil)))
      (dss_cons (ds_exp (de_call D_order_deeds (hr.mono (by omega)) (by rfl) (da_cons (de_var 0) (da_cons (de_var 2) (da_cons (de_var 3) (da_cons (de_var 4) (da_cons (de_var 7) da_nil)))))))
      (dss_one (ds_forL rfl (de_var 5) (dg_name nd (i := 6)) (dss_cons (ds_set (i := 9) nd (de_ix ix_both se_ix (de_ix ix_both se_ix (de_var 3) (de_call D_place_of (hr.mono (by omega)) (by rfl) (da_cons (de_var 3) (da_cons (de_var 6) da_nil)))) de_int))
      (dss_cons (ds_set (i := 10) nd (de_ix ix_both se_ix (de_ix ix_both se_ix (de_var 4) (de_call D_place_of (hr.mono (by omega)) (by rfl) (da_cons (de_var 4) (da_cons (de_var 6) da_nil)))) de_int))
      (dss_cons (ds_exp (de_call D_box_deeds (hr.mono (by omega)) (by rfl) (da_cons (de_var 0) (da_cons (de_op op_addA se_add (de_var 2) (de_tup (da_cons (de_var 6) da_nil))) (da_cons (de_var 9) (da_cons (de_var 10) da_nil))))))
      (dss_one (ds_exp (de_call D_self (hr.mono (by omega)) (by rfl) (da_cons (de_var 0) (da_cons (de_var 1) (da_cons (de_op op_addA se_add (de_var 2) (de_tup (da_cons (de_var 6) da_nil))) (da_cons (de_ix ix_both se_ix (de_var 9) de_int) (da_cons (de_ix ix_both se_ix (de_var 10) de_int) da_nil)))))))))))))))))
theorem okn_row_deeds {f : Addr} {fd : FuncData} (Fu : Fun K "row_deeds" "row_deeds" s_row_deeds f fd) (hm : mg "row_deeds" = some (.ref f)) (B : Bl mg) (D_box_deeds : Dn P w K mg base g "box_deeds" ["deeds", "address", "old", "new"] 1 F_box_deeds) (D_place_of : Dn P w K mg base g "place_of" ["row", "label"] 1 F_place_of) (D_order_deeds : Dn P w K mg base g "order_deeds" ["deeds", "address", "old", "new", "stays"] 5 F_order_deeds) (D_kept_labels : Dn P w K mg base g "kept_labels" ["row", "old", "new"] 3 F_kept_labels) (D_row_paper : Dn P w K mg base g "row_paper" ["old", "new"] 3 F_row_paper) : ∀ n, Dn P w K mg base g "row_deeds" ["deeds", "rows", "address", "old", "new"] (5 + n) (F_row_deeds n)
  | 0 => Dn.bot Fu hm (Fu.binds fun _ _ _ _ _ _ us hl => match us, hl with | [_, _, _, _, _], _ => rfl)
  | n + 1 => step_row_deeds Fu hm B D_box_deeds D_place_of D_order_deeds D_kept_labels D_row_paper (Nat.le_add_right _ _) (okn_row_deeds Fu hm B D_box_deeds D_place_of D_order_deeds D_kept_labels D_row_paper n)
theorem ok_row_deeds {f : Addr} {fd : FuncData} (Fu : Fun K "row_deeds" "row_deeds" s_row_deeds f fd) (hm : mg "row_deeds" = some (.ref f)) (B : Bl mg) (D_box_deeds : Dn P w K mg base g "box_deeds" ["deeds", "address", "old", "new"] 1 F_box_deeds) (D_place_of : Dn P w K mg base g "place_of" ["row", "label"] 1 F_place_of) (D_order_deeds : Dn P w K mg base g "order_deeds" ["deeds", "address", "old", "new", "stays"] 5 F_order_deeds) (D_kept_labels : Dn P w K mg base g "kept_labels" ["row", "old", "new"] 3 F_kept_labels) (D_row_paper : Dn P w K mg base g "row_paper" ["old", "new"] 3 F_row_paper) : Dn P w K mg base g "row_deeds" ["deeds", "rows", "address", "old", "new"] 9 (F_row_deeds 4) := okn_row_deeds Fu hm B D_box_deeds D_place_of D_order_deeds D_kept_labels D_row_paper 4
theorem sc_paper_of : FnScope N_paper_of ["old", "new"] (defScope s_paper_of) := ⟨rfl, rfl, rfl, by decide +kernel, rfl, by decide +kernel, by decide +kernel⟩
theorem ok_paper_of {f : Addr} {fd : FuncData} (Fu : Fun K "paper_of" "paper_of" s_paper_of f fd) (hm : mg "paper_of" = some (.ref f)) (B : Bl mg) (D_row_deeds : Dn P w K mg base g "row_deeds" ["deeds", "rows", "address", "old", "new"] 9 (F_row_deeds 4)) : Dn P w K mg base g "paper_of" ["old", "new"] 10 F_paper_of := by
  refine Dn.mk' Fu hm (Fu.binds fun _ _ _ _ _ _ us hl => match us, hl with | [_, _], _ => rfl) sc_paper_of fun cdv A outer s H E hr => ?_
  have nd := sc_paper_of.nd
  exact (dss_cons (ds_set (i := 2) nd (de_lst da_nil))
      (dss_cons (ds_set (i := 3) nd (de_lst da_nil))
      (dss_cons (ds_exp (de_call D_row_deeds (hr.mono (by omega)) (by rfl) (da_cons (de_var 2) (da_cons (de_var 3) (da_cons (de_tup da_nil) (da_cons (de_var 0) (da_cons (de_var 1) da_nil)))))))
      (dss_one (ds_ret (de_tup (da_cons (de_callTy call_tupleF se_tuple (by rfl) B.tuple boot_tuple (da_cons (de_var 2) da_nil)) (da_cons (de_callTy call_tupleF se_tuple (by rfl) B.tuple boot_tuple (da_cons (de_var 3) da_nil)) da_nil))))))))
end
end VW

/-! viewwood k93: printed by gen.py: each def has its meaning, group 5. -/
namespace VW
open PySem PySem.Spec PyProof.Rows L2
section
variable {P : Program} {w : World} {K : PySem.W.Frag} {mg : Str → Option Value} {base : Heap} {g : Gs}
theorem sc_is_row_paper : FnScope N_is_row_paper ["thing"] (defScope s_is_row_paper) := ⟨rfl, rfl, rfl, by decide +kernel, rfl, by decide +kernel, by decide +kernel⟩
theorem ok_is_row_paper {f : Addr} {fd : FuncData} (Fu : Fun K "is_row_paper" "is_row_paper" s_is_row_paper f fd) (hm : mg "is_row_paper" = some (.ref f)) (B : Bl mg) (D_is_address : Dn P w K mg base g "is_address" ["thing"] 6 F_is_address) : Dn P w K mg base g "is_row_paper" ["thing"] 7 F_is_row_paper := by
  refine Dn.mk' Fu hm (Fu.binds fun _ _ _ _ _ _ us hl => match us, hl with | [_], _ => rfl) sc_is_row_paper fun cdv A outer s H E hr => ?_
  have nd := sc_is_row_paper.nd
  have hu64 : (A.deeper (envOfC "is_row_paper" (defScope s_is_row_paper) s.heap.objs.size f cdv)).units + 64 < cLine := by have := hr.un; omega
  exact (dss_one (ds_ret (de_and (de_isi B.isi B.tuple (de_var 0) boot_tuple) (de_and (de_cmp (op_eqD hu64) se_eq (de_callB call_len_seq se_len (by rfl) B.len PySem.boot_len (da_cons (de_var 0) da_nil)) de_int (nomark _)) (de_one (de_call D_is_address (hr.mono (by omega)) (by rfl) (da_cons (de_ix ix_both se_ix (de_var 0) de_int) da_nil)))))))
theorem sc_is_paper : FnScope N_is_paper ["thing"] (defScope s_is_paper) := ⟨rfl, rfl, rfl, by decide +kernel, rfl, by decide +kernel, by decide +kernel⟩
theorem ok_is_paper {f : Addr} {fd : FuncData} (Fu : Fun K "is_paper" "is_paper" s_is_paper f fd) (hm : mg "is_paper" = some (.ref f)) (B : Bl mg) (D_is_row_paper : Dn P w K mg base g "is_row_paper" ["thing"] 7 F_is_row_paper) (D_is_deed : Dn P w K mg base g "is_deed" ["thing"] 7 F_is_deed) : Dn P w K mg base g "is_paper" ["thing"] 8 F_is_paper := by
  refine Dn.mk' Fu hm (Fu.binds fun _ _ _ _ _ _ us hl => match us, hl with | [_], _ => rfl) sc_is_paper fun cdv A outer s H E hr => ?_
  have nd := sc_is_paper.nd
  have hu64 : (A.deeper (envOfC "is_paper" (defScope s_is_paper) s.heap.objs.size f cdv)).units + 64 < cLine := by have := hr.un; omega
  exact (dss_cons (ds_if (PW.pt (dw_or (dt_not (dt_val (de_isi B.isi B.tuple (de_var 0) boot_tuple))) (dw_or1 (dt_cmp (op_neD hu64) se_ne (de_callB call_len_seq se_len (by rfl) B.len PySem.boot_len (da_cons (de_var 0) da_nil)) de_int (nomark _))))) (dss_one (ds_ret de_bl)) dss_nil)
      (dss_cons (ds_if (PW.pt (dw_or (dt_not (dt_val (de_isi B.isi B.tuple (de_ix ix_both se_ix (de_var 0) de_int) boot_tuple))) (dw_or1 (dt_not (dt_val (de_isi B.isi B.tuple (de_ix ix_both se_ix (de_var 0) de_int) boot_tuple)))))) (dss_one (ds_ret de_bl)) dss_nil)
      (dss_one (ds_ret (de_and (de_callB (cr_all rfl) se_all (by rfl) B.all boot_all (da_cons (de_lcT (de_ix ix_both se_ix (de_var 0) de_int) (blk0 (own := [("deed", 1)]) rfl nd (blkOk_by (N := N_is_paper) (sc := _) (by kernel_rfl)) (sg_name 1) (by decide) (fun _ _ _ _ _ => by exact (pg_name (i := 1) nd rfl (by first | exact Or.inl rfl | exact Or.inr rfl))) (fun _ _ _ _ _ => by exact (de_call D_is_deed (hr.mono (by omega)) (by rfl) (da_cons (de_var 1) da_nil))))) da_nil)) (de_one (de_callB (cr_all rfl) se_all (by rfl) B.all boot_all (da_cons (de_lcT (de_ix ix_both se_ix (de_var 0) de_int) (blk0 (own := [("row", 2)]) rfl nd (blkOk_by (N := N_is_paper) (sc := _) (by kernel_rfl)) (sg_name 2) (by decide) (fun _ _ _ _ _ => by exact (pg_name (i := 2) nd rfl (by first | exact Or.inl rfl | exact Or.inr rfl))) (fun _ _ _ _ _ => by exact (de_call D_is_row_paper (hr.mono (by omega)) (by rfl) (da_cons (de_var 2) da_nil))))) da_nil))))))))
theorem sc_leads : FnScope N_leads ["old", "new", "deeds"] (defScope s_leads) := ⟨rfl, rfl, rfl, by decide +kernel, rfl, by decide +kernel, by decide +kernel⟩
theorem ok_leads {f : Addr} {fd : FuncData} (Fu : Fun K "leads" "leads" s_leads f fd) (hm : mg "leads" = some (.ref f)) (B : Bl mg) (D_led : Dn P w K mg base g "led" ["tree", "deeds"] 5 F_led) : Dn P w K mg base g "leads" ["old", "new", "deeds"] 6 F_leads := by
  refine Dn.mk' Fu hm (Fu.binds fun _ _ _ _ _ _ us hl => match us, hl with | [_, _, _], _ => rfl) sc_leads fun cdv A outer s H E hr => ?_
  have nd := sc_leads.nd
  have hu64 : (A.deeper (envOfC "leads" (defScope s_leads) s.heap.objs.size f cdv)).units + 64 < cLine := by have := hr.un; omega
  exact (dss_cons (ds_set (i := 3) nd de_non)
      (dss_cons (ds_try (dss_one (ds_set (i := 3) nd (de_call D_led (hr.mono (by omega)) (by rfl) (da_cons (de_var 0) (da_cons (de_var 2) da_nil))))))
      (dss_one (ds_ret (de_and (de_cmp op_notN se_notN (de_var 3) de_non (nomark _)) (de_one (de_cmp (op_eqD hu64) se_eq (de_var 3) (de_var 1) (nomark _))))))))
theorem sc_rows_fit : FnScope N_rows_fit ["old", "new", "rows"] (defScope s_rows_fit) := ⟨rfl, rfl, rfl, by decide +kernel, rfl, by decide +kernel, by decide +kernel⟩
theorem ok_rows_fit {f : Addr} {fd : FuncData} (Fu : Fun K "rows_fit" "rows_fit" s_rows_fit f fd) (hm : mg "rows_fit" = some (.ref f)) (B : Bl mg) (D_kept_labels : Dn P w K mg base g "kept_labels" ["row", "old", "new"] 3 F_kept_labels) (D_lets_row : Dn P w K mg base g "lets_row" ["old", "new", "paper"] 7 F_lets_row) (D_row_found : Dn P w K mg base g "row_found" ["tree", "address"] 3 F_row_found) (D_kept : Dn P w K mg base g "kept" ["old", "new"] 8 F_kept) : Dn P w K mg base g "rows_fit" ["old", "new", "rows"] 9 F_rows_fit := by
  refine Dn.mk' Fu hm (Fu.binds fun _ _ _ _ _ _ us hl => match us, hl with | [_, _, _], _ => rfl) sc_rows_fit fun cdv A outer s H E hr => ?_
  have nd := sc_rows_fit.nd
  have hu64 : (A.deeper (envOfC "rows_fit" (defScope s_rows_fit) s.heap.objs.size f cdv)).units + 64 < cLine := by have := hr.un; omega
  exact (dss_cons (ds_lcT (i := 3) (de_var 2) (blk0 (own := [("row", 10)]) rfl nd (blkOk_by (N := N_rows_fit) (sc := _) (by kernel_rfl)) (sg_name 10) (by decide) (fun _ _ _ _ _ => by exact (pg_name (i := 10) nd rfl (by first | exact Or.inl rfl | exact Or.inr rfl))) (fun _ _ _ _ _ => by exact (de_ix ix_both se_ix (de_var 10) de_int))) rfl (sw_true rfl rfl rfl (by decide +kernel)))
      (dss_cons (ds_if (PW.pt (dw_or (dt_cmp (op_neD hu64) se_ne (de_lenSet rfl hr B.len B.set (de_var 3)) (de_callB call_len_seq se_len (by rfl) B.len PySem.boot_len (da_cons (de_var 3) da_nil)) (nomark _)) (dw_or1 (dt_setNe rfl hr B.set (de_var 3) (de_call D_kept (hr.mono (by omega)) (by rfl) (da_cons (de_var 0) (da_cons (de_var 1) da_nil))))))) (dss_one (ds_ret de_bl)) dss_nil)
      (dss_cons (ds_forT rfl (de_var 2) (dg_tup rfl (dg_cons (dg_name nd (i := 4)) (dg_cons (dg_name nd (i := 5)) (dg_cons (dg_name nd (i := 6)) dg_nil)))) (dss_cons (ds_set (i := 7) nd (de_call D_row_found (hr.mono (by omega)) (by rfl) (da_cons (de_var 0) (da_cons (de_var 4) da_nil))))
      (dss_cons (ds_set (i := 8) nd (de_call D_row_found (hr.mono (by omega)) (by rfl) (da_cons (de_var 1) (da_cons (de_var 4) da_nil))))
      (dss_cons (ds_set (i := 9) nd (de_callTy call_tupleF se_tuple (by rfl) B.tuple boot_tuple (da_cons (de_call D_kept_labels (hr.mono (by omega)) (by rfl) (da_cons (de_var 7) (da_cons (de_var 7) (da_cons (de_var 8) da_nil)))) da_nil)))
      (dss_one (ds_if (dt_not (dt_val (de_call D_lets_row (hr.mono (by omega)) (by rfl) (da_cons (de_var 9) (da_cons (de_callTy call_tupleF se_tuple (by rfl) B.tuple boot_tuple (da_cons (de_call D_kept_labels (hr.mono (by omega)) (by rfl) (da_cons (de_var 8) (da_cons (de_var 7) (da_cons (de_var 8) da_nil)))) da_nil)) (da_cons (de_tup (da_cons (de_var 5) (da_cons (de_var 6) da_nil))) da_nil)))))) (dss_one (ds_ret de_bl)) dss_nil))))))
      (dss_one (ds_ret de_bl)))))
theorem sc_mark_of : FnScope N_mark_of ["deed"] (defScope s_mark_of) := ⟨rfl, rfl, rfl, by decide +kernel, rfl, by decide +kernel, by decide +kernel⟩
theorem ok_mark_of {f : Addr} {fd : FuncData} (Fu : Fun K "mark_of" "mark_of" s_mark_of f fd) (hm : mg "mark_of" = some (.ref f)) (B : Bl mg) : Dn P w K mg base g "mark_of" ["deed"] 1 F_mark_of := by
  refine Dn.mk' Fu hm (Fu.binds fun _ _ _ _ _ _ us hl => match us, hl with | [_], _ => rfl) sc_mark_of fun cdv A outer s H E hr => ?_
  have nd := sc_mark_of.nd
  have hu64 : (A.deeper (envOfC "mark_of" (defScope s_mark_of) s.heap.objs.size f cdv)).units + 64 < cLine := by have := hr.un; omega
  exact (dss_cons (ds_if (dt_cmp (op_eqD hu64) se_eq (de_ix ix_both se_ix (de_var 0) de_int) de_str (nomark _)) (dss_one (ds_ret (de_tup (da_cons de_str (da_cons (de_ix ix_both se_ix (de_var 0) de_int) (da_cons (de_ix ix_both se_ix (de_var 0) de_int) da_nil)))))) dss_nil)
      (dss_cons (ds_if (dt_cmp (op_eqD hu64) se_eq (de_ix ix_both se_ix (de_var 0) de_int) de_str (nomark _)) (dss_one (ds_ret (de_tup (da_cons de_str (da_cons (de_ix ix_both se_ix (de_var 0) de_int) (da_cons de_str da_nil)))))) dss_nil)
      (dss_cons (ds_if (dt_cmp (op_eqD hu64) se_eq (de_ix ix_both se_ix (de_var 0) de_int) de_str (nomark _)) (dss_one (ds_ret (de_tup (da_cons de_str (da_cons (de_ix ix_both se_ix (de_var 0) de_int) (da_cons (de_ix ix_both se_ix (de_var 0) de_int) da_nil)))))) dss_nil)
      (dss_one (ds_ret (de_tup (da_cons (de_ix ix_both se_ix (de_var 0) de_int) (da_cons (de_ix ix_both se_ix (de_var 0) de_int) (da_cons (de_ix ix_both se_ix (de_var 0) de_int) da_nil)))))))))
theorem sc_row_deed_fits : FnScope N_row_deed_fits ["old", "new", "deed", "stays"] (defScope s_row_deed_fits) := ⟨rfl, rfl, rfl, by decide +kernel, rfl, by decide +kernel, by decide +kernel⟩
theorem ok_row_deed_fits {f : Addr} {fd : FuncData} (Fu : Fun K "row_deed_fits" "row_deed_fits" s_row_deed_fits f fd) (hm : mg "row_deed_fits" = some (.ref f)) (B : Bl mg) (D_is_kept : Dn P w K mg base g "is_kept" ["old", "new", "label"] 2 F_is_kept) (D_place_of : Dn P w K mg base g "place_of" ["row", "label"] 1 F_place_of) (D_row_found : Dn P w K mg base g "row_found" ["tree", "address"] 3 F_row_found) : Dn P w K mg base g "row_deed_fits" ["old", "new", "deed", "stays"] 4 F_row_deed_fits := by
  refine Dn.mk' Fu hm (Fu.binds fun _ _ _ _ _ _ us hl => match us, hl with | [_, _, _, _], _ => rfl) sc_row_deed_fits fun cdv A outer s H E hr => ?_
  have nd := sc_row_deed_fits.nd
  have hu64 : (A.deeper (envOfC "row_deed_fits" (defScope s_row_deed_fits) s.heap.objs.size f cdv)).units + 64 < cLine := by have := hr.un; omega
  exact (dss_cons (ds_set (i := 4) nd (de_call D_row_found (hr.mono (by omega)) (by rfl) (da_cons (de_var 0) (da_cons (de_ix ix_both se_ix (de_var 2) de_int) da_nil))))
      (dss_cons (ds_set (i := 5) nd (de_call D_row_found (hr.mono (by omega)) (by rfl) (da_cons (de_var 1) (da_cons (de_ix ix_both se_ix (de_var 2) de_int) da_nil))))
      (dss_cons (ds_if (dt_cmp (op_eqD hu64) se_eq (de_ix ix_both se_ix (de_var 2) de_int) de_str (nomark _)) (dss_one (ds_ret (de_and (de_cmp op_notN se_notN (de_call D_place_of (hr.mono (by omega)) (by rfl) (da_cons (de_var 5) (da_cons (de_ix ix_both se_ix (de_var 2) de_int) da_nil))) de_non (nomark _)) (de_one (de_not (de_call D_is_kept (hr.mono (by omega)) (by rfl) (da_cons (de_var 4) (da_cons (de_var 5) (da_cons (de_ix ix_both se_ix (de_var 2) de_int) da_nil))))))))) dss_nil)
      (dss_cons (ds_if (dt_cmp (op_eqD hu64) se_eq (de_ix ix_both se_ix (de_var 2) de_int) de_str (nomark _)) (dss_one (ds_ret (de_and (de_cmp op_notN se_notN (de_call D_place_of (hr.mono (by omega)) (by rfl) (da_cons (de_var 4) (da_cons (de_ix ix_both se_ix (de_var 2) de_int) da_nil))) de_non (nomark _)) (de_one (de_not (de_call D_is_kept (hr.mono (by omega)) (by rfl) (da_cons (de_var 4) (da_cons (de_var 5) (da_cons (de_ix ix_both se_ix (de_var 2) de_int) da_nil))))))))) dss_nil)
      (dss_one (ds_ret (de_and (de_call D_is_kept (hr.mono (by omega)) (by rfl) (da_cons (de_var 4) (da_cons (de_var 5) (da_cons (de_ix ix_both se_ix (de_var 2) de_int) da_nil)))) (de_one (de_cmp (op_ninQ hr) se_ninS (de_ix ix_both se_ix (de_var 2) de_int) (de_var 3) (by with_unfolding_all rfl))))))))))
theorem sc_box_deed_fits : FnScope N_box_deed_fits ["old", "new", "deed"] (defScope s_box_deed_fits) := ⟨rfl, rfl, rfl, by decide +kernel, rfl, by decide +kernel, by decide +kernel⟩
theorem ok_box_deed_fits {f : Addr} {fd : FuncData} (Fu : Fun K "box_deed_fits" "box_deed_fits" s_box_deed_fits f fd) (hm : mg "box_deed_fits" = some (.ref f)) (B : Bl mg) (D_box_found : Dn P w K mg base g "box_found" ["tree", "address"] 2 F_box_found) : Dn P w K mg base g "box_deed_fits" ["old", "new", "deed"] 3 F_box_deed_fits := by
  refine Dn.mk' Fu hm (Fu.binds fun _ _ _ _ _ _ us hl => match us, hl with | [_, _, _], _ => rfl) sc_box_deed_fits fun cdv A outer s H E hr => ?_
  have nd := sc_box_deed_fits.nd
  have hu64 : (A.deeper (envOfC "box_deed_fits" (defScope s_box_deed_fits) s.heap.objs.size f cdv)).units + 64 < cLine := by have := hr.un; omega
  exact (dss_cons (ds_set (i := 3) nd (de_call D_box_found (hr.mono (by omega)) (by rfl) (da_cons (de_var 0) (da_cons (de_ix ix_both se_ix (de_var 2) de_int) da_nil))))
      (dss_cons (ds_set (i := 4) nd (de_call D_box_found (hr.mono (by omega)) (by rfl) (da_cons (de_var 1) (da_cons (de_ix ix_both se_ix (de_var 2) de_int) da_nil))))
      (dss_cons (ds_if (dt_cmp (op_eqD hu64) se_eq (de_ix ix_both se_ix (de_var 2) de_int) de_str (nomark _)) (dss_one (ds_ret (de_cmp (op_neD hu64) se_ne (de_ix ix_both se_ix (de_var 3) de_int) (de_ix ix_both se_ix (de_var 4) de_int) (nomark _)))) dss_nil)
      (dss_cons (ds_set (i := 5) nd (de_callTy (call_dictT rfl) seL_of (by rfl) B.dict boot_dict (da_cons (de_ix ix_both se_ix (de_var 3) de_int) da_nil)))
      (dss_cons (ds_set (i := 6) nd (de_callTy (call_dictT rfl) seL_of (by rfl) B.dict boot_dict (da_cons (de_ix ix_both se_ix (de_var 4) de_int) da_nil)))
      (dss_cons (ds_if (dt_cmp (op_eqD hu64) se_eq (de_ix ix_both se_ix (de_var 2) de_int) de_str (nomark _)) (dss_one (ds_ret (de_cmp (op_ninDS hr) se_of (de_ix ix_both se_ix (de_var 2) de_int) (de_var 6) (by with_unfolding_all rfl)))) dss_nil)
      (dss_cons (ds_if (dt_cmp (op_ninDS hr) se_of (de_ix ix_both se_ix (de_var 2) de_int) (de_var 6) (by with_unfolding_all rfl)) (dss_one (ds_ret de_bl)) dss_nil)
      (dss_one (ds_ret (de_or (de_cmp (op_ninDS hr) se_of (de_ix ix_both se_ix (de_var 2) de_int) (de_var 5) (by with_unfolding_all rfl)) (de_one (de_cmp (op_neD hu64) se_ne (de_ix (ix_ds hr) se_of (de_var 5) (de_ix ix_both se_ix (de_var 2) de_int)) (de_ix (ix_ds hr) se_of (de_var 6) (de_ix ix_both se_ix (de_var 2) de_int)) (nomark _)))))))))))))
theorem sc_fill_deed_fits : FnScope N_fill_deed_fits ["new", "deed"] (defScope s_fill_deed_fits) := ⟨rfl, rfl, rfl, by decide +kernel, rfl, by decide +kernel, by decide +kernel⟩
theorem ok_fill_deed_fits {f : Addr} {fd : FuncData} (Fu : Fun K "fill_deed_fits" "fill_deed_fits" s_fill_deed_fits f fd) (hm : mg "fill_deed_fits" = some (.ref f)) (B : Bl mg) (D_place_of : Dn P w K mg base g "place_of" ["row", "label"] 1 F_place_of) (D_box_found : Dn P w K mg base g "box_found" ["tree", "address"] 2 F_box_found) : Dn P w K mg base g "fill_deed_fits" ["new", "deed"] 3 F_fill_deed_fits := by
  refine Dn.mk' Fu hm (Fu.binds fun _ _ _ _ _ _ us hl => match us, hl with | [_, _], _ => rfl) sc_fill_deed_fits fun cdv A outer s H E hr => ?_
  have nd := sc_fill_deed_fits.nd
  have hu64 : (A.deeper (envOfC "fill_deed_fits" (defScope s_fill_deed_fits) s.heap.objs.size f cdv)).units + 64 < cLine := by have := hr.un; omega
  exact (dss_cons (ds_set (i := 2) nd (de_call D_box_found (hr.mono (by omega)) (by rfl) (da_cons (de_var 0) (da_cons (de_ix ix_both se_ix (de_var 1) de_int) da_nil))))
      (dss_cons (ds_if (dt_cmp op_isN se_isN (de_var 2) de_non (nomark _)) (dss_one (ds_ret de_bl)) dss_nil)
      (dss_cons (ds_if (dt_cmp (op_eqD hu64) se_eq (de_ix ix_both se_ix (de_var 1) de_int) de_str (nomark _)) (dss_one (ds_ret (de_cmp op_notN se_notN (de_call D_place_of (hr.mono (by omega)) (by rfl) (da_cons (de_ix ix_both se_ix (de_var 2) de_int) (da_cons (de_ix ix_both se_ix (de_var 1) de_int) da_nil))) de_non (nomark _)))) dss_nil)
      (dss_cons (ds_if (dt_cmp (op_eqD hu64) se_eq (de_ix ix_both se_ix (de_var 1) de_int) de_str (nomark _)) (dss_one (ds_ret (de_cmp (op_inQ hr) se_inS (de_ix ix_both se_ix (de_var 1) de_int) (de_lcT (de_ix ix_both se_ix (de_var 2) de_int) (blk0 (own := [("name", 3), ("number", 4)]) rfl nd (blkOk_by (N := N_fill_deed_fits) (sc := _) (by kernel_rfl)) (sg_tup (sg_cons (sg_name 3) (sg_cons (sg_name 4) sg_nil))) (by decide) (fun _ _ _ _ _ => by exact (pg_tup rfl (pgs_cons (pg_name (i := 3) nd rfl (by first | exact Or.inl rfl | exact Or.inr rfl)) (pgs_cons (pg_name (i := 4) nd rfl (by first | exact Or.inl rfl | exact Or.inr rfl)) pgs_nil)))) (fun _ _ _ _ _ => by exact (de_var 3)))) (by with_unfolding_all rfl)))) dss_nil)
      (dss_one (ds_ret (de_and (de_cmp (op_eqD hu64) se_eq (de_ix ix_both se_ix (de_var 1) de_int) de_str (nomark _)) (de_one (de_cmp (op_neD hu64) se_ne (de_ix ix_both se_ix (de_var 2) de_int) (de_tup da_nil) (nomark _))))))))))
theorem sc_lets_by : FnScope N_lets_by ["old", "new", "paper"] (defScope s_lets_by) := ⟨rfl, rfl, rfl, by decide +kernel, rfl, by decide +kernel, by decide +kernel⟩
theorem ok_lets_by {f : Addr} {fd : FuncData} (Fu : Fun K "lets_by" "lets_by" s_lets_by f fd) (hm : mg "lets_by" = some (.ref f)) (B : Bl mg) (D_fill_deed_fits : Dn P w K mg base g "fill_deed_fits" ["new", "deed"] 3 F_fill_deed_fits) (D_row_deed_fits : Dn P w K mg base g "row_deed_fits" ["old", "new", "deed", "stays"] 4 F_row_deed_fits) (D_box_deed_fits : Dn P w K mg base g "box_deed_fits" ["old", "new", "deed"] 3 F_box_deed_fits) (D_mark_of : Dn P w K mg base g "mark_of" ["deed"] 1 F_mark_of) (D_rows_fit : Dn P w K mg base g "rows_fit" ["old", "new", "rows"] 9 F_rows_fit) (D_leads : Dn P w K mg base g "leads" ["old", "new", "deeds"] 6 F_leads) (D_is_paper : Dn P w K mg base g "is_paper" ["thing"] 8 F_is_paper) : Dn P w K mg base g "lets_by" ["old", "new", "paper"] 10 F_lets_by := by
  refine Dn.mk' Fu hm (Fu.binds fun _ _ _ _ _ _ us hl => match us, hl with | [_, _, _], _ => rfl) sc_lets_by fun cdv A outer s H E hr => ?_
  have nd := sc_lets_by.nd
  exact (dss_cons (ds_if (PW.pt (dw_or (dt_not (dt_val (de_call D_is_paper (hr.mono (by omega)) (by rfl) (da_cons (de_var 2) da_nil)))) (dw_or (dt_not (dt_val (de_call D_leads (hr.mono (by omega)) (by rfl) (da_cons (de_var 0) (da_cons (de_var 1) (da_cons (de_ix ix_both se_ix (de_var 2) de_int) da_nil)))))) (dw_or1 (dt_not (dt_val (de_call D_rows_fit (hr.mono (by omega)) (by rfl) (da_cons (de_var 0) (da_cons (de_var 1) (da_cons (de_ix ix_both se_ix (de_var 2) de_int) da_nil)))))))))) (dss_one (ds_ret de_bl)) dss_nil)
      (dss_cons (ds_set (i := 3) nd de_dnew)
      (dss_cons (ds_forT rfl (de_ix ix_both se_ix (de_var 2) de_int) (dg_name nd (i := 4)) (dss_one (ds_put (de_var 3) (de_ix ix_both se_ix (de_var 4) de_int) (set_dn hr) sp_of (de_ix ix_both se_ix (de_var 4) de_int))))
      (dss_cons (ds_set (i := 5) nd de_dnew)
      (dss_cons (ds_forT rfl (de_ix ix_both se_ix (de_var 2) de_int) (dg_name nd (i := 6)) (dss_cons (ds_if (dt_cmp (op_inN hr) se_of (de_call D_mark_of (hr.mono (by omega)) (by rfl) (da_cons (de_var 6) da_nil)) (de_var 5) (by with_unfolding_all rfl)) (dss_one (ds_ret de_bl)) dss_nil)
      (dss_cons (ds_put (de_var 5) (de_call D_mark_of (hr.mono (by omega)) (by rfl) (da_cons (de_var 6) da_nil)) (set_dn hr) sp_of de_bl)
      (dss_cons (ds_if (dt_cmp (op_ninN hr) se_of (de_ix ix_both se_ix (de_var 6) de_int) (de_var 3) (by with_unfolding_all rfl)) (dss_one (ds_set (i := 7) nd (de_call D_fill_deed_fits (hr.mono (by omega)) (by rfl) (da_cons (de_var 1) (da_cons (de_var 6) da_nil))))) (dss_one (ds_if (dt_cmp (op_inQ hr) se_inS (de_ix ix_both se_ix (de_var 6) de_int) (de_tup (da_cons de_str (da_cons de_str (da_cons de_str da_nil)))) (by with_unfolding_all rfl)) (dss_one (ds_set (i := 7) nd (de_call D_row_deed_fits (hr.mono (by omega)) (by rfl) (da_cons (de_var 0) (da_cons (de_var 1) (da_cons (de_var 6) (da_cons (de_ix (ix_dn hr) se_of (de_var 3) (de_ix ix_both se_ix (de_var 6) de_int)) da_nil))))))) (dss_one (ds_set (i := 7) nd (de_call D_box_deed_fits (hr.mono (by omega)) (by rfl) (da_cons (de_var 0) (da_cons (de_var 1) (da_cons (de_var 6) da_nil)))))))))
      (dss_one (ds_if (dt_not (dt_val (de_var 7))) (dss_one (ds_ret de_bl)) dss_nil))))))
      (dss_one (ds_ret de_bl)))))))
end
end VW

/-! viewwood k93: printed by gen.py: each def has its meaning, group 6. -/
namespace VW
open PySem PySem.Spec PyProof.Rows L2
section
variable {P : Program} {w : World} {K : PySem.W.Frag} {mg : Str → Option Value} {base : Heap} {g : Gs}
theorem sc_law_tape : FnScope N_law_tape ["_law_script"] (defScope s_law_tape) := ⟨rfl, rfl, rfl, by decide +kernel, rfl, by decide +kernel, by decide +kernel⟩
theorem ok_law_tape {f : Addr} {fd : FuncData} (Fu : Fun K "_law_tape" "_law_tape" s_law_tape f fd) (hm : mg "_law_tape" = some (.ref f)) (B : Bl mg) : Dn P w K mg base g "_law_tape" ["_law_script"] 1 F_law_tape := by
  refine Dn.mk' Fu hm (Fu.binds fun _ _ _ _ _ _ us hl => match us, hl with | [_], _ => rfl) sc_law_tape fun cdv A outer s H E hr => ?_
  have nd := sc_law_tape.nd
  exact (dss_one (ds_ret (de_lst (da_cons (de_var 0) (da_cons de_int (da_cons de_int (da_cons de_int da_nil)))))))
theorem sc_law_draw : FnScope N_law_draw ["_law_tape_here", "_law_many"] (defScope s_law_draw) := ⟨rfl, rfl, rfl, by decide +kernel, rfl, by decide +kernel, by decide +kernel⟩
theorem ok_law_draw {f : Addr} {fd : FuncData} (Fu : Fun K "_law_draw" "_law_draw" s_law_draw f fd) (hm : mg "_law_draw" = some (.ref f)) (B : Bl mg) : Dn P w K mg base g "_law_draw" ["_law_tape_here", "_law_many"] 1 F_law_draw := by
  refine Dn.mk' Fu hm (Fu.binds fun _ _ _ _ _ _ us hl => match us, hl with | [_, _], _ => rfl) sc_law_draw fun cdv A outer s H E hr => ?_
  have nd := sc_law_draw.nd
  have hu64 : (A.deeper (envOfC "_law_draw" (defScope s_law_draw) s.heap.objs.size f cdv)).units + 64 < cLine := by have := hr.un; omega
  exact (dss_cons (ds_set (i := 2) nd (de_ix ix_both se_ix (de_var 0) de_int))
      (dss_cons (ds_put (de_var 0) de_int set_list sp_lst (de_op op_addA se_add (de_ix ix_both se_ix (de_var 0) de_int) de_int))
      (dss_cons (ds_if (PW.pt (dw_and (dt_cmp (op_eqD hu64) se_eq (de_ix ix_both se_ix (de_var 0) de_int) de_int (nomark _)) (dw_and1 (dt_cmp op_lt se_lt (de_ix ix_both se_ix (de_var 0) de_int) (de_callB call_len_seq se_len (by rfl) B.len PySem.boot_len (da_cons (de_var 2) da_nil)) (nomark _))))) (dss_cons (ds_put (de_var 0) de_int set_list sp_lst (de_op op_fdivW se_div (de_callB call_abs se_abs (by rfl) B.abs boot_abs (da_cons (de_ix ix_both se_ix (de_var 2) (de_ix ix_both se_ix (de_var 0) de_int)) da_nil)) (de_op op_pow se_pow de_int de_int)))
      (dss_one (ds_put (de_var 0) de_int set_list sp_lst (de_op op_addA se_add (de_ix ix_both se_ix (de_var 0) de_int) de_int)))) dss_nil)
      (dss_cons (ds_if (dt_cmp op_gt se_gt (de_ix ix_both se_ix (de_var 0) de_int) de_int (nomark _)) (dss_cons (ds_set (i := 5) nd (de_op op_mod se_mod (de_ix ix_both se_ix (de_var 0) de_int) (de_var 1)))
      (dss_cons (ds_put (de_var 0) de_int set_list sp_lst (de_op op_fdivW se_div (de_ix ix_both se_ix (de_var 0) de_int) (de_var 1)))
      (dss_one (ds_ret (de_var 5))))) dss_nil)
      (dss_cons (ds_set (i := 3) nd de_int)
      (dss_cons (ds_if (dt_cmp op_gt se_gt (de_callB call_len_seq se_len (by rfl) B.len PySem.boot_len (da_cons (de_var 2) da_nil)) de_int (nomark _)) (dss_one (ds_set (i := 3) nd (de_ix ix_both se_ix (de_var 2) (de_op op_mod se_mod (de_ix ix_both se_ix (de_var 0) de_int) (de_callB call_len_seq se_len (by rfl) B.len PySem.boot_len (da_cons (de_var 2) da_nil)))))) dss_nil)
      (dss_cons (ds_set (i := 4) nd (de_op op_mod se_mod (de_op op_addA se_add (de_op op_addA se_add (de_op op_mul se_mul (de_op op_mod se_mod (de_var 3) de_int) de_int) (de_op op_mul se_mul (de_ix ix_both se_ix (de_var 0) de_int) de_int)) de_int) de_int))
      (dss_cons (ds_set (i := 4) nd (de_op op_mod se_mod (de_op op_mul se_mul (de_var 4) (de_op op_addA se_add (de_var 4) de_int)) de_int))
      (dss_one (ds_ret (de_op op_mod se_mod (de_op op_mod se_mod (de_op op_mul se_mul (de_var 4) de_int) de_int) (de_var 1))))))))))))
theorem sc_law_kept : FnScope N_law_kept ["_law_old", "_law_new"] (defScope s_law_kept) := ⟨rfl, rfl, rfl, by decide +kernel, rfl, by decide +kernel, by decide +kernel⟩
theorem step_law_kept {f : Addr} {fd : FuncData} {lv : Nat} {self : DF} (Fu : Fun K "_law_kept" "_law_kept" s_law_kept f fd) (hm : mg "_law_kept" = some (.ref f)) (B : Bl mg) (hlv : 0 ≤ lv) (D_self : Dn P w K mg base g "_law_kept" ["_law_old", "_law_new"] lv self) : Dn P w K mg base g "_law_kept" ["_law_old", "_law_new"] (lv + 1) (dFn 2 8 (S_law_kept self)) := by
  refine Dn.mk' Fu hm (Fu.binds fun _ _ _ _ _ _ us hl => match us, hl with | [_, _], _ => rfl) sc_law_kept fun cdv A outer s H E hr => ?_
  have nd := sc_law_kept.nd
  have hu64 : (A.deeper (envOfC "_law_kept" (defScope s_law_kept) s.heap.objs.size f cdv)).units + 64 < cLine := by have := hr.un; omega
  exact (dss_cons (ds_set (i := 2) nd (de_lst (da_cons (de_tup da_nil) da_nil)))
      (dss_cons (ds_forT rfl (de_var 0) (dg_tup rfl (dg_cons (dg_name nd (i := 3)) (dg_cons (dg_name nd (i := 4)) dg_nil))) (dss_one (ds_forT rfl (de_var 1) (dg_tup rfl (dg_cons (dg_name nd (i := 5)) (dg_cons (dg_name nd (i := 6)) dg_nil))) (dss_one (ds_if (PW.pt (dw_and (dt_cmp (op_eqD hu64) se_eq (de_var 5) (de_var 3) (nomark _)) (dw_and1 (dt_cmp (op_eqD hu64) se_eq (de_ix ix_both se_ix (de_var 6) de_int) (de_ix ix_both se_ix (de_var 4) de_int) (nomark _))))) (dss_one (ds_set (i := 2) nd (de_op op_addA se_add (de_var 2) (de_lcL (de_call D_self (hr.mono (by omega)) (by rfl) (da_cons (de_ix ix_both se_ix (de_var 4) de_int) (da_cons (de_ix ix_both se_ix (de_var 6) de_int) da_nil))) (blk0 (own := [("_law_address", 7)]) rfl nd (blkOk_by (N := N_law_kept) (sc := _) (by kernel_rfl)) (sg_name 7) (by decide) (fun _ _ _ _ _ => by exact (pg_name (i := 7) nd rfl (by first | exact Or.inl rfl | exact Or.inr rfl))) (fun _ _ _ _ _ => by exact (de_op op_addA se_add (de_tup (da_cons (de_var 3) da_nil)) (de_var 7)))))))) dss_nil)))))
      (dss_one (ds_ret (de_var 2)))))
theorem okn_law_kept {f : Addr} {fd : FuncData} (Fu : Fun K "_law_kept" "_law_kept" s_law_kept f fd) (hm : mg "_law_kept" = some (.ref f)) (B : Bl mg) : ∀ n, Dn P w K mg base g "_law_kept" ["_law_old", "_law_new"] (0 + n) (F_law_kept n)
  | 0 => Dn.bot Fu hm (Fu.binds fun _ _ _ _ _ _ us hl => match us, hl with | [_, _], _ => rfl)
  | n + 1 => step_law_kept Fu hm B (Nat.le_add_right _ _) (okn_law_kept Fu hm B n)
theorem ok_law_kept {f : Addr} {fd : FuncData} (Fu : Fun K "_law_kept" "_law_kept" s_law_kept f fd) (hm : mg "_law_kept" = some (.ref f)) (B : Bl mg) : Dn P w K mg base g "_law_kept" ["_law_old", "_law_new"] 4 (F_law_kept 4) := okn_law_kept Fu hm B 4
theorem sc_law_labels : FnScope N_law_labels ["_law_tape_here"] (defScope s_law_labels) := ⟨rfl, rfl, rfl, by decide +kernel, rfl, by decide +kernel, by decide +kernel⟩
theorem ok_law_labels {f : Addr} {fd : FuncData} (Fu : Fun K "_law_labels" "_law_labels" s_law_labels f fd) (hm : mg "_law_labels" = some (.ref f)) (B : Bl mg) (D_law_draw : Dn P w K mg base g "_law_draw" ["_law_tape_here", "_law_many"] 1 F_law_draw) : Dn P w K mg base g "_law_labels" ["_law_tape_here"] 2 F_law_labels := by
  refine Dn.mk' Fu hm (Fu.binds fun _ _ _ _ _ _ us hl => match us, hl with | [_], _ => rfl) sc_law_labels fun cdv A outer s H E hr => ?_
  have nd := sc_law_labels.nd
  have hu64 : (A.deeper (envOfC "_law_labels" (defScope s_law_labels) s.heap.objs.size f cdv)).units + 64 < cLine := by have := hr.un; omega
  exact (dss_cons (ds_set (i := 1) nd (de_lst da_nil))
      (dss_cons (ds_forR1 rfl B.range (da_cons de_int da_nil) (dg_name nd (i := 2)) (dss_cons (ds_set (i := 3) nd (de_ix ix_both se_ix (de_lst (da_cons de_non (da_cons (de_var 2) (da_cons (de_op op_mul se_mul (de_un un_neg se_neg de_int) (de_var 2)) (da_cons (de_op op_sub se_sub (de_op op_pow se_pow de_int de_int) (de_var 2)) (da_cons de_int da_nil)))))) (de_call D_law_draw (hr.mono (by omega)) (by rfl) (da_cons (de_var 0) (da_cons de_int da_nil)))))
      (dss_cons (ds_set (i := 4) nd (de_tup (da_cons (de_tup (da_cons (de_var 3) (da_cons (de_var 2) da_nil))) da_nil)))
      (dss_cons (ds_if (dt_cmp (op_eqD hu64) se_eq (de_call D_law_draw (hr.mono (by omega)) (by rfl) (da_cons (de_var 0) (da_cons de_int da_nil))) de_int (nomark _)) (dss_one (ds_set (i := 4) nd (de_tup (da_cons (de_tup (da_cons de_int (da_cons de_int da_nil))) (da_cons (de_tup (da_cons (de_var 3) (da_cons (de_var 2) da_nil))) da_nil))))) dss_nil)
      (dss_one (ds_exp (de_meth PySem.F.slot_list_append PySem.F.type_list_append mt_append se_append (de_var 1) (da_cons (de_var 4) da_nil))))))))
      (dss_one (ds_ret (de_var 1)))))
theorem sc_law_some_row : FnScope N_law_some_row ["_law_tape_here", "_law_labels_here"] (defScope s_law_some_row) := ⟨rfl, rfl, rfl, by decide +kernel, rfl, by decide +kernel, by decide +kernel⟩
theorem ok_law_some_row {f : Addr} {fd : FuncData} (Fu : Fun K "_law_some_row" "_law_some_row" s_law_some_row f fd) (hm : mg "_law_some_row" = some (.ref f)) (B : Bl mg) (D_law_draw : Dn P w K mg base g "_law_draw" ["_law_tape_here", "_law_many"] 1 F_law_draw) : Dn P w K mg base g "_law_some_row" ["_law_tape_here", "_law_labels_here"] 2 F_law_some_row := by
  refine Dn.mk' Fu hm (Fu.binds fun _ _ _ _ _ _ us hl => match us, hl with | [_, _], _ => rfl) sc_law_some_row fun cdv A outer s H E hr => ?_
  have nd := sc_law_some_row.nd
  have hu64 : (A.deeper (envOfC "_law_some_row" (defScope s_law_some_row) s.heap.objs.size f cdv)).units + 64 < cLine := by have := hr.un; omega
  exact (dss_cons (ds_set (i := 2) nd (de_callTy call_list_of se_list (by rfl) B.list boot_list (da_cons (de_var 1) da_nil)))
      (dss_cons (ds_set (i := 3) nd (de_lst da_nil))
      (dss_cons (ds_forR1 rfl B.range (da_cons (de_call D_law_draw (hr.mono (by omega)) (by rfl) (da_cons (de_var 0) (da_cons de_int da_nil))) da_nil) (dg_name nd (i := 4)) (dss_cons (ds_set (i := 5) nd (de_meth PySem.F.slot_list_pop PySem.F.type_list_pop mt_popAt se_popAt (de_var 2) (da_cons (de_call D_law_draw (hr.mono (by omega)) (by rfl) (da_cons (de_var 0) (da_cons (de_callB call_len_seq se_len (by rfl) B.len PySem.boot_len (da_cons (de_var 2) da_nil)) da_nil))) da_nil)))
      (dss_cons (ds_set (i := 6) nd (de_tup da_nil))
      (dss_cons (ds_if (dt_cmp (op_eqD hu64) se_eq (de_call D_law_draw (hr.mono (by omega)) (by rfl) (da_cons (de_var 0) (da_cons de_int da_nil))) de_int (nomark _)) (dss_one (ds_set (i := 6) nd (de_tup (da_cons (de_tup (da_cons de_str (da_cons (de_call D_law_draw (hr.mono (by omega)) (by rfl) (da_cons (de_var 0) (da_cons de_int da_nil))) da_nil))) da_nil)))) dss_nil)
      (dss_cons (ds_set (i := 7) nd (de_tup da_nil))
      (dss_cons (ds_if (dt_cmp (op_eqD hu64) se_eq (de_call D_law_draw (hr.mono (by omega)) (by rfl) (da_cons (de_var 0) (da_cons de_int da_nil))) de_int (nomark _)) (dss_one (ds_set (i := 7) nd (de_tup (da_cons (de_tup (da_cons (de_tup (da_cons (de_tup (da_cons de_non (da_cons de_int da_nil))) da_nil)) (da_cons (de_tup (da_cons de_str (da_cons (de_tup da_nil) (da_cons (de_tup da_nil) (da_cons (de_tup da_nil) da_nil))))) da_nil))) da_nil)))) dss_nil)
      (dss_one (ds_exp (de_meth PySem.F.slot_list_append PySem.F.type_list_append mt_append se_append (de_var 3) (da_cons (de_tup (da_cons (de_var 5) (da_cons (de_tup (da_cons (de_ix ix_both se_ix (de_lst (da_cons de_str (da_cons de_str (da_cons de_str (da_cons de_str da_nil))))) (de_call D_law_draw (hr.mono (by omega)) (by rfl) (da_cons (de_var 0) (da_cons de_int da_nil)))) (da_cons (de_var 6) (da_cons (de_tup da_nil) (da_cons (de_var 7) da_nil))))) da_nil))) da_nil))))))))))
      (dss_one (ds_ret (de_callTy call_tupleF se_tuple (by rfl) B.tuple boot_tuple (da_cons (de_var 3) da_nil)))))))
theorem sc_law_fewest : FnScope N_law_fewest ["_law_begin", "_law_end"] (defScope s_law_fewest) := ⟨rfl, rfl, rfl, by decide +kernel, rfl, by decide +kernel, by decide +kernel⟩
theorem ok_law_fewest {f : Addr} {fd : FuncData} (Fu : Fun K "_law_fewest" "_law_fewest" s_law_fewest f fd) (hm : mg "_law_fewest" = some (.ref f)) (B : Bl mg) : Dn P w K mg base g "_law_fewest" ["_law_begin", "_law_end"] 1 F_law_fewest := by
  refine Dn.mk' Fu hm (Fu.binds fun _ _ _ _ _ _ us hl => match us, hl with | [_, _], _ => rfl) sc_law_fewest fun cdv A outer s H E hr => ?_
  have nd := sc_law_fewest.nd
  exact (dss_cons (ds_set (i := 2) nd (de_lst (da_cons (de_var 0) da_nil)))
      (dss_cons (ds_set (i := 3) nd de_int)
      (dss_cons (ds_set (i := 4) nd (de_dis hr (de_var 0) de_bl))
      (dss_cons (ds_while 30 (dt_cmp (op_ninQ hr) se_ninS (de_var 1) (de_var 2) (by with_unfolding_all rfl)) (dss_cons (ds_set (i := 5) nd (de_lst da_nil))
      (dss_cons (ds_forL rfl (de_var 2) (dg_name nd (i := 6)) (dss_one (ds_forR1 rfl B.range (da_cons (de_callB call_len_seq se_len (by rfl) B.len PySem.boot_len (da_cons (de_var 6) da_nil)) da_nil) (dg_name nd (i := 7)) (dss_cons (ds_set (i := 8) nd (de_op op_addA se_add (de_slice (de_var 6) do_none (do_some (de_var 7))) (de_slice (de_var 6) (do_some (de_op op_addA se_add (de_var 7) de_int)) do_none)))
      (dss_one (ds_forR1 rfl B.range (da_cons (de_callB call_len_seq se_len (by rfl) B.len PySem.boot_len (da_cons (de_var 6) da_nil)) da_nil) (dg_name nd (i := 9)) (dss_cons (ds_set (i := 10) nd (de_op op_addA se_add (de_op op_addA se_add (de_slice (de_var 8) do_none (do_some (de_var 9))) (de_slice (de_var 6) (do_some (de_var 7)) (do_some (de_op op_addA se_add (de_var 7) de_int)))) (de_slice (de_var 8) (do_some (de_var 9)) do_none)))
      (dss_one (ds_if (dt_cmp (op_ninN hr) se_of (de_var 10) (de_var 4) (by with_unfolding_all rfl)) (dss_cons (ds_put (de_var 4) (de_var 10) (set_dn hr) sp_of de_bl)
      (dss_one (ds_exp (de_meth PySem.F.slot_list_append PySem.F.type_list_append mt_append se_append (de_var 5) (da_cons (de_var 10) da_nil))))) dss_nil)))))))))
      (dss_cons (ds_set (i := 2) nd (de_var 5))
      (dss_one (ds_set (i := 3) nd (de_op op_addA se_add (de_var 3) de_int)))))))
      (dss_one (ds_ret (de_var 3)))))))
theorem sc_law : FnScope N_law ["_law_script"] (defScope s_law) := ⟨rfl, rfl, rfl, by decide +kernel, rfl, by decide +kernel, by decide +kernel⟩
theorem ok_law {f : Addr} {fd : FuncData} (Fu : Fun K "law" "law" s_law f fd) (hm : mg "law" = some (.ref f)) (B : Bl mg) (D_lets_row : Dn P w K mg base g "lets_row" ["old", "new", "paper"] 7 F_lets_row) (D_row_paper : Dn P w K mg base g "row_paper" ["old", "new"] 3 F_row_paper) (D_lets_by : Dn P w K mg base g "lets_by" ["old", "new", "paper"] 10 F_lets_by) (D_paper_of : Dn P w K mg base g "paper_of" ["old", "new"] 10 F_paper_of) (D_law_fewest : Dn P w K mg base g "_law_fewest" ["_law_begin", "_law_end"] 1 F_law_fewest) (D_law_kept : Dn P w K mg base g "_law_kept" ["_law_old", "_law_new"] 4 (F_law_kept 4)) (D_law_some_row : Dn P w K mg base g "_law_some_row" ["_law_tape_here", "_law_labels_here"] 2 F_law_some_row) (D_law_labels : Dn P w K mg base g "_law_labels" ["_law_tape_here"] 2 F_law_labels) (D_law_tape : Dn P w K mg base g "_law_tape" ["_law_script"] 1 F_law_tape) : FnOk P w K mg base CX0 11 f fd ["_law_script"] (spD ⟨P, w, K, g.sa, g.S⟩ F_law) := by
  refine Fn.mk' Fu sc_law fun cdv A outer s H E hr => ?_
  have nd := sc_law.nd
  have hu64 : (A.deeper (envOfC "law" (defScope s_law) s.heap.objs.size f cdv)).units + 64 < cLine := by have := hr.un; omega
  exact (dss_cons (ds_set (i := 1) nd (de_call D_law_tape (hr.mono (by omega)) (by rfl) (da_cons (de_var 0) da_nil)))
      (dss_cons (ds_set (i := 2) nd (de_call D_law_labels (hr.mono (by omega)) (by rfl) (da_cons (de_var 1) da_nil)))
      (dss_cons (ds_set (i := 3) nd (de_call D_law_some_row (hr.mono (by omega)) (by rfl) (da_cons (de_var 1) (da_cons (de_var 2) da_nil))))
      (dss_cons (ds_set (i := 4) nd (de_call D_law_some_row (hr.mono (by omega)) (by rfl) (da_cons (de_var 1) (da_cons (de_var 2) da_nil))))
      (dss_cons (ds_set (i := 5) nd (de_call D_law_kept (hr.mono (by omega)) (by rfl) (da_cons (de_var 3) (da_cons (de_var 4) da_nil))))
      (dss_cons (ds_set (i := 6) nd (de_callTy call_tupleF se_tuple (by rfl) B.tuple boot_tuple (da_cons (de_lcT (de_var 3) (blk1 (own := [("_law_label", 15), ("_law_box", 16)]) rfl nd (blkOk_by (N := N_law) (sc := _) (by kernel_rfl)) (sg_tup (sg_cons (sg_name 15) (sg_cons (sg_name 16) sg_nil))) (by decide) (fun _ _ _ _ _ => by exact (pg_tup rfl (pgs_cons (pg_name (i := 15) nd rfl (by first | exact Or.inl rfl | exact Or.inr rfl)) (pgs_cons (pg_name (i := 16) nd rfl (by first | exact Or.inl rfl | exact Or.inr rfl)) pgs_nil)))) (fun _ _ _ _ _ => by exact (dt_cmp (op_inQ hr) se_inS (de_tup (da_cons (de_var 15) da_nil)) (de_var 5) (by with_unfolding_all rfl))) (fun _ _ _ _ _ => by exact (de_var 15)))) da_nil)))
      (dss_cons (ds_set (i := 7) nd (de_callTy call_tupleF se_tuple (by rfl) B.tuple boot_tuple (da_cons (de_lcT (de_var 4) (blk1 (own := [("_law_label", 15), ("_law_box", 16)]) rfl nd (blkOk_by (N := N_law) (sc := _) (by kernel_rfl)) (sg_tup (sg_cons (sg_name 15) (sg_cons (sg_name 16) sg_nil))) (by decide) (fun _ _ _ _ _ => by exact (pg_tup rfl (pgs_cons (pg_name (i := 15) nd rfl (by first | exact Or.inl rfl | exact Or.inr rfl)) (pgs_cons (pg_name (i := 16) nd rfl (by first | exact Or.inl rfl | exact Or.inr rfl)) pgs_nil)))) (fun _ _ _ _ _ => by exact (dt_cmp (op_inQ hr) se_inS (de_tup (da_cons (de_var 15) da_nil)) (de_var 5) (by with_unfolding_all rfl))) (fun _ _ _ _ _ => by exact (de_var 15)))) da_nil)))
      (dss_cons (ds_set (i := 8) nd (de_call D_law_fewest (hr.mono (by omega)) (by rfl) (da_cons (de_var 6) (da_cons (de_var 7) da_nil))))
      (dss_cons (ds_set (i := 9) nd (de_call D_paper_of (hr.mono (by omega)) (by rfl) (da_cons (de_var 3) (da_cons (de_var 4) da_nil))))
      (dss_cons (ds_if (dt_cmp op_isnot_bl se_notB (de_call D_lets_by (hr.mono (by omega)) (by rfl) (da_cons (de_var 3) (da_cons (de_var 4) (da_cons (de_var 9) da_nil)))) de_bl (nomark _)) (dss_one (ds_ret de_bl)) dss_nil)
      (dss_cons (ds_set (i := 10) nd (de_lcT (de_ix ix_both se_ix (de_var 9) de_int) (blk1 (own := [("_law_deed", 13)]) rfl nd (blkOk_by (N := N_law) (sc := _) (by kernel_rfl)) (sg_name 13) (by decide) (fun _ _ _ _ _ => by exact (pg_name (i := 13) nd rfl (by first | exact Or.inl rfl | exact Or.inr rfl))) (fun _ _ _ _ _ => by exact (dt_cmp (op_eqD hu64) se_eq (de_ix ix_both se_ix (de_var 13) de_int) (de_tup da_nil) (nomark _))) (fun _ _ _ _ _ => by exact (de_var 13)))))
      (dss_cons (ds_lcL (i := 11) (de_lst (da_cons de_str (da_cons de_str (da_cons de_str da_nil)))) (blk0 (own := [("_law_word", 14)]) rfl nd (blkOk_by (N := N_law) (sc := _) (by kernel_rfl)) (sg_name 14) (by decide) (fun _ _ _ _ _ => by exact (pg_name (i := 14) nd rfl (by first | exact Or.inl rfl | exact Or.inr rfl))) (fun _ _ _ _ _ => by exact (de_callB call_len_seq se_len (by rfl) B.len PySem.boot_len (da_cons (de_lcL (de_var 10) (blk1 (own := [("_law_deed", 13)]) rfl nd (blkOk_by (N := N_law) (sc := _) (by kernel_rfl)) (sg_name 13) (by decide) (fun _ _ _ _ _ => by exact (pg_name (i := 13) nd rfl (by first | exact Or.inl rfl | exact Or.inr rfl))) (fun _ _ _ _ _ => by exact (dt_cmp (op_eqD hu64) se_eq (de_ix ix_both se_ix (de_var 13) de_int) (de_var 14) (nomark _))) (fun _ _ _ _ _ => by exact (de_var 13)))) da_nil)))) rfl (sw_true rfl rfl rfl (by decide +kernel)))
      (dss_cons (ds_if (dt_cmp (op_neD hu64) se_ne (de_var 11) (de_lst (da_cons (de_var 8) (da_cons (de_op op_sub se_sub (de_callB call_len_seq se_len (by rfl) B.len PySem.boot_len (da_cons (de_var 3) da_nil)) (de_callB call_len_seq se_len (by rfl) B.len PySem.boot_len (da_cons (de_var 6) da_nil))) (da_cons (de_op op_sub se_sub (de_callB call_len_seq se_len (by rfl) B.len PySem.boot_len (da_cons (de_var 4) da_nil)) (de_callB call_len_seq se_len (by rfl) B.len PySem.boot_len (da_cons (de_var 7) da_nil))) da_nil)))) (nomark _)) (dss_one (ds_ret de_bl)) dss_nil)
      (dss_cons (ds_if (dt_cmp (op_neD hu64) se_ne (de_lcL (de_var 10) (blk1 (own := [("_law_deed", 13)]) rfl nd (blkOk_by (N := N_law) (sc := _) (by kernel_rfl)) (sg_name 13) (by decide) (fun _ _ _ _ _ => by exact (pg_name (i := 13) nd rfl (by first | exact Or.inl rfl | exact Or.inr rfl))) (fun _ _ _ _ _ => by exact (PW.pt (dw_and (dt_cmp (op_eqD hu64) se_eq (de_ix ix_both se_ix (de_var 13) de_int) de_str (nomark _)) (dw_and1 (dt_cmp (op_inQ hr) se_inS (de_ix ix_both se_ix (de_var 13) de_int) (de_var 6) (by with_unfolding_all rfl)))))) (fun _ _ _ _ _ => by exact (de_var 13)))) (de_lst da_nil) (nomark _)) (dss_one (ds_ret de_bl)) dss_nil)
      (dss_cons (ds_set (i := 12) nd (de_call D_row_paper (hr.mono (by omega)) (by rfl) (da_cons (de_var 6) (da_cons (de_var 7) da_nil))))
      (dss_one (ds_ret (de_and (de_cmp op_is_bl se_isB (de_call D_lets_row (hr.mono (by omega)) (by rfl) (da_cons (de_var 6) (da_cons (de_var 7) (da_cons (de_var 12) da_nil)))) de_bl (nomark _)) (de_one (de_cmp (op_eqD hu64) se_eq (de_callB call_len_seq se_len (by rfl) B.len PySem.boot_len (da_cons (de_ix ix_both se_ix (de_var 12) de_int) da_nil)) (de_op op_sub se_sub (de_callB call_len_seq se_len (by rfl) B.len PySem.boot_len (da_cons (de_var 6) da_nil)) (de_var 8)) (nomark _)))))))))))))))))))))
end
end VW

set_option maxHeartbeats 0
/-! viewwood k93: printed by genh.py: what the top leaves. -/
namespace VW
open PySem PySem.Spec PyProof.Rows L2
def dd_is_whole : He.DefD := ⟨("is_whole", none), "is_whole", "is_whole", defArgs s_is_whole, defBody s_is_whole, defScope s_is_whole, [], []⟩
def dd_is_number : He.DefD := ⟨("is_number", none), "is_number", "is_number", defArgs s_is_number, defBody s_is_number, defScope s_is_number, [], []⟩
def dd_is_name : He.DefD := ⟨("is_name", none), "is_name", "is_name", defArgs s_is_name, defBody s_is_name, defScope s_is_name, [], []⟩
def dd_is_count : He.DefD := ⟨("is_count", none), "is_count", "is_count", defArgs s_is_count, defBody s_is_count, defScope s_is_count, [], []⟩
def dd_is_spot : He.DefD := ⟨("is_spot", none), "is_spot", "is_spot", defArgs s_is_spot, defBody s_is_spot, defScope s_is_spot, [], []⟩
def dd_is_path : He.DefD := ⟨("is_path", none), "is_path", "is_path", defArgs s_is_path, defBody s_is_path, defScope s_is_path, [], []⟩
def dd_is_label : He.DefD := ⟨("is_label", none), "is_label", "is_label", defArgs s_is_label, defBody s_is_label, defScope s_is_label, [], []⟩
def dd_is_address : He.DefD := ⟨("is_address", none), "is_address", "is_address", defArgs s_is_address, defBody s_is_address, defScope s_is_address, [], []⟩
def dd_is_deed : He.DefD := ⟨("is_deed", none), "is_deed", "is_deed", defArgs s_is_deed, defBody s_is_deed, defScope s_is_deed, [], []⟩
def dd_place_of : He.DefD := ⟨("place_of", none), "place_of", "place_of", defArgs s_place_of, defBody s_place_of, defScope s_place_of, [], []⟩
def dd_box_found : He.DefD := ⟨("box_found", none), "box_found", "box_found", defArgs s_box_found, defBody s_box_found, defScope s_box_found, [], []⟩
def dd_row_found : He.DefD := ⟨("row_found", none), "row_found", "row_found", defArgs s_row_found, defBody s_row_found, defScope s_row_found, [], []⟩
def dd_with_box : He.DefD := ⟨("with_box", none), "with_box", "with_box", defArgs s_with_box, defBody s_with_box, defScope s_with_box, [], []⟩
def dd_with_row : He.DefD := ⟨("with_row", none), "with_row", "with_row", defArgs s_with_row, defBody s_with_row, defScope s_with_row, [], []⟩
def dd_turned_row : He.DefD := ⟨("turned_row", none), "turned_row", "turned_row", defArgs s_turned_row, defBody s_turned_row, defScope s_turned_row, [], []⟩
def dd_turned_box : He.DefD := ⟨("turned_box", none), "turned_box", "turned_box", defArgs s_turned_box, defBody s_turned_box, defScope s_turned_box, [], []⟩
def dd_turned : He.DefD := ⟨("turned", none), "turned", "turned", defArgs s_turned, defBody s_turned, defScope s_turned, [], []⟩
def dd_led : He.DefD := ⟨("led", none), "led", "led", defArgs s_led, defBody s_led, defScope s_led, [], []⟩
def dd_places_in : He.DefD := ⟨("places_in", none), "places_in", "places_in", defArgs s_places_in, defBody s_places_in, defScope s_places_in, [], []⟩
def dd_piles_of : He.DefD := ⟨("piles_of", none), "piles_of", "piles_of", defArgs s_piles_of, defBody s_piles_of, defScope s_piles_of, [], []⟩
def dd_row_paper : He.DefD := ⟨("row_paper", none), "row_paper", "row_paper", defArgs s_row_paper, defBody s_row_paper, defScope s_row_paper, [], []⟩
def dd_is_common : He.DefD := ⟨("is_common", none), "is_common", "is_common", defArgs s_is_common, defBody s_is_common, defScope s_is_common, [], []⟩
def dd_goes_on : He.DefD := ⟨("goes_on", none), "goes_on", "goes_on", defArgs s_goes_on, defBody s_goes_on, defScope s_goes_on, [], []⟩
def dd_lets_row : He.DefD := ⟨("lets_row", none), "lets_row", "lets_row", defArgs s_lets_row, defBody s_lets_row, defScope s_lets_row, [], []⟩
def dd_is_kept : He.DefD := ⟨("is_kept", none), "is_kept", "is_kept", defArgs s_is_kept, defBody s_is_kept, defScope s_is_kept, [], []⟩
def dd_kept_labels : He.DefD := ⟨("kept_labels", none), "kept_labels", "kept_labels", defArgs s_kept_labels, defBody s_kept_labels, defScope s_kept_labels, [], []⟩
def dd_kept_below : He.DefD := ⟨("kept_below", none), "kept_below", "kept_below", defArgs s_kept_below, defBody s_kept_below, defScope s_kept_below, [], []⟩
def dd_kept : He.DefD := ⟨("kept", none), "kept", "kept", defArgs s_kept, defBody s_kept, defScope s_kept, [], []⟩
def dd_fill_deeds : He.DefD := ⟨("fill_deeds", none), "fill_deeds", "fill_deeds", defArgs s_fill_deeds, defBody s_fill_deeds, defScope s_fill_deeds, [], []⟩
def dd_box_deeds : He.DefD := ⟨("box_deeds", none), "box_deeds", "box_deeds", defArgs s_box_deeds, defBody s_box_deeds, defScope s_box_deeds, [], []⟩
def dd_place_behind : He.DefD := ⟨("place_behind", none), "place_behind", "place_behind", defArgs s_place_behind, defBody s_place_behind, defScope s_place_behind, [], []⟩
def dd_order_deeds : He.DefD := ⟨("order_deeds", none), "order_deeds", "order_deeds", defArgs s_order_deeds, defBody s_order_deeds, defScope s_order_deeds, [], []⟩
def dd_row_deeds : He.DefD := ⟨("row_deeds", none), "row_deeds", "row_deeds", defArgs s_row_deeds, defBody s_row_deeds, defScope s_row_deeds, [], []⟩
def dd_paper_of : He.DefD := ⟨("paper_of", none), "paper_of", "paper_of", defArgs s_paper_of, defBody s_paper_of, defScope s_paper_of, [], []⟩
def dd_is_row_paper : He.DefD := ⟨("is_row_paper", none), "is_row_paper", "is_row_paper", defArgs s_is_row_paper, defBody s_is_row_paper, defScope s_is_row_paper, [], []⟩
def dd_is_paper : He.DefD := ⟨("is_paper", none), "is_paper", "is_paper", defArgs s_is_paper, defBody s_is_paper, defScope s_is_paper, [], []⟩
def dd_leads : He.DefD := ⟨("leads", none), "leads", "leads", defArgs s_leads, defBody s_leads, defScope s_leads, [], []⟩
def dd_rows_fit : He.DefD := ⟨("rows_fit", none), "rows_fit", "rows_fit", defArgs s_rows_fit, defBody s_rows_fit, defScope s_rows_fit, [], []⟩
def dd_mark_of : He.DefD := ⟨("mark_of", none), "mark_of", "mark_of", defArgs s_mark_of, defBody s_mark_of, defScope s_mark_of, [], []⟩
def dd_row_deed_fits : He.DefD := ⟨("row_deed_fits", none), "row_deed_fits", "row_deed_fits", defArgs s_row_deed_fits, defBody s_row_deed_fits, defScope s_row_deed_fits, [], []⟩
def dd_box_deed_fits : He.DefD := ⟨("box_deed_fits", none), "box_deed_fits", "box_deed_fits", defArgs s_box_deed_fits, defBody s_box_deed_fits, defScope s_box_deed_fits, [], []⟩
def dd_fill_deed_fits : He.DefD := ⟨("fill_deed_fits", none), "fill_deed_fits", "fill_deed_fits", defArgs s_fill_deed_fits, defBody s_fill_deed_fits, defScope s_fill_deed_fits, [], []⟩
def dd_lets_by : He.DefD := ⟨("lets_by", none), "lets_by", "lets_by", defArgs s_lets_by, defBody s_lets_by, defScope s_lets_by, [], []⟩
def dd_law_tape : He.DefD := ⟨("_law_tape", none), "_law_tape", "_law_tape", defArgs s_law_tape, defBody s_law_tape, defScope s_law_tape, [], []⟩
def dd_law_draw : He.DefD := ⟨("_law_draw", none), "_law_draw", "_law_draw", defArgs s_law_draw, defBody s_law_draw, defScope s_law_draw, [], []⟩
def dd_law_kept : He.DefD := ⟨("_law_kept", none), "_law_kept", "_law_kept", defArgs s_law_kept, defBody s_law_kept, defScope s_law_kept, [], []⟩
def dd_law_labels : He.DefD := ⟨("_law_labels", none), "_law_labels", "_law_labels", defArgs s_law_labels, defBody s_law_labels, defScope s_law_labels, [], []⟩
def dd_law_some_row : He.DefD := ⟨("_law_some_row", none), "_law_some_row", "_law_some_row", defArgs s_law_some_row, defBody s_law_some_row, defScope s_law_some_row, [], []⟩
def dd_law_fewest : He.DefD := ⟨("_law_fewest", none), "_law_fewest", "_law_fewest", defArgs s_law_fewest, defBody s_law_fewest, defScope s_law_fewest, [], []⟩
def dd_law : He.DefD := ⟨("law", none), "law", "law", defArgs s_law, defBody s_law, defScope s_law, [], []⟩
def fnAll : List He.DefD := [dd_is_whole, dd_is_number, dd_is_name, dd_is_count, dd_is_spot, dd_is_path, dd_is_label, dd_is_address, dd_is_deed, dd_place_of, dd_box_found, dd_row_found, dd_with_box, dd_with_row, dd_turned_row, dd_turned_box, dd_turned, dd_led, dd_places_in, dd_piles_of, dd_row_paper, dd_is_common, dd_goes_on, dd_lets_row, dd_is_kept, dd_kept_labels, dd_kept_below, dd_kept, dd_fill_deeds, dd_box_deeds, dd_place_behind, dd_order_deeds, dd_row_deeds, dd_paper_of, dd_is_row_paper, dd_is_paper, dd_leads, dd_rows_fit, dd_mark_of, dd_row_deed_fits, dd_box_deed_fits, dd_fill_deed_fits, dd_lets_by, dd_law_tape, dd_law_draw, dd_law_kept, dd_law_labels, dd_law_some_row, dd_law_fewest, dd_law]
def faA : List He.Fa := [.free "len", .free "isinstance", .free "tuple", .free "str", .free "int", .free "bool", .free "all", .free "range", .free "list", .free "set", .free "dict", .free "sorted", .free "abs", .int "GREATEST" 1000000000, .str "LETTERS" "abcdefghijklmnopqrstuvwxyz", .glo "LENGTHS", .glo "is_whole", .glo "is_number", .glo "is_name", .glo "is_count", .glo "is_spot", .glo "is_path", .glo "is_label", .glo "is_address", .glo "is_deed", .glo "place_of", .glo "box_found", .glo "row_found", .glo "with_box", .glo "with_row"]
def faB : List He.Fa := [.glo "turned_row", .glo "turned_box", .glo "turned", .glo "led", .glo "places_in", .glo "piles_of", .glo "row_paper", .glo "is_common", .glo "goes_on", .glo "lets_row", .glo "is_kept", .glo "kept_labels", .glo "kept_below", .glo "kept", .glo "fill_deeds", .glo "box_deeds", .glo "place_behind", .glo "order_deeds", .glo "row_deeds", .glo "paper_of", .glo "is_row_paper", .glo "is_paper", .glo "leads", .glo "rows_fit", .glo "mark_of", .glo "row_deed_fits", .glo "box_deed_fits", .glo "fill_deed_fits", .glo "lets_by", .glo "_law_tape", .glo "_law_draw", .glo "_law_kept", .glo "_law_labels", .glo "_law_some_row", .glo "_law_fewest", .glo "law"]
def faAll : List He.Fa := faA ++ faB
def looseA : List Str := ["ViewError", "NoDeed", "GREATEST", "LETTERS", "is_whole", "is_number", "is_name", "LENGTHS", "WORDS", "is_count", "is_spot", "is_path", "is_label", "is_address", "is_hand_change", "is_hand", "is_hands", "is_deed", "place_of", "box_found", "row_found", "with_box", "with_row", "turned_row", "turned_box", "turned", "led", "places_in", "piles_of", "row_paper", "is_common", "goes_on"]
def looseB : List Str := ["lets_row", "is_kept", "kept_labels", "kept_below", "kept", "fill_deeds", "box_deeds", "place_behind", "order_deeds", "row_deeds", "paper_of", "is_row_paper", "is_paper", "leads", "rows_fit", "mark_of", "row_deed_fits", "box_deed_fits", "fill_deed_fits", "lets_by", "_law_tape", "_law_draw", "_law_kept", "_law_labels", "_law_some_row", "_law_fewest"]
def looseN : List Str := looseA ++ looseB
def lenV : List (Str × He.Dv) := lenT.map fun p => (p.1, .int p.2)
def tabs : List He.Tab := [(fun K => He.ga K "LENGTHS", lenT.map (·.1))]
abbrev HkA : Type := He.AlT × Bool
def obsV (K : PySem.W.Frag) : HkA := (He.obsT faAll fnAll tabs K, He.valsB K (He.ga K "LENGTHS") lenV)
def valV (w : World) : HkA := (He.valT fnAll tabs w, true)
def SaysV (w : World) (K : PySem.W.Frag) : Prop := obsV K = valV w
def obsVG (n : Nat) (get : Addr → Option Obj) : HkA := obsV (He.frG get (He.asD get n))
def hookV (n : Nat) : PySem.W.Hook where
  α := HkA
  obs := fun s => obsVG n s.heap.get?
  val := fun w => valV w
  says := fun w h => ∃ K : PySem.W.Frag, K.In h ∧ SaysV w K
  of := fun _ _ e => ⟨_, He.frG_in, e⟩
  keeps := fun _ _ _ ⟨K, hK, c⟩ k => ⟨K, PySem.W.Frag.In.keeps hK k, c⟩
theorem obsVG_eq {n : Nat} {get : Addr → Option Obj} {s : Shared} (h : ∀ a, get a = s.heap.get? a) : obsVG n get = (hookV n).obs s := by
  have e : get = s.heap.get? := funext h
  rw [e] <;> rfl
theorem fun_of {K : PySem.W.Frag} {x qual : Str} {st : Stmt} {f : Addr} {fd : FuncData} (F : FunD K x qual (defArgs st) (defBody st) (defScope st) [] [] f fd) : Fun K x qual st f fd := by
  obtain ⟨⟨oc, od, dV, kV, doc, pm, an, cdv, ct, osl, h1, h2, h3, h4, h5⟩, kp⟩ := F
  rcases h4 with ⟨_, h4⟩ | ⟨h4, _⟩
  · subst h4
    exact ⟨⟨oc, od, kV, doc, pm, an, cdv, ct, osl, h1, h2, h3⟩, kp⟩
  · exact absurd rfl h4
section
variable {K : PySem.W.Frag} {w : World} {mg : Str → Option Value} {h : Heap}
theorem SaysV.t (c : SaysV w K) : He.SaysT faAll fnAll tabs w K := congrArg (fun z : HkA => z.1) c
theorem lenF_of (c : SaysV w K) (hm : mg "LENGTHS" = some (.ref (He.ga K "LENGTHS"))) : LenF K w mg := by
  obtain ⟨es, n, D⟩ := c.t.tab 0 (t := (fun K => He.ga K "LENGTHS", lenT.map (·.1))) rfl
  refine ⟨_, es, n, hm, D, fun p hp => ?_⟩
  have c2 : He.valsB K (He.ga K "LENGTHS") lenV = true := congrArg (fun z : HkA => z.2) c
  obtain ⟨u, h1, h2⟩ := He.valsB_ok c2 (q := (p.1, .int p.2)) (List.mem_map.mpr ⟨p, hp, rfl⟩)
  obtain ⟨t, rfl⟩ := h2
  exact ⟨t, h1⟩
def spLaw (K : PySem.W.Frag) (P : Program) (w : World) : Sp := fun vs H Q _ => ∃ (a : Addr) (ns : List Int), vs = [.ref a] ∧ SqL K H a (ns.map V.int) ∧ ns.length ≤ 63 ∧ ∀ H', Q (.bl true) H'

theorem facts_law {P : Program} {fl : Addr} (X : K.In h) (G : h.Ns mainGlobals mg) (hfa : mg ("law" : Str) = some (.ref fl)) (c : SaysV w K) :
    ∃ fd : FuncData, (∀ (s : Shared) (v : Value), BindsTo s fd ⟨[v], []⟩ [("_law_script", v)]) ∧ ∀ (base : Heap) (g : Gs), FnOk P w K mg base CX0 11 fl fd ["_law_script"] (spD ⟨P, w, K, g.sa, g.S⟩ F_law) := by
  have cd := c.t.d
  obtain ⟨fd0, FF0⟩ := cd.def_ 0 (d := dd_is_whole) rfl
  have U0 := fun_of (st := s_is_whole) FF0
  have M0 : mg "is_whole" = some (.ref (He.ga K "is_whole")) := He.glo_ok X G (cd.fact 16 (f := .glo "is_whole") rfl)
  obtain ⟨fd1, FF1⟩ := cd.def_ 1 (d := dd_is_number) rfl
  have U1 := fun_of (st := s_is_number) FF1
  have M1 : mg "is_number" = some (.ref (He.ga K "is_number")) := He.glo_ok X G (cd.fact 17 (f := .glo "is_number") rfl)
  obtain ⟨fd2, FF2⟩ := cd.def_ 2 (d := dd_is_name) rfl
  have U2 := fun_of (st := s_is_name) FF2
  have M2 : mg "is_name" = some (.ref (He.ga K "is_name")) := He.glo_ok X G (cd.fact 18 (f := .glo "is_name") rfl)
  obtain ⟨fd3, FF3⟩ := cd.def_ 3 (d := dd_is_count) rfl
  have U3 := fun_of (st := s_is_count) FF3
  have M3 : mg "is_count" = some (.ref (He.ga K "is_count")) := He.glo_ok X G (cd.fact 19 (f := .glo "is_count") rfl)
  obtain ⟨fd4, FF4⟩ := cd.def_ 4 (d := dd_is_spot) rfl
  have U4 := fun_of (st := s_is_spot) FF4
  have M4 : mg "is_spot" = some (.ref (He.ga K "is_spot")) := He.glo_ok X G (cd.fact 20 (f := .glo "is_spot") rfl)
  obtain ⟨fd5, FF5⟩ := cd.def_ 5 (d := dd_is_path) rfl
  have U5 := fun_of (st := s_is_path) FF5
  have M5 : mg "is_path" = some (.ref (He.ga K "is_path")) := He.glo_ok X G (cd.fact 21 (f := .glo "is_path") rfl)
  obtain ⟨fd6, FF6⟩ := cd.def_ 6 (d := dd_is_label) rfl
  have U6 := fun_of (st := s_is_label) FF6
  have M6 : mg "is_label" = some (.ref (He.ga K "is_label")) := He.glo_ok X G (cd.fact 22 (f := .glo "is_label") rfl)
  obtain ⟨fd7, FF7⟩ := cd.def_ 7 (d := dd_is_address) rfl
  have U7 := fun_of (st := s_is_address) FF7
  have M7 : mg "is_address" = some (.ref (He.ga K "is_address")) := He.glo_ok X G (cd.fact 23 (f := .glo "is_address") rfl)
  obtain ⟨fd8, FF8⟩ := cd.def_ 8 (d := dd_is_deed) rfl
  have U8 := fun_of (st := s_is_deed) FF8
  have M8 : mg "is_deed" = some (.ref (He.ga K "is_deed")) := He.glo_ok X G (cd.fact 24 (f := .glo "is_deed") rfl)
  obtain ⟨fd9, FF9⟩ := cd.def_ 9 (d := dd_place_of) rfl
  have U9 := fun_of (st := s_place_of) FF9
  have M9 : mg "place_of" = some (.ref (He.ga K "place_of")) := He.glo_ok X G (cd.fact 25 (f := .glo "place_of") rfl)
  obtain ⟨fd10, FF10⟩ := cd.def_ 10 (d := dd_box_found) rfl
  have U10 := fun_of (st := s_box_found) FF10
  have M10 : mg "box_found" = some (.ref (He.ga K "box_found")) := He.glo_ok X G (cd.fact 26 (f := .glo "box_found") rfl)
  obtain ⟨fd11, FF11⟩ := cd.def_ 11 (d := dd_row_found) rfl
  have U11 := fun_of (st := s_row_found) FF11
  have M11 : mg "row_found" = some (.ref (He.ga K "row_found")) := He.glo_ok X G (cd.fact 27 (f := .glo "row_found") rfl)
  obtain ⟨fd12, FF12⟩ := cd.def_ 12 (d := dd_with_box) rfl
  have U12 := fun_of (st := s_with_box) FF12
  have M12 : mg "with_box" = some (.ref (He.ga K "with_box")) := He.glo_ok X G (cd.fact 28 (f := .glo "with_box") rfl)
  obtain ⟨fd13, FF13⟩ := cd.def_ 13 (d := dd_with_row) rfl
  have U13 := fun_of (st := s_with_row) FF13
  have M13 : mg "with_row" = some (.ref (He.ga K "with_row")) := He.glo_ok X G (cd.fact 29 (f := .glo "with_row") rfl)
  obtain ⟨fd14, FF14⟩ := cd.def_ 14 (d := dd_turned_row) rfl
  have U14 := fun_of (st := s_turned_row) FF14
  have M14 : mg "turned_row" = some (.ref (He.ga K "turned_row")) := He.glo_ok X G (cd.fact 30 (f := .glo "turned_row") rfl)
  obtain ⟨fd15, FF15⟩ := cd.def_ 15 (d := dd_turned_box) rfl
  have U15 := fun_of (st := s_turned_box) FF15
  have M15 : mg "turned_box" = some (.ref (He.ga K "turned_box")) := He.glo_ok X G (cd.fact 31 (f := .glo "turned_box") rfl)
  obtain ⟨fd16, FF16⟩ := cd.def_ 16 (d := dd_turned) rfl
  have U16 := fun_of (st := s_turned) FF16
  have M16 : mg "turned" = some (.ref (He.ga K "turned")) := He.glo_ok X G (cd.fact 32 (f := .glo "turned") rfl)
  obtain ⟨fd17, FF17⟩ := cd.def_ 17 (d := dd_led) rfl
  have U17 := fun_of (st := s_led) FF17
  have M17 : mg "led" = some (.ref (He.ga K "led")) := He.glo_ok X G (cd.fact 33 (f := .glo "led") rfl)
  obtain ⟨fd18, FF18⟩ := cd.def_ 18 (d := dd_places_in) rfl
  have U18 := fun_of (st := s_places_in) FF18
  have M18 : mg "places_in" = some (.ref (He.ga K "places_in")) := He.glo_ok X G (cd.fact 34 (f := .glo "places_in") rfl)
  obtain ⟨fd19, FF19⟩ := cd.def_ 19 (d := dd_piles_of) rfl
  have U19 := fun_of (st := s_piles_of) FF19
  have M19 : mg "piles_of" = some (.ref (He.ga K "piles_of")) := He.glo_ok X G (cd.fact 35 (f := .glo "piles_of") rfl)
  obtain ⟨fd20, FF20⟩ := cd.def_ 20 (d := dd_row_paper) rfl
  have U20 := fun_of (st := s_row_paper) FF20
  have M20 : mg "row_paper" = some (.ref (He.ga K "row_paper")) := He.glo_ok X G (cd.fact 36 (f := .glo "row_paper") rfl)
  obtain ⟨fd21, FF21⟩ := cd.def_ 21 (d := dd_is_common) rfl
  have U21 := fun_of (st := s_is_common) FF21
  have M21 : mg "is_common" = some (.ref (He.ga K "is_common")) := He.glo_ok X G (cd.fact 37 (f := .glo "is_common") rfl)
  obtain ⟨fd22, FF22⟩ := cd.def_ 22 (d := dd_goes_on) rfl
  have U22 := fun_of (st := s_goes_on) FF22
  have M22 : mg "goes_on" = some (.ref (He.ga K "goes_on")) := He.glo_ok X G (cd.fact 38 (f := .glo "goes_on") rfl)
  obtain ⟨fd23, FF23⟩ := cd.def_ 23 (d := dd_lets_row) rfl
  have U23 := fun_of (st := s_lets_row) FF23
  have M23 : mg "lets_row" = some (.ref (He.ga K "lets_row")) := He.glo_ok X G (cd.fact 39 (f := .glo "lets_row") rfl)
  obtain ⟨fd24, FF24⟩ := cd.def_ 24 (d := dd_is_kept) rfl
  have U24 := fun_of (st := s_is_kept) FF24
  have M24 : mg "is_kept" = some (.ref (He.ga K "is_kept")) := He.glo_ok X G (cd.fact 40 (f := .glo "is_kept") rfl)
  obtain ⟨fd25, FF25⟩ := cd.def_ 25 (d := dd_kept_labels) rfl
  have U25 := fun_of (st := s_kept_labels) FF25
  have M25 : mg "kept_labels" = some (.ref (He.ga K "kept_labels")) := He.glo_ok X G (cd.fact 41 (f := .glo "kept_labels") rfl)
  obtain ⟨fd26, FF26⟩ := cd.def_ 26 (d := dd_kept_below) rfl
  have U26 := fun_of (st := s_kept_below) FF26
  have M26 : mg "kept_below" = some (.ref (He.ga K "kept_below")) := He.glo_ok X G (cd.fact 42 (f := .glo "kept_below") rfl)
  obtain ⟨fd27, FF27⟩ := cd.def_ 27 (d := dd_kept) rfl
  have U27 := fun_of (st := s_kept) FF27
  have M27 : mg "kept" = some (.ref (He.ga K "kept")) := He.glo_ok X G (cd.fact 43 (f := .glo "kept") rfl)
  obtain ⟨fd28, FF28⟩ := cd.def_ 28 (d := dd_fill_deeds) rfl
  have U28 := fun_of (st := s_fill_deeds) FF28
  have M28 : mg "fill_deeds" = some (.ref (He.ga K "fill_deeds")) := He.glo_ok X G (cd.fact 44 (f := .glo "fill_deeds") rfl)
  obtain ⟨fd29, FF29⟩ := cd.def_ 29 (d := dd_box_deeds) rfl
  have U29 := fun_of (st := s_box_deeds) FF29
  have M29 : mg "box_deeds" = some (.ref (He.ga K "box_deeds")) := He.glo_ok X G (cd.fact 45 (f := .glo "box_deeds") rfl)
  obtain ⟨fd30, FF30⟩ := cd.def_ 30 (d := dd_place_behind) rfl
  have U30 := fun_of (st := s_place_behind) FF30
  have M30 : mg "place_behind" = some (.ref (He.ga K "place_behind")) := He.glo_ok X G (cd.fact 46 (f := .glo "place_behind") rfl)
  obtain ⟨fd31, FF31⟩ := cd.def_ 31 (d := dd_order_deeds) rfl
  have U31 := fun_of (st := s_order_deeds) FF31
  have M31 : mg "order_deeds" = some (.ref (He.ga K "order_deeds")) := He.glo_ok X G (cd.fact 47 (f := .glo "order_deeds") rfl)
  obtain ⟨fd32, FF32⟩ := cd.def_ 32 (d := dd_row_deeds) rfl
  have U32 := fun_of (st := s_row_deeds) FF32
  have M32 : mg "row_deeds" = some (.ref (He.ga K "row_deeds")) := He.glo_ok X G (cd.fact 48 (f := .glo "row_deeds") rfl)
  obtain ⟨fd33, FF33⟩ := cd.def_ 33 (d := dd_paper_of) rfl
  have U33 := fun_of (st := s_paper_of) FF33
  have M33 : mg "paper_of" = some (.ref (He.ga K "paper_of")) := He.glo_ok X G (cd.fact 49 (f := .glo "paper_of") rfl)
  obtain ⟨fd34, FF34⟩ := cd.def_ 34 (d := dd_is_row_paper) rfl
  have U34 := fun_of (st := s_is_row_paper) FF34
  have M34 : mg "is_row_paper" = some (.ref (He.ga K "is_row_paper")) := He.glo_ok X G (cd.fact 50 (f := .glo "is_row_paper") rfl)
  obtain ⟨fd35, FF35⟩ := cd.def_ 35 (d := dd_is_paper) rfl
  have U35 := fun_of (st := s_is_paper) FF35
  have M35 : mg "is_paper" = some (.ref (He.ga K "is_paper")) := He.glo_ok X G (cd.fact 51 (f := .glo "is_paper") rfl)
  obtain ⟨fd36, FF36⟩ := cd.def_ 36 (d := dd_leads) rfl
  have U36 := fun_of (st := s_leads) FF36
  have M36 : mg "leads" = some (.ref (He.ga K "leads")) := He.glo_ok X G (cd.fact 52 (f := .glo "leads") rfl)
  obtain ⟨fd37, FF37⟩ := cd.def_ 37 (d := dd_rows_fit) rfl
  have U37 := fun_of (st := s_rows_fit) FF37
  have M37 : mg "rows_fit" = some (.ref (He.ga K "rows_fit")) := He.glo_ok X G (cd.fact 53 (f := .glo "rows_fit") rfl)
  obtain ⟨fd38, FF38⟩ := cd.def_ 38 (d := dd_mark_of) rfl
  have U38 := fun_of (st := s_mark_of) FF38
  have M38 : mg "mark_of" = some (.ref (He.ga K "mark_of")) := He.glo_ok X G (cd.fact 54 (f := .glo "mark_of") rfl)
  obtain ⟨fd39, FF39⟩ := cd.def_ 39 (d := dd_row_deed_fits) rfl
  have U39 := fun_of (st := s_row_deed_fits) FF39
  have M39 : mg "row_deed_fits" = some (.ref (He.ga K "row_deed_fits")) := He.glo_ok X G (cd.fact 55 (f := .glo "row_deed_fits") rfl)
  obtain ⟨fd40, FF40⟩ := cd.def_ 40 (d := dd_box_deed_fits) rfl
  have U40 := fun_of (st := s_box_deed_fits) FF40
  have M40 : mg "box_deed_fits" = some (.ref (He.ga K "box_deed_fits")) := He.glo_ok X G (cd.fact 56 (f := .glo "box_deed_fits") rfl)
  obtain ⟨fd41, FF41⟩ := cd.def_ 41 (d := dd_fill_deed_fits) rfl
  have U41 := fun_of (st := s_fill_deed_fits) FF41
  have M41 : mg "fill_deed_fits" = some (.ref (He.ga K "fill_deed_fits")) := He.glo_ok X G (cd.fact 57 (f := .glo "fill_deed_fits") rfl)
  obtain ⟨fd42, FF42⟩ := cd.def_ 42 (d := dd_lets_by) rfl
  have U42 := fun_of (st := s_lets_by) FF42
  have M42 : mg "lets_by" = some (.ref (He.ga K "lets_by")) := He.glo_ok X G (cd.fact 58 (f := .glo "lets_by") rfl)
  obtain ⟨fd43, FF43⟩ := cd.def_ 43 (d := dd_law_tape) rfl
  have U43 := fun_of (st := s_law_tape) FF43
  have M43 : mg "_law_tape" = some (.ref (He.ga K "_law_tape")) := He.glo_ok X G (cd.fact 59 (f := .glo "_law_tape") rfl)
  obtain ⟨fd44, FF44⟩ := cd.def_ 44 (d := dd_law_draw) rfl
  have U44 := fun_of (st := s_law_draw) FF44
  have M44 : mg "_law_draw" = some (.ref (He.ga K "_law_draw")) := He.glo_ok X G (cd.fact 60 (f := .glo "_law_draw") rfl)
  obtain ⟨fd45, FF45⟩ := cd.def_ 45 (d := dd_law_kept) rfl
  have U45 := fun_of (st := s_law_kept) FF45
  have M45 : mg "_law_kept" = some (.ref (He.ga K "_law_kept")) := He.glo_ok X G (cd.fact 61 (f := .glo "_law_kept") rfl)
  obtain ⟨fd46, FF46⟩ := cd.def_ 46 (d := dd_law_labels) rfl
  have U46 := fun_of (st := s_law_labels) FF46
  have M46 : mg "_law_labels" = some (.ref (He.ga K "_law_labels")) := He.glo_ok X G (cd.fact 62 (f := .glo "_law_labels") rfl)
  obtain ⟨fd47, FF47⟩ := cd.def_ 47 (d := dd_law_some_row) rfl
  have U47 := fun_of (st := s_law_some_row) FF47
  have M47 : mg "_law_some_row" = some (.ref (He.ga K "_law_some_row")) := He.glo_ok X G (cd.fact 63 (f := .glo "_law_some_row") rfl)
  obtain ⟨fd48, FF48⟩ := cd.def_ 48 (d := dd_law_fewest) rfl
  have U48 := fun_of (st := s_law_fewest) FF48
  have M48 : mg "_law_fewest" = some (.ref (He.ga K "_law_fewest")) := He.glo_ok X G (cd.fact 64 (f := .glo "_law_fewest") rfl)
  obtain ⟨fd49, FF49⟩ := cd.def_ 49 (d := dd_law) rfl
  have U49 := fun_of (st := s_law) FF49
  have M49 : mg "law" = some (.ref (He.ga K "law")) := He.glo_ok X G (cd.fact 65 (f := .glo "law") rfl)
  have B : Bl mg := ⟨He.free_ok X G (cd.fact 0 (f := .free "len") rfl), He.free_ok X G (cd.fact 1 (f := .free "isinstance") rfl), He.free_ok X G (cd.fact 2 (f := .free "tuple") rfl), He.free_ok X G (cd.fact 3 (f := .free "str") rfl), He.free_ok X G (cd.fact 4 (f := .free "int") rfl), He.free_ok X G (cd.fact 5 (f := .free "bool") rfl), He.free_ok X G (cd.fact 6 (f := .free "all") rfl), He.free_ok X G (cd.fact 7 (f := .free "range") rfl), He.free_ok X G (cd.fact 8 (f := .free "list") rfl), He.free_ok X G (cd.fact 9 (f := .free "set") rfl), He.free_ok X G (cd.fact 10 (f := .free "dict") rfl), He.free_ok X G (cd.fact 11 (f := .free "sorted") rfl), He.free_ok X G (cd.fact 12 (f := .free "abs") rfl)⟩
  have gG : ∃ t, mg "GREATEST" = some (.int 1000000000 t) := He.int_ok X G (cd.fact 13 (f := .int "GREATEST" 1000000000) rfl)
  have gL : ∃ t, mg "LETTERS" = some (.str "abcdefghijklmnopqrstuvwxyz" t) := He.str_ok X G (cd.fact 14 (f := .str "LETTERS" "abcdefghijklmnopqrstuvwxyz") rfl)
  have LF : LenF K w mg := lenF_of c (He.glo_ok X G (cd.fact 15 (f := .glo "LENGTHS") rfl))
  have e := hfa.symm.trans M49
  cases e
  refine ⟨fd49, fun s v => (FunD.bindsA (ps := ["_law_script"]) FF49 fun _ _ _ _ _ _ us hl => match us, hl with | [_], _ => rfl) s [v] rfl, fun base g => ?_⟩
  have D_is_whole : Dn P w K mg base g "is_whole" ["thing"] 1 F_is_whole := ok_is_whole U0 M0 B
  have D_is_number : Dn P w K mg base g "is_number" ["thing"] 2 F_is_number := ok_is_number U1 M1 B gG D_is_whole
  have D_is_name : Dn P w K mg base g "is_name" ["thing"] 1 F_is_name := ok_is_name U2 M2 B gL
  have D_is_count : Dn P w K mg base g "is_count" ["thing"] 1 F_is_count := ok_is_count U3 M3 B
  have D_is_spot : Dn P w K mg base g "is_spot" ["thing"] 3 F_is_spot := ok_is_spot U4 M4 B D_is_count D_is_number
  have D_is_path : Dn P w K mg base g "is_path" ["thing"] 4 F_is_path := ok_is_path U5 M5 B D_is_spot
  have D_is_label : Dn P w K mg base g "is_label" ["thing"] 5 F_is_label := ok_is_label U6 M6 B D_is_path
  have D_is_address : Dn P w K mg base g "is_address" ["thing"] 6 F_is_address := ok_is_address U7 M7 B D_is_label
  have D_is_deed : Dn P w K mg base g "is_deed" ["thing"] 7 F_is_deed := ok_is_deed U8 M8 B LF D_is_number D_is_name D_is_label D_is_address
  have D_place_of : Dn P w K mg base g "place_of" ["row", "label"] 1 F_place_of := ok_place_of U9 M9 B
  have D_box_found : Dn P w K mg base g "box_found" ["tree", "address"] 2 F_box_found := ok_box_found U10 M10 B D_place_of
  have D_row_found : Dn P w K mg base g "row_found" ["tree", "address"] 3 F_row_found := ok_row_found U11 M11 B D_box_found
  have D_with_box : Dn P w K mg base g "with_box" ["row", "address", "box"] 2 F_with_box := ok_with_box U12 M12 B D_place_of
  have D_with_row : Dn P w K mg base g "with_row" ["tree", "address", "row"] 3 F_with_row := ok_with_row U13 M13 B D_with_box D_box_found
  have D_turned_row : Dn P w K mg base g "turned_row" ["row", "deed"] 2 F_turned_row := ok_turned_row U14 M14 B D_place_of
  have D_turned_box : Dn P w K mg base g "turned_box" ["box", "deed"] 1 F_turned_box := ok_turned_box U15 M15 B
  have D_turned : Dn P w K mg base g "turned" ["tree", "deed"] 4 F_turned := ok_turned U16 M16 B D_with_box D_turned_box D_box_found D_with_row D_turned_row D_row_found
  have D_led : Dn P w K mg base g "led" ["tree", "deeds"] 5 F_led := ok_led U17 M17 B D_turned
  have D_places_in : Dn P w K mg base g "places_in" ["row"] 1 F_places_in := ok_places_in U18 M18 B
  have D_piles_of : Dn P w K mg base g "piles_of" ["old", "new"] 2 F_piles_of := ok_piles_of U19 M19 B D_places_in
  have D_row_paper : Dn P w K mg base g "row_paper" ["old", "new"] 3 F_row_paper := ok_row_paper U20 M20 B D_piles_of
  have D_is_common : Dn P w K mg base g "is_common" ["thing", "old", "new"] 6 F_is_common := ok_is_common U21 M21 B D_is_label
  have D_goes_on : Dn P w K mg base g "goes_on" ["labels", "old", "new", "falls"] 1 F_goes_on := ok_goes_on U22 M22 B
  have D_lets_row : Dn P w K mg base g "lets_row" ["old", "new", "paper"] 7 F_lets_row := ok_lets_row U23 M23 B D_goes_on D_is_common D_places_in
  have D_is_kept : Dn P w K mg base g "is_kept" ["old", "new", "label"] 2 F_is_kept := ok_is_kept U24 M24 B D_place_of
  have D_kept_labels : Dn P w K mg base g "kept_labels" ["row", "old", "new"] 3 F_kept_labels := ok_kept_labels U25 M25 B D_is_kept
  have D_kept_below : Dn P w K mg base g "kept_below" ["old", "new", "address"] 7 (F_kept_below 4) := ok_kept_below U26 M26 B D_place_of D_kept_labels
  have D_kept : Dn P w K mg base g "kept" ["old", "new"] 8 F_kept := ok_kept U27 M27 B D_kept_below
  have D_fill_deeds : Dn P w K mg base g "fill_deeds" ["deeds", "address", "box"] 4 (F_fill_deeds 4) := ok_fill_deeds U28 M28 B
  have D_box_deeds : Dn P w K mg base g "box_deeds" ["deeds", "address", "old", "new"] 1 F_box_deeds := ok_box_deeds U29 M29 B
  have D_place_behind : Dn P w K mg base g "place_behind" ["now", "new", "k"] 1 F_place_behind := ok_place_behind U30 M30 B
  have D_order_deeds : Dn P w K mg base g "order_deeds" ["deeds", "address", "old", "new", "stays"] 5 F_order_deeds := ok_order_deeds U31 M31 B D_fill_deeds D_place_behind D_kept_labels
  have D_row_deeds : Dn P w K mg base g "row_deeds" ["deeds", "rows", "address", "old", "new"] 9 (F_row_deeds 4) := ok_row_deeds U32 M32 B D_box_deeds D_place_of D_order_deeds D_kept_labels D_row_paper
  have D_paper_of : Dn P w K mg base g "paper_of" ["old", "new"] 10 F_paper_of := ok_paper_of U33 M33 B D_row_deeds
  have D_is_row_paper : Dn P w K mg base g "is_row_paper" ["thing"] 7 F_is_row_paper := ok_is_row_paper U34 M34 B D_is_address
  have D_is_paper : Dn P w K mg base g "is_paper" ["thing"] 8 F_is_paper := ok_is_paper U35 M35 B D_is_row_paper D_is_deed
  have D_leads : Dn P w K mg base g "leads" ["old", "new", "deeds"] 6 F_leads := ok_leads U36 M36 B D_led
  have D_rows_fit : Dn P w K mg base g "rows_fit" ["old", "new", "rows"] 9 F_rows_fit := ok_rows_fit U37 M37 B D_kept_labels D_lets_row D_row_found D_kept
  have D_mark_of : Dn P w K mg base g "mark_of" ["deed"] 1 F_mark_of := ok_mark_of U38 M38 B
  have D_row_deed_fits : Dn P w K mg base g "row_deed_fits" ["old", "new", "deed", "stays"] 4 F_row_deed_fits := ok_row_deed_fits U39 M39 B D_is_kept D_place_of D_row_found
  have D_box_deed_fits : Dn P w K mg base g "box_deed_fits" ["old", "new", "deed"] 3 F_box_deed_fits := ok_box_deed_fits U40 M40 B D_box_found
  have D_fill_deed_fits : Dn P w K mg base g "fill_deed_fits" ["new", "deed"] 3 F_fill_deed_fits := ok_fill_deed_fits U41 M41 B D_place_of D_box_found
  have D_lets_by : Dn P w K mg base g "lets_by" ["old", "new", "paper"] 10 F_lets_by := ok_lets_by U42 M42 B D_fill_deed_fits D_row_deed_fits D_box_deed_fits D_mark_of D_rows_fit D_leads D_is_paper
  have D_law_tape : Dn P w K mg base g "_law_tape" ["_law_script"] 1 F_law_tape := ok_law_tape U43 M43 B
  have D_law_draw : Dn P w K mg base g "_law_draw" ["_law_tape_here", "_law_many"] 1 F_law_draw := ok_law_draw U44 M44 B
  have D_law_kept : Dn P w K mg base g "_law_kept" ["_law_old", "_law_new"] 4 (F_law_kept 4) := ok_law_kept U45 M45 B
  have D_law_labels : Dn P w K mg base g "_law_labels" ["_law_tape_here"] 2 F_law_labels := ok_law_labels U46 M46 B D_law_draw
  have D_law_some_row : Dn P w K mg base g "_law_some_row" ["_law_tape_here", "_law_labels_here"] 2 F_law_some_row := ok_law_some_row U47 M47 B D_law_draw
  have D_law_fewest : Dn P w K mg base g "_law_fewest" ["_law_begin", "_law_end"] 1 F_law_fewest := ok_law_fewest U48 M48 B
  exact ok_law U49 M49 B D_lets_row D_row_paper D_lets_by D_paper_of D_law_fewest D_law_kept D_law_some_row D_law_labels D_law_tape
end
end VW

/-! viewwood k93, the plain law: runs of meanings, told by what holds behind them. -/
namespace VW
open PySem PySem.Spec PyProof.Rows L2

def Wp {α : Type} (o : Option (α × Mu)) (Q : α → Mu → Prop) : Prop := ∃ a m, o = some (a, m) ∧ Q a m
@[simp] theorem wp_some {α : Type} {p : α × Mu} {Q : α → Mu → Prop} : Wp (some p) Q ↔ Q p.1 p.2 := by
  constructor
  · rintro ⟨a, m, e, q⟩
    cases e
    exact q
  · intro q
    exact ⟨p.1, p.2, rfl, q⟩
@[simp] theorem wp_bind {α β : Type} {o : Option (α × Mu)} {f : α × Mu → Option (β × Mu)} {Q : β → Mu → Prop} : Wp (o.bind f) Q ↔ Wp o fun a m => Wp (f (a, m)) Q := by
  constructor
  · rintro ⟨b, m, e, q⟩
    obtain ⟨⟨a, m1⟩, e1, e2⟩ := Option.bind_eq_some_iff.mp e
    exact ⟨a, m1, e1, b, m, e2, q⟩
  · rintro ⟨a, m1, e1, b, m, e2, q⟩
    exact ⟨b, m, by rw [e1]; exact e2, q⟩
@[simp] theorem wp_map {α β : Type} {o : Option (α × Mu)} {f : α × Mu → β × Mu} {Q : β → Mu → Prop} : Wp (o.map f) Q ↔ Wp o fun a m => Q (f (a, m)).1 (f (a, m)).2 := by
  rw [Option.map_eq_bind, wp_bind]
  simp
theorem wp_mono {α : Type} {o : Option (α × Mu)} {Q Q' : α → Mu → Prop} (h : Wp o Q) (k : ∀ a m, Q a m → Q' a m) : Wp o Q' := by
  obtain ⟨a, m, e, q⟩ := h
  exact ⟨a, m, e, k a m q⟩

def rOk (n : Int) : Prop := -(2 ^ 62) ≤ n ∧ n < 2 ^ 62
instance (n : Int) : Decidable (rOk n) := inferInstanceAs (Decidable (_ ∧ _))
def rOk2 (i j : Int) : Prop := -(2 ^ 62) ≤ i ∧ i < 2 ^ 62 ∧ -(2 ^ 62) ≤ j ∧ j < 2 ^ 62
instance (i j : Int) : Decidable (rOk2 i j) := inferInstanceAs (Decidable (_ ∧ _))
theorem rOk_nat {n : Nat} (h : n ≤ 2000) : rOk n := by
  unfold rOk
  constructor <;> omega
theorem rOk2_nat {i n : Nat} (h0 : i ≤ 2000) (h : n ≤ 2000) : rOk2 i n := by
  unfold rOk2
  refine ⟨?_, ?_, ?_, ?_⟩ <;> omega
section
variable {r : En} {m : Mu} {F G K : DE} {Fs : DA} {T U : DT} {S S' : DS} {i : Nat} {x y z : SV} {xs ys : List SV}
@[simp] theorem q_seq : dSeq S S' r m = (S r m).bind fun p => match p with
  | (.nx r', m') => S' r' m'
  | (.rt x, m') => some (.rt x, m')
  | (.bk r', m') => some (.bk r', m')
  | (.ct r', m') => some (.ct r', m') := (rfl)
@[simp] theorem q_next : dNext r m = some (.nx r, m) := (rfl)
@[simp] theorem q_exp : dExp F r m = (F r m).bind fun p => some (.nx r, p.2) := (rfl)
@[simp] theorem q_ret : dRet F r m = (F r m).bind fun p => some (.rt p.1, p.2) := (rfl)
@[simp] theorem q_asg {b : DG} : dAsg b F r m = (F r m).bind fun p => (b p.1 r).bind fun r' => some (.nx r', p.2) := (rfl)
@[simp] theorem q_if : dIf T S S' r m = (T r m).bind fun p => if p.1 = true then S r p.2 else S' r p.2 := (rfl)
@[simp] theorem q_put {f : F3} : dPut f F G K r m = (K r m).bind fun p => (F r p.2).bind fun q => (G r q.2).bind fun u => (f q.1 u.1 p.1 u.2).bind fun m' => some (.nx r, m') := (rfl)
@[simp] theorem q_var : dVar i r m = match r[i]? with
  | some (some x) => some (x, m)
  | _ => none := (rfl)
@[simp] theorem q_c : dC x r m = some (x, m) := (rfl)
@[simp] theorem q_nil : dNil r m = some ([], m) := (rfl)
@[simp] theorem q_cons : dCons F Fs r m = (F r m).bind fun p => (Fs r p.2).bind fun q => some (p.1 :: q.1, q.2) := (rfl)
@[simp] theorem q_tup : dTup Fs r m = (Fs r m).bind fun p => if p.1.length ≤ 1000 then some (.tup p.1, p.2) else none := (rfl)
@[simp] theorem q_lst : dLst Fs r m = (Fs r m).bind fun p => if p.1.length ≤ 1000 then some (.ref p.2.length, p.2 ++ [.lst p.1]) else none := (rfl)
@[simp] theorem q_un {f : F1} : dUn f F r m = (F r m).bind fun p => f p.1 p.2 := (rfl)
@[simp] theorem q_bin {f : F2} : dBin f F G r m = (F r m).bind fun p => (G r p.2).bind fun q => f p.1 q.1 q.2 := (rfl)
@[simp] theorem q_app {f : FL} : dApp f Fs r m = (Fs r m).bind fun p => f p.1 p.2 := (rfl)
@[simp] theorem q_chain {f f' : F2} : dChain f f' F G K r m = (F r m).bind fun p => (G r p.2).bind fun q => (f p.1 q.1 q.2).bind fun z => match z with
  | (.bl true, m3) => (K r m3).bind fun w => f' q.1 w.1 w.2
  | (.bl false, m3) => some (.bl false, m3)
  | _ => none := (rfl)
@[simp] theorem q_tr : dTr F r m = (F r m).bind fun p => match p with
  | (.bl b, m') => some (b, m')
  | _ => none := (rfl)
@[simp] theorem q_notT : dNotT T r m = (T r m).bind fun p => some (!p.1, p.2) := (rfl)
@[simp] theorem q_andT : dAndT T U r m = (T r m).bind fun p => if p.1 = true then U r p.2 else some (false, p.2) := (rfl)
@[simp] theorem q_orT : dOrT T U r m = (T r m).bind fun p => if p.1 = true then some (true, p.2) else U r p.2 := (rfl)
@[simp] theorem q_and : dAnd F G r m = (F r m).bind fun p => match p with
  | (.bl true, m1) => G r m1
  | (.bl false, m1) => some (.bl false, m1)
  | _ => none := (rfl)
@[simp] theorem q_or : dOr F G r m = (F r m).bind fun p => match p with
  | (.bl true, m1) => some (.bl true, m1)
  | (.bl false, m1) => G r m1
  | _ => none := (rfl)
@[simp] theorem q_not : dNot F r m = (F r m).bind fun p => match p with
  | (.bl b, m1) => some (.bl (!b), m1)
  | _ => none := (rfl)
@[simp] theorem q_yes : dYes r m = some (true, m) := (rfl)
@[simp] theorem q_meth {f : FM} : dMeth f F Fs r m = (F r m).bind fun p => if isLst p.2 p.1 = true then (Fs r p.2).bind fun q => f p.1 q.1 q.2 else none := (rfl)
@[simp] theorem q_meth0 {f : FM} : dMeth0 f F r m = (F r m).bind fun p => if isLst p.2 p.1 = true then f p.1 [] p.2 else none := (rfl)
@[simp] theorem q_noP : dNoP r m = some (none, m) := (rfl)
@[simp] theorem q_part : dPart F r m = (F r m).bind fun p => match p with
  | (.int i, m1) => some (some i, m1)
  | _ => none := (rfl)
@[simp] theorem q_slice {L U : DO} : dSlice F L U r m = (F r m).bind fun p => (L r p.2).bind fun q => (U r q.2).bind fun w => match p.1 with
  | .tup xs => some (.tup (cutS xs q.1 w.1), w.2)
  | _ => none := (rfl)
@[simp] theorem q_new : dDNew r m = some (.ref m.length, m ++ [.dN []]) := (rfl)
@[simp] theorem q_par {i j : Nat} : dPar i j Fs r m = (Fs r m).bind fun p => match p with
  | ([x, y], m') => some (.nx ((r.set i (some x)).set j (some y)), m')
  | _ => none := (rfl)
@[simp] theorem q_bName : bName i x r = some (r.set i (some x)) := (rfl)
@[simp] theorem q_bNil : bNil [] r = some r := (rfl)
@[simp] theorem q_bCons {b : DG} {bs : DGs} : bCons b bs (x :: xs) r = (b x r).bind (bs xs) := (rfl)
@[simp] theorem q_bTup {n : Nat} {bs : DGs} : bTup n bs (.tup xs) r = if xs.length = n then bs xs r else none := (rfl)
@[simp] theorem q_forT {b : DG} : dForT F b S r m = (F r m).bind fun p => match p with
  | (.tup xs, m1) => dFor b S xs r m1
  | _ => none := (rfl)
@[simp] theorem q_forR1 {b : DG} : dForR1 Fs b S r m = (Fs r m).bind fun p => match p with
  | ([.int n], m1) => if rOk n then dFor b S (intsV 0 n.toNat) r m1 else none
  | _ => none := (rfl)
@[simp] theorem q_forR2 {b : DG} : dForR2 Fs b S r m = (Fs r m).bind fun p => match p with
  | ([.int i, .int j], m1) => if rOk2 i j then dFor b S (intsV i (j - i).toNat) r m1 else none
  | _ => none := (rfl)
@[simp] theorem q_for0 {b : DG} : dFor b S [] r m = some (.nx r, m) := (rfl)
@[simp] theorem q_fn {k n : Nat} : dFn k n S xs m = if xs.length = k then (S (xs.map some ++ List.replicate (n - k) none) m).bind fun p => match p with
    | (.rt x, m') => some (x, m')
    | (.nx _, m') => some (.non, m')
    | _ => none
  else none := (rfl)
@[simp] theorem q_dLc {it : SV → Mu → Option (List SV × (Mu → Bool))} {b : DG} {vs : List Nat} : dLc it F b T G vs r m = (F r m).bind fun p => (it p.1 p.2).bind fun xs => (dLcGo xs.2 b T G vs p.2.length xs.1 r (p.2 ++ [.lst []])).map fun m' => (.ref p.2.length, m') := (rfl)
@[simp] theorem q_itTup : itTup (.tup xs) m = some (xs, fun _ => true) := (rfl)
@[simp] theorem q_itLst : itLst (.ref i) m = (lstAt m i).map fun xs => (xs, fun m' => decide (lstAt m' i = some xs)) := (rfl)

/-! operations -/
@[simp] theorem q_itemsT : itemsM m (.tup xs) = some xs := (rfl)
@[simp] theorem q_ixT {k : Int} : fIx (.tup xs) (.int k) m = (atI xs k).map fun z => (z, m) := (rfl)
@[simp] theorem q_ixS {ns : List Int} {k : Int} : fIx (.scr ns) (.int k) m = (atI ns k).map fun n => (.int n, m) := (rfl)
@[simp] theorem q_lenT : fLen [.tup xs] m = some (.int xs.length, m) := (rfl)
@[simp] theorem q_lenS {ns : List Int} : fLen [.scr ns] m = some (.int ns.length, m) := (rfl)
@[simp] theorem q_tupleT : fTuple [.tup xs] m = some (.tup xs, m) := (rfl)
@[simp] theorem q_lt {a b : Int} : fLt (.int a) (.int b) m = some (.bl (decide (a < b)), m) := (rfl)
@[simp] theorem q_le {a b : Int} : fLe (.int a) (.int b) m = some (.bl (decide (a ≤ b)), m) := (rfl)
@[simp] theorem q_gt {a b : Int} : fGt (.int a) (.int b) m = some (.bl (decide (b < a)), m) := (rfl)
@[simp] theorem q_ge {a b : Int} : fGe (.int a) (.int b) m = some (.bl (decide (b ≤ a)), m) := (rfl)
@[simp] theorem q_sub {a b : Int} : fSub (.int a) (.int b) m = some (.int (a - b), m) := (rfl)
@[simp] theorem q_addI {a b : Int} : fAdd (.int a) (.int b) m = some (.int (a + b), m) := (rfl)
@[simp] theorem q_addT : fAdd (.tup xs) (.tup ys) m = if xs.length + ys.length ≤ 1000 then some (.tup (xs ++ ys), m) else none := (rfl)
@[simp] theorem q_isN : fIsN x .non m = some (.bl (decide (x = .non)), m) := (rfl)
@[simp] theorem q_notN : fNotN x .non m = some (.bl (!decide (x = .non)), m) := (rfl)
@[simp] theorem q_isB {a b : Bool} : fIsB (.bl a) (.bl b) m = some (.bl (decide (a = b)), m) := (rfl)
@[simp] theorem q_notB {a b : Bool} : fNotB (.bl a) (.bl b) m = some (.bl (!decide (a = b)), m) := (rfl)
@[simp] theorem q_neg {a : Int} : fNeg (.int a) m = some (.int (-a), m) := (rfl)
theorem isi_any {T : String} {t : String} {b : Bool} (h1 : tyOf x = some t) (h2 : kitB t T = some b) : fIsi T x m = some (.bl b, m) := by
  unfold fIsi
  rw [h1]
  show (kitB t T).map _ = _
  rw [h2]
  rfl
@[simp] theorem q_isiT : fIsi "tuple" (.tup xs) m = some (.bl true, m) := isi_any rfl (by decide +kernel)
@[simp] theorem q_isiI {a : Int} : fIsi "int" (.int a) m = some (.bl true, m) := isi_any rfl (by decide +kernel)
@[simp] theorem q_isiB {a : Int} : fIsi "bool" (.int a) m = some (.bl false, m) := isi_any rfl (by decide +kernel)
@[simp] theorem q_isiS {a : Str} : fIsi "str" (.str a) m = some (.bl true, m) := isi_any rfl (by decide +kernel)
@[simp] theorem q_eqI {a b : Int} : fEq (.int a) (.int b) m = some (.bl (decide (a = b)), m) := by
  rw [fEq_pl rfl rfl]
  simp
@[simp] theorem q_neI {a b : Int} : fNe (.int a) (.int b) m = some (.bl (!decide (a = b)), m) := by
  rw [fNe_pl rfl rfl]
  simp
end

/-! ### loops -/
theorem wp_for {b : DG} {S : DS} (I : Nat → En → Mu → Prop) {Q : Out → Mu → Prop} {xs : List SV} {r : En} {m : Mu} (h0 : I 0 r m)
    (step : ∀ (i : Nat) (x : SV) (r : En) (m : Mu), xs[i]? = some x → I i r m → ∃ r1, b x r = some r1 ∧ Wp (S r1 m) fun o m' => match o with
      | .nx r' => I (i + 1) r' m'
      | .ct r' => I (i + 1) r' m'
      | .bk r' => Q (.nx r') m'
      | .rt v => Q (.rt v) m')
    (done : ∀ r m, I xs.length r m → Q (.nx r) m) : Wp (dFor b S xs r m) Q := by
  suffices h : ∀ (ys : List SV) (n : Nat) (r : En) (m : Mu), ys = xs.drop n → n ≤ xs.length → I n r m → Wp (dFor b S ys r m) Q from h xs 0 r m (by simp) (Nat.zero_le _) h0
  intro ys
  induction ys with
  | nil =>
    intro n r m e hn h
    have : n = xs.length := by
      have := congrArg List.length e
      simp at this
      omega
    subst this
    simp [done r m h]
  | cons y ys ih =>
    intro n r m e hn h
    have hlt : n < xs.length := by
      have := congrArg List.length e
      simp at this
      omega
    rw [List.drop_eq_getElem_cons hlt] at e
    injection e with e1 e2
    obtain ⟨r1, hb, hw⟩ := step n y r m (by rw [List.getElem?_eq_getElem hlt, e1]) h
    obtain ⟨o, m', e3, q⟩ := hw
    unfold dFor
    rw [hb]
    show Wp ((S r1 m).bind _) Q
    rw [e3]
    cases o with
    | nx r' => exact ih (n + 1) r' m' e2 hlt q
    | ct r' => exact ih (n + 1) r' m' e2 hlt q
    | bk r' => exact ⟨_, _, rfl, q⟩
    | rt v => exact ⟨_, _, rfl, q⟩

/-! ### what stays -/
abbrev Pre (m m' : Mu) : Prop := m <+: m'
theorem Pre.get {m m' : Mu} (h : Pre m m') {i : Nat} {o : MO} (e : m[i]? = some o) : m'[i]? = some o := by
  obtain ⟨g, rfl⟩ := h
  rw [List.getElem?_append_left (List.getElem?_eq_some_iff.mp e).1]
  exact e
theorem Pre.refl {m : Mu} : Pre m m := List.prefix_rfl
theorem Pre.tr {a b c : Mu} (h : Pre a b) (k : Pre b c) : Pre a c := List.IsPrefix.trans h k
theorem Pre.app {m : Mu} {g : List MO} : Pre m (m ++ g) := ⟨g, rfl⟩

/-! ### [.. for .. in .. if ..] of plain parts -/
theorem wp_lcGo {b : DG} {T : DT} {F : DE} {vs : List Nat} {gd : Mu → Bool} {r : En} {p : SV → Bool} {f : SV → SV} {i0 : Nat} (m0 : Mu) (hi : m0.length = i0) (hgd : ∀ m, Pre m0 m → gd m = true) :
    ∀ (xs : List SV) (acc : List SV) (m : Mu), Pre m0 m → m[i0]? = some (.lst acc) → acc.length + xs.length ≤ 900 →
    (∀ x ∈ xs, ∀ m, Pre m0 m → ∃ r1, b x (wipeE r vs) = some r1 ∧ Wp (T r1 m) fun t m1 => t = p x ∧ Pre m m1 ∧ (t = true → Wp (F r1 m1) fun v m2 => v = f x ∧ Pre m1 m2)) →
    ∃ m', dLcGo gd b T F vs i0 xs r m = some m' ∧ Pre m0 m' ∧ m'[i0]? = some (.lst (acc ++ (xs.filter p).map f)) := by
  intro xs
  induction xs with
  | nil =>
    intro acc m h1 h2 h3 h4
    exact ⟨m, by simp [dLcGo, hgd m h1], h1, by simpa using h2⟩
  | cons x xs ih =>
    intro acc m h1 h2 h3 h4
    obtain ⟨r1, e1, t, m1, e2, e3, e4, e5⟩ := h4 x (by simp) m h1
    unfold dLcGo
    rw [if_pos (hgd m h1), e1]
    simp only [Option.bind_some, e2]
    have hx : ∀ y ∈ xs, ∀ m, Pre m0 m → ∃ r1, b y (wipeE r vs) = some r1 ∧ Wp (T r1 m) fun t m1 => t = p y ∧ Pre m m1 ∧ (t = true → Wp (F r1 m1) fun v m2 => v = f y ∧ Pre m1 m2) := fun y hy => h4 y (by simp [hy])
    have hl : acc.length + xs.length ≤ 900 := by simp at h3; omega
    by_cases ht : t = true
    · obtain ⟨v, m2, e6, e7, e8⟩ := e5 ht
      rw [if_pos ht, e6]
      have g2 : m2[i0]? = some (.lst acc) := e8.get (e4.get h2)
      have hl2 : i0 < m2.length := (List.getElem?_eq_some_iff.mp g2).1
      simp only [Option.bind_some, lstAt, g2]
      rw [if_pos (by simp at h3; omega)]
      have pm : Pre m0 (m2.set i0 (.lst (acc ++ [v]))) := by
        obtain ⟨g, rfl⟩ := h1.tr (e4.tr e8)
        rw [List.set_append_right _ _ (by omega)]
        exact ⟨_, rfl⟩
      obtain ⟨m', a1, a2, a3⟩ := ih (acc ++ [v]) _ pm (by rw [List.getElem?_set_self hl2]) (by simp at h3 ⊢; omega) hx
      refine ⟨m', a1, a2, ?_⟩
      rw [a3, List.filter_cons_of_pos (by rw [← e3]; exact ht), e7]
      simp
    · rw [if_neg ht]
      obtain ⟨m', a1, a2, a3⟩ := ih acc m1 (h1.tr e4) (e4.get h2) hl hx
      refine ⟨m', a1, a2, ?_⟩
      rw [a3, List.filter_cons_of_neg (by rw [← e3]; exact ht)]
theorem wp_lcT {b : DG} {T : DT} {F : DE} {vs : List Nat} {r : En} {m : Mu} {xs : List SV} (p : SV → Bool) (f : SV → SV) {Q : SV → Mu → Prop} (hl : xs.length ≤ 900)
    (h : ∀ x ∈ xs, ∀ m1, Pre m m1 → ∃ r1, b x (wipeE r vs) = some r1 ∧ Wp (T r1 m1) fun t m2 => t = p x ∧ Pre m1 m2 ∧ (t = true → Wp (F r1 m2) fun v m3 => v = f x ∧ Pre m2 m3))
    (k : ∀ m', Pre m m' → m'[m.length]? = some (.lst ((xs.filter p).map f)) → Q (.ref m.length) m') : Wp ((dLcGo (fun _ => true) b T F vs m.length xs r (m ++ [.lst []])).map fun m' => (SV.ref m.length, m')) Q := by
  obtain ⟨m', e1, e2, e3⟩ := wp_lcGo (gd := fun _ => true) (p := p) (f := f) (i0 := m.length) m rfl (fun _ _ => rfl) xs [] (m ++ [.lst []]) .app (by simp) (by simpa using hl) h
  exact ⟨_, m', by rw [e1]; rfl, k m' e2 (by simpa using e3)⟩
theorem wp_lcL {b : DG} {T : DT} {F : DE} {vs : List Nat} {r : En} {m : Mu} {xs : List SV} {j : Nat} (p : SV → Bool) (f : SV → SV) {Q : SV → Mu → Prop} (hj : m[j]? = some (.lst xs)) (hl : xs.length ≤ 900)
    (h : ∀ x ∈ xs, ∀ m1, Pre m m1 → ∃ r1, b x (wipeE r vs) = some r1 ∧ Wp (T r1 m1) fun t m2 => t = p x ∧ Pre m1 m2 ∧ (t = true → Wp (F r1 m2) fun v m3 => v = f x ∧ Pre m2 m3))
    (k : ∀ m', Pre m m' → m'[m.length]? = some (.lst ((xs.filter p).map f)) → Q (.ref m.length) m') : Wp ((dLcGo (fun m' => decide (lstAt m' j = some xs)) b T F vs m.length xs r (m ++ [.lst []])).map fun m' => (SV.ref m.length, m')) Q := by
  obtain ⟨m', e1, e2, e3⟩ := wp_lcGo (gd := fun m' => decide (lstAt m' j = some xs)) (p := p) (f := f) (i0 := m.length) m rfl (fun m1 h1 => by simp [lstAt, h1.get hj]) xs [] (m ++ [.lst []]) .app (by simp) (by simpa using hl) h
  exact ⟨_, m', by rw [e1]; rfl, k m' e2 (by simpa using e3)⟩
theorem bools_of (xs : List SV) (f : SV → Bool) : bools (xs.map fun x => .bl (f x)) = some (xs.map f) := by
  induction xs with
  | nil => rfl
  | cons x xs ih => simp [bools, ih]
theorem wp_all {j : Nat} {m : Mu} {xs : List SV} {f : SV → Bool} {Q : SV → Mu → Prop} (h : m[j]? = some (.lst (xs.map fun x => .bl (f x)))) (k : Q (.bl (xs.all f)) m) : Wp (fAll [.ref j] m) Q := by
  refine ⟨.bl (xs.all f), m, ?_, k⟩
  simp [fAll, h, bools_of, List.all_map]
@[simp] theorem filt_true {α : Type} (xs : List α) : xs.filter (fun _ => true) = xs := List.filter_eq_self.mpr fun _ _ => rfl
theorem wp_allT {j : Nat} {m : Mu} {xs : List SV} {Q : SV → Mu → Prop} (h : m[j]? = some (.lst (xs.map fun _ => .bl true))) (k : Q (.bl true) m) : Wp (fAll [.ref j] m) Q :=
  wp_all (f := fun _ => true) h (by
    have e : xs.all (fun _ => true) = true := by simp [List.all_eq_true]
    rw [e]
    exact k)
end VW

/-! viewwood k93, the plain law: what is a number, a name, a label. -/
namespace VW
open PySem PySem.Spec PyProof.Rows L2
theorem w_is_whole {a : Int} {m : Mu} {Q : SV → Mu → Prop} (k : Q (.bl true) m) : Wp (F_is_whole [.int a] m) Q := by
  simp [F_is_whole, S_is_whole, k]
theorem w_is_number {a : Int} {m : Mu} {Q : SV → Mu → Prop} (h1 : -1000000000 ≤ a) (h2 : a ≤ 1000000000) (k : Q (.bl true) m) : Wp (F_is_number [.int a] m) Q := by
  simp [F_is_number, S_is_number]
  refine w_is_whole ?_
  simp [h1, h2, k]
theorem w_is_count {a : Int} {m : Mu} {Q : SV → Mu → Prop} (h1 : 0 ≤ a) (k : Q (.bl true) m) : Wp (F_is_count [.int a] m) Q := by
  simp [F_is_count, S_is_count, h1, k]
@[simp] theorem atI_0 {α : Type} {x : α} {xs : List α} : atI (x :: xs) 0 = some x := by simp [atI, ixN]
@[simp] theorem atI_1 {α : Type} {x y : α} {xs : List α} : atI (x :: y :: xs) 1 = some y := by
  simp [atI, ixN]
  rw [if_pos (by omega)]
  rfl
@[simp] theorem atI_2 {α : Type} {x y z : α} {xs : List α} : atI (x :: y :: z :: xs) 2 = some z := by
  simp [atI, ixN]
  rw [if_pos (by omega)]
  rfl
@[simp] theorem atI_3 {α : Type} {x y z u : α} {xs : List α} : atI (x :: y :: z :: u :: xs) 3 = some u := by
  simp [atI, ixN]
  rw [if_pos (by omega)]
  rfl
@[simp] theorem atI_4 {α : Type} {x y z u v : α} {xs : List α} : atI (x :: y :: z :: u :: v :: xs) 4 = some v := by
  simp [atI, ixN]
  rw [if_pos (by omega)]
  rfl
theorem atI_nat {α : Type} {xs : List α} {i : Nat} {x : α} (h : xs[i]? = some x) : atI xs (i : Int) = some x := by
  have := (List.getElem?_eq_some_iff.mp h).1
  unfold atI ixN
  rw [if_pos (by omega), if_pos (by omega)]
  simp [h]
def Spot (x : SV) : Prop := ∃ (key : SV) (k : Int), x = .tup [key, .int k] ∧ 0 ≤ k ∧ (key = .non ∨ ∃ a : Int, key = .int a ∧ -1000000000 ≤ a ∧ a ≤ 1000000000)
theorem w_is_spot {x : SV} {m : Mu} {Q : SV → Mu → Prop} (h : Spot x) (k : Q (.bl true) m) : Wp (F_is_spot [x] m) Q := by
  obtain ⟨key, n, rfl, hn, rfl | ⟨a, rfl, h1, h2⟩⟩ := h
  · simp [F_is_spot, S_is_spot]
    exact w_is_count hn k
  · simp [F_is_spot, S_is_spot]
    refine w_is_number h1 h2 ?_
    simp
    exact w_is_count hn k
theorem w_is_path {xs : List SV} {m : Mu} {Q : SV → Mu → Prop} (hl : xs.length ≤ 900) (h : ∀ x ∈ xs, Spot x) (k : ∀ m', Pre m m' → Q (.bl true) m') : Wp (F_is_path [.tup xs] m) Q := by
  simp [F_is_path, S_is_path]
  refine wp_lcT (fun _ => true) (fun _ => .bl true) hl (fun x hx m1 p1 => ⟨_, rfl, ?_⟩) fun m' p1 p2 => ?_
  · simp [wipeE]
    exact w_is_spot (h x hx) ⟨rfl, Pre.refl⟩
  · exact wp_allT (xs := xs) (by simpa using p2) (k m' p1)
def Lab (x : SV) : Prop := ∃ xs : List SV, x = .tup xs ∧ xs ≠ [] ∧ xs.length ≤ 5 ∧ ∀ y ∈ xs, Spot y
theorem w_is_label {x : SV} {m : Mu} {Q : SV → Mu → Prop} (h : Lab x) (k : ∀ m', Pre m m' → Q (.bl true) m') : Wp (F_is_label [x] m) Q := by
  obtain ⟨xs, rfl, h1, h2, h3⟩ := h
  simp [F_is_label, S_is_label]
  refine w_is_path (by omega) h3 fun m' p => ?_
  have : 0 < xs.length := by
    cases xs with
    | nil => exact absurd rfl h1
    | cons _ _ => simp
  simp [this, k m' p]
theorem wipeE_len (r : En) (vs : List Nat) : (wipeE r vs).length = r.length := by
  induction vs with
  | nil => rfl
  | cons v vs ih => simp [wipeE, ih]
theorem w_all_label {xs : List SV} {vs : List Nat} {r : En} {m : Mu} {i : Nat} {Q : SV → Mu → Prop} (hi : i < r.length) (hl : xs.length ≤ 900) (h : ∀ x ∈ xs, Lab x) (k : ∀ m', Pre m m' → Q (.bl true) m') :
    Wp ((dLcGo (fun _ => true) (bName i) dYes (dApp F_is_label (dCons (dVar i) dNil)) vs m.length xs r (m ++ [.lst []])).map fun m' => (SV.ref m.length, m')) fun a m2 => Wp (fAll [a] m2) Q := by
  refine wp_lcT (fun _ => true) (fun _ => .bl true) hl (fun x hx m1 p1 => ⟨_, rfl, ?_⟩) fun m' p1 p2 => ?_
  · have e : ((wipeE r vs).set i (some x))[i]? = some (some x) := by
      rw [List.getElem?_set_self]
      rw [wipeE_len]
      exact hi
    simp [e]
    exact w_is_label (h x hx) fun m' p => ⟨rfl, p⟩
  · exact wp_allT (xs := xs) (by simpa using p2) (k m' p1)
theorem w_is_address {xs : List SV} {m : Mu} {Q : SV → Mu → Prop} (hl : xs.length ≤ 900) (h : ∀ x ∈ xs, Lab x) (k : ∀ m', Pre m m' → Q (.bl true) m') : Wp (F_is_address [.tup xs] m) Q := by
  simp only [F_is_address, S_is_address]
  simp
  refine w_all_label (by simp) hl h ?_
  simpa using k
def aTo (x : Str) : Prop := x.length ≤ 8 ∧ 1 ≤ x.length ∧ ∀ c ∈ x.cps.toList, c ∈ (("abcdefghijklmnopqrstuvwxyz" : Str)).cps.toList
theorem w_is_name {x : Str} {m : Mu} {Q : SV → Mu → Prop} (h : aTo x) (k : ∀ m', Pre m m' → Q (.bl true) m') : Wp (F_is_name [.str x] m) Q := by
  obtain ⟨h1, h2, h3⟩ := h
  have a1 : ¬ ((x.length : Int) < 1) := by omega
  have a2 : ¬ ((8 : Int) < (x.length : Int)) := by omega
  have a3 : x.length ≤ 1000 := by omega
  simp [F_is_name, S_is_name, fLenT, a1, a2, a3, itStr]
  refine wp_lcT (fun _ => true) (fun _ => .bl true) (by simp; unfold Str.length at h1; omega) (fun y hy m1 p1 => ⟨_, rfl, ?_⟩) fun m' p1 p2 => ?_
  · obtain ⟨c, hc, rfl⟩ := List.mem_map.mp hy
    simp [wipeE, fInT]
    simpa using h3 c hc
  · exact wp_allT (xs := x.cps.toList.map fun c => .str ⟨#[c]⟩) (by simpa using p2) (k m' p1)
theorem name_a : aTo "a" := by unfold aTo; decide +kernel
theorem name_b : aTo "b" := by unfold aTo; decide +kernel
theorem name_ab : aTo "ab" := by unfold aTo; decide +kernel
end VW

/-! viewwood k93, the plain law: rows, places. -/
namespace VW
open PySem PySem.Spec PyProof.Rows L2

/-- a box: its tag (a or b), the number set under "ab", whether a box stands within -/
structure Bx where
  tag : Bool
  sets : Option Int
  inn : Bool
deriving DecidableEq
abbrev Row := List (SV × Bx)
def tagS : Bool → Str
  | true => "a"
  | false => "b"
def lab0 : SV := .tup [.tup [.non, .int 0]]
def setsV : Option Int → SV
  | none => .tup []
  | some n => .tup [.tup [.str "ab", .int n]]
def innR : Bool → Row
  | true => [(lab0, ⟨false, none, false⟩)]
  | false => []
def inV : Bool → SV
  | true => .tup [.tup [lab0, .tup [.str "b", .tup [], .tup [], .tup []]]]
  | false => .tup []
def boxV (b : Bx) : SV := .tup [.str (tagS b.tag), setsV b.sets, .tup [], inV b.inn]
def cellV (p : SV × Bx) : SV := .tup [p.1, boxV p.2]
def rowV (r : Row) : SV := .tup (r.map cellV)
def oI : Option Nat → SV
  | none => .non
  | some i => .int i
def oR : Option Row → SV
  | none => .non
  | some r => rowV r
def oB : Option Bx → SV
  | none => .non
  | some b => boxV b
theorem inV_row (b : Bool) : inV b = rowV (innR b) := by cases b <;> rfl
theorem lab0_lab : Lab lab0 := ⟨_, rfl, by simp, by simp, fun y hy => by
  simp at hy
  subst hy
  exact ⟨.non, 0, rfl, Int.le_refl _, .inl rfl⟩⟩
def LabR (r : Row) : Prop := ∀ p ∈ r, Lab p.1
theorem labR_inn (b : Bool) : LabR (innR b) := by
  intro p hp
  cases b with
  | true =>
    simp [innR] at hp
    subst hp
    exact lab0_lab
  | false => simp [innR] at hp

/-! plainness -/
theorem pl_up : ∀ (n : Nat) (x : SV), pl n x = true → pl (n + 1) x = true
  | _, .non, _ => rfl
  | _, .int _, _ => rfl
  | n, .str x, h => by simpa [pl] using h
  | 0, .tup _, h => by simp [pl] at h
  | n + 1, .tup xs, h => by
    rw [pl_tup] at h ⊢
    rw [List.all_eq_true] at h ⊢
    exact fun x hx => pl_up n x (h x hx)
  | _, .bl _, h => by simp [pl] at h
  | _, .ref _, h => by simp [pl] at h
  | _, .scr _, h => by simp [pl] at h
theorem pl_le {n k : Nat} {x : SV} (h : pl n x = true) (hk : n ≤ k) : pl k x = true := by
  induction hk with
  | refl => exact h
  | step _ ih => exact pl_up _ _ ih
theorem pl_spot {x : SV} (h : Spot x) : pl 1 x = true := by
  obtain ⟨key, k, rfl, _, rfl | ⟨a, rfl, _⟩⟩ := h <;> simp [pl_tup, pl]
theorem pl_lab {x : SV} (h : Lab x) : pl 2 x = true := by
  obtain ⟨xs, rfl, _, _, h⟩ := h
  rw [pl_tup, List.all_eq_true]
  exact fun y hy => pl_spot (h y hy)
theorem pl_labN {x : SV} (n : Nat) (h : Lab x) (hn : 2 ≤ n := by decide) : pl n x = true := pl_le (pl_lab h) hn
theorem so_a : PyData.strOk "a" = true := by decide +kernel
theorem so_b : PyData.strOk "b" = true := by decide +kernel
theorem so_ab : PyData.strOk "ab" = true := by decide +kernel
theorem pl_box (b : Bx) : pl 5 (boxV b) = true := by
  obtain ⟨t, s, i⟩ := b
  cases t <;> cases s <;> cases i <;> simp [boxV, tagS, setsV, inV, lab0, pl_tup, pl, so_a, so_b, so_ab]
theorem pl_cell {p : SV × Bx} (h : Lab p.1) : pl 6 (cellV p) = true := by
  simp [cellV, pl_tup, pl_labN 5 h, pl_box]
theorem pl_row {r : Row} (h : LabR r) : pl 7 (rowV r) = true := by
  rw [rowV, pl_tup, List.all_eq_true]
  intro x hx
  obtain ⟨p, hp, rfl⟩ := List.mem_map.mp hx
  exact pl_cell (h p hp)
theorem q_eqP {x y : SV} {m : Mu} (n : Nat) (hx : pl n x = true) (hy : pl n y = true) (hn : n ≤ 60 := by decide) : fEq x y m = some (.bl (decide (x = y)), m) := fEq_pl (pl_le hx hn) (pl_le hy hn)
theorem q_neP {x y : SV} {m : Mu} (n : Nat) (hx : pl n x = true) (hy : pl n y = true) (hn : n ≤ 60 := by decide) : fNe x y m = some (.bl (!decide (x = y)), m) := fNe_pl (pl_le hx hn) (pl_le hy hn)
theorem q_eqL {x y : SV} {m : Mu} (hx : Lab x) (hy : Lab y) : fEq x y m = some (.bl (decide (x = y)), m) := q_eqP 2 (pl_lab hx) (pl_lab hy)

/-! places -/
def plc (r : Row) (l : SV) : Option Nat := r.findIdx? fun p => decide (p.1 = l)
theorem plc_some {r : Row} {l : SV} {i : Nat} (h : plc r l = some i) : ∃ b, r[i]? = some (l, b) := by
  obtain ⟨hi, e, _⟩ := List.findIdx?_eq_some_iff_getElem.mp h
  have e1 := of_decide_eq_true e
  exact ⟨r[i].2, by rw [List.getElem?_eq_getElem hi, ← e1]⟩
theorem plc_none {r : Row} {l : SV} : plc r l = none ↔ l ∉ r.map (·.1) := by
  unfold plc
  rw [List.findIdx?_eq_none_iff]
  simp
  constructor
  · intro h b hb
    exact h l b hb rfl
  · intro h a b hab e
    subst e
    exact h b hab
theorem rowV_get {r : Row} {i : Nat} {p : SV × Bx} (h : r[i]? = some p) : atI (r.map cellV) (i : Int) = some (cellV p) := atI_nat (by rw [List.getElem?_map, h]; rfl)
@[simp] theorem rowV_len (r : Row) {m : Mu} : fLen [rowV r] m = some (.int r.length, m) := by simp [rowV]
theorem w_place_of {r : Row} {l : SV} {m : Mu} {Q : SV → Mu → Prop} (hr : LabR r) (hl : Lab l) (hn : r.length ≤ 900) (k : Q (oI (plc r l)) m) : Wp (F_place_of [rowV r, l] m) Q := by
  simp -implicitDefEqProofs [F_place_of, S_place_of, rOk_nat (n := r.length) (by omega)]
  refine wp_for (fun i r' m' => m' = m ∧ (∃ o, r' = [some (rowV r), some l, o]) ∧ ∀ (j : Nat) p, j < i → r[j]? = some p → p.1 ≠ l) ⟨rfl, ⟨_, rfl⟩, fun j p hj => absurd hj (by omega)⟩ (fun i x r' m' hx I => ?_) fun r' m' I => ?_
  · obtain ⟨rfl, ⟨o, rfl⟩, hi⟩ := I
    have hlt : i < r.length := by
      have := (List.getElem?_eq_some_iff.mp hx).1
      rwa [intsV_len] at this
    rw [intsV_get hlt] at hx
    cases hx
    refine ⟨_, rfl, ?_⟩
    have e : r[i]? = some r[i] := List.getElem?_eq_getElem hlt
    have hlab : Lab r[i].1 := hr _ (List.getElem_mem hlt)
    simp [rowV, rowV_get e, cellV, q_eqL hlab hl]
    by_cases h : r[i].1 = l
    · have e2 : plc r l = some i := by
        refine List.findIdx?_eq_some_iff_getElem.mpr ⟨hlt, decide_eq_true h, fun j hj => ?_⟩
        have := hi j _ hj (List.getElem?_eq_getElem (by omega))
        simpa using this
      rw [e2] at k
      simpa [h, oI] using k
    · simp [h]
      intro j a b hj hab
      rcases Nat.lt_succ_iff_lt_or_eq.mp hj with hj | hj
      · exact hi j _ hj hab
      · subst hj
        rw [e] at hab
        have := Option.some.inj hab
        rw [this] at h
        exact h
  · obtain ⟨rfl, ⟨o, rfl⟩, hi⟩ := I
    have e2 : plc r l = none := by
      rw [plc_none]
      intro hm
      obtain ⟨p, hp, e⟩ := List.mem_map.mp hm
      obtain ⟨j, hj, e3⟩ := List.getElem_of_mem hp
      exact hi j p (by rw [intsV_len]; exact hj) (by rw [List.getElem?_eq_getElem hj, e3]) e
    rw [e2] at k
    simpa [oI] using k
end VW

/-! viewwood k93, the plain law: boxes and rows at an address. -/
namespace VW
open PySem PySem.Spec PyProof.Rows L2

@[simp] theorem cut_to {α : Type} (xs : List α) (k : Nat) : cutS xs none (some (k : Int)) = xs.take k := by
  unfold cutS
  rw [HT.sIx_nat, HT.sIx_none, List.drop_zero, Nat.sub_zero]
  rcases Nat.le_total k xs.length with h | h
  · rw [Nat.min_eq_left h]
  · rw [Nat.min_eq_right h, List.take_of_length_le (Nat.le_refl _), List.take_of_length_le h]
@[simp] theorem cut_from {α : Type} (xs : List α) (k : Nat) : cutS xs (some (k : Int)) none = xs.drop k := by
  unfold cutS
  rw [HT.sIx_nat, HT.sIx_none]
  rcases Nat.le_total k xs.length with h | h
  · rw [Nat.min_eq_left h, List.take_of_length_le (by simp)]
  · rw [Nat.min_eq_right h, List.drop_of_length_le (Nat.le_refl _), List.drop_of_length_le h]
    simp
@[simp] theorem cut_from1 {α : Type} (xs : List α) (k : Nat) : cutS xs (some ((k : Int) + 1)) none = xs.drop (k + 1) := cut_from xs (k + 1)

def bAt (r : Row) (l : SV) : Option Bx := (plc r l).bind fun k => (r[k]?).map (·.2)
theorem bAt_some {r : Row} {l : SV} {k : Nat} (h : plc r l = some k) : ∃ b, r[k]? = some (l, b) ∧ bAt r l = some b := by
  obtain ⟨b, e⟩ := plc_some h
  exact ⟨b, e, by simp [bAt, h, e]⟩
theorem bAt_none {r : Row} {l : SV} (h : plc r l = none) : bAt r l = none := by simp [bAt, h]
def wk : Row → Option Bx → List SV → Option (Option Bx)
  | _, b, [] => some b
  | r, _, l :: ls => (bAt r l).bind fun b => wk (innR b.inn) (some b) ls
def boxAt (r : Row) (ad : List SV) : Option Bx := (wk r none ad).join
theorem wk_cons {r : Row} {b c : Option Bx} {l : SV} {ls : List SV} : wk r b (l :: ls) = wk r c (l :: ls) := by simp [wk]
theorem innR_len (b : Bool) : (innR b).length ≤ 1 := by cases b <;> simp [innR]
theorem w_box_found {r : Row} {ad : List SV} {m : Mu} {Q : SV → Mu → Prop} (hr : LabR r) (hn : r.length ≤ 900) (ha : ∀ l ∈ ad, Lab l) (k : Q (oB (boxAt r ad)) m) : Wp (F_box_found [rowV r, .tup ad] m) Q := by
  simp -implicitDefEqProofs [F_box_found, S_box_found]
  refine wp_for (fun i r' m' => m' = m ∧ ∃ R b o4 o5, r' = [some (rowV r), some (.tup ad), some (rowV R), some (oB b), o4, o5] ∧ LabR R ∧ R.length ≤ 900 ∧ wk r none ad = wk R b (ad.drop i)) ⟨rfl, r, none, _, _, rfl, hr, hn, rfl⟩ (fun i x r' m' hx I => ?_) fun r' m' I => ?_
  · obtain ⟨rfl, R, b, o4, o5, rfl, h1, h2, h3⟩ := I
    refine ⟨_, rfl, ?_⟩
    have hi := (List.getElem?_eq_some_iff.mp hx).1
    have ex : ad.drop i = x :: ad.drop (i + 1) := by
      rw [List.drop_eq_getElem_cons hi, (List.getElem?_eq_some_iff.mp hx).2]
    have hlx : Lab x := ha x (List.mem_of_getElem? hx)
    simp -implicitDefEqProofs
    refine w_place_of h1 hlx h2 ?_
    cases e : plc R x with
    | none =>
      have : boxAt r ad = none := by
        unfold boxAt
        rw [h3, ex]
        simp [wk, bAt_none e]
      rw [this] at k
      simpa [oI, oB] using k
    | some j =>
      obtain ⟨c, e1, e2⟩ := bAt_some e
      have e3 : wk R b (ad.drop i) = wk (innR c.inn) (some c) (ad.drop (i + 1)) := by rw [ex]; simp [wk, e2]
      simp -implicitDefEqProofs [oI, rowV, rowV_get e1, cellV]
      simp -implicitDefEqProofs [boxV]
      exact ⟨innR c.inn, some c, ⟨by rw [inV_row]; rfl, rfl⟩, labR_inn _, by have := innR_len c.inn; omega, h3.trans e3⟩
  · obtain ⟨rfl, R, b, o4, o5, rfl, h1, h2, h3⟩ := I
    have : boxAt r ad = b := by
      unfold boxAt
      rw [h3, List.drop_of_length_le (Nat.le_refl _)]
      simp [wk]
    rw [this] at k
    simpa using k
def rowAt (r : Row) (ad : List SV) : Option Row := if ad = [] then some r else (boxAt r ad).map fun b => innR b.inn
theorem w_row_found {r : Row} {ad : List SV} {m : Mu} {Q : SV → Mu → Prop} (hr : LabR r) (hn : r.length ≤ 900) (ha : ∀ l ∈ ad, Lab l) (k : Q (oR (rowAt r ad)) m) : Wp (F_row_found [rowV r, .tup ad] m) Q := by
  have hp : pl 3 (.tup ad) = true := by
    rw [pl_tup, List.all_eq_true]
    exact fun x hx => pl_lab (ha x hx)
  simp -implicitDefEqProofs [F_row_found, S_row_found, q_eqP 3 hp (show pl 3 (.tup []) = true by simp [pl_tup])]
  by_cases h : ad = []
  · subst h
    simpa [rowAt, oR] using k
  · simp -implicitDefEqProofs [h]
    refine w_box_found hr hn ha ?_
    simp only [rowAt, h, if_false] at k
    cases e : boxAt r ad with
    | none =>
      rw [e] at k
      simpa [oB, oR] using k
    | some b =>
      rw [e] at k
      simp -implicitDefEqProofs [oB, boxV]
      rw [inV_row]
      simpa [oR] using k
/-- the box at the k-th place, new -/
def setB (r : Row) (k : Nat) (l : SV) (b : Bx) : Row := r.take k ++ (l, b) :: r.drop (k + 1)
theorem w_with_box {r : Row} {l : SV} {k : Nat} {b : Bx} {m : Mu} {Q : SV → Mu → Prop} (hr : LabR r) (hn : r.length ≤ 900) (hl : Lab l) (hk : plc r l = some k) (q : Q (rowV (setB r k l b)) m) : Wp (F_with_box [rowV r, .tup [l], boxV b] m) Q := by
  simp -implicitDefEqProofs [F_with_box, S_with_box]
  refine w_place_of hr hl hn ?_
  rw [hk]
  have e : rowV (setB r k l b) = .tup ((r.map cellV).take k ++ .tup [l, boxV b] :: (r.map cellV).drop (k + 1)) := by
    simp [rowV, setB, cellV, List.map_take, List.map_drop]
  rw [e] at q
  simp -implicitDefEqProofs [oI, rowV]
  rw [if_pos (by omega)]
  simp
  rw [if_pos (by omega)]
  simpa using q
theorem w_with_row0 {r r' : Row} {m : Mu} {Q : SV → Mu → Prop} (q : Q (rowV r') m) : Wp (F_with_row [rowV r, .tup [], rowV r'] m) Q := by
  simp -implicitDefEqProofs [F_with_row, S_with_row, q_eqP 3 (show pl 3 (.tup []) = true by simp [pl_tup]) (show pl 3 (.tup []) = true by simp [pl_tup])]
  exact q
theorem boxAt_one {r : Row} {l : SV} : boxAt r [l] = bAt r l := by
  unfold boxAt
  cases e : bAt r l <;> simp [wk, e]
theorem w_with_row1 {r : Row} {l : SV} {k : Nat} {b : Bx} {i : Bool} {m : Mu} {Q : SV → Mu → Prop} (hr : LabR r) (hn : r.length ≤ 900) (hl : Lab l) (hk : plc r l = some k) (hb : r[k]? = some (l, b)) (q : Q (rowV (setB r k l { b with inn := i })) m) : Wp (F_with_row [rowV r, .tup [l], rowV (innR i)] m) Q := by
  have hp : pl 3 (.tup [l]) = true := by simp [pl_tup, pl_lab hl]
  obtain ⟨c, e1, e2⟩ := bAt_some hk
  rw [hb] at e1
  cases e1
  simp -implicitDefEqProofs [F_with_row, S_with_row, q_eqP 3 hp (show pl 3 (.tup []) = true by simp [pl_tup])]
  refine w_box_found hr hn (by simpa using hl) ?_
  rw [boxAt_one, e2]
  have e : SV.tup [.str (tagS b.tag), setsV b.sets, .tup [], rowV (innR i)] = boxV { b with inn := i } := by
    cases i <;> rfl
  simp -implicitDefEqProofs only [oB, boxV]
  simp -implicitDefEqProofs
  rw [e]
  exact w_with_box hr hn hl hk q
end VW

/-! viewwood k93, the plain law: deeds and what they do. -/
namespace VW
open PySem PySem.Spec PyProof.Rows L2
theorem q_str {x y : Str} {b : Bool} {m : Mu} (hx : PyData.strOk x = true) (hy : PyData.strOk y = true) (h : decide (SV.str x = SV.str y) = b) : fEq (.str x) (.str y) m = some (.bl b, m) := by
  rw [q_eqP 0 (by simpa [pl] using hx) (by simpa [pl] using hy), h]
theorem i_str {x : Str} {ys : List SV} {b : Bool} {m : Mu} (hx : (pl 40 (.str x) && pls 40 ys) = true) (h : decide (SV.str x ∈ ys) = b) : fInS (.str x) (.tup ys) m = some (.bl b, m) := by
  rw [Bool.and_eq_true] at hx
  rw [fInS_pl (ys := ys) rfl hx.1 hx.2, h]
@[simp] theorem e_put_put {m : Mu} : fEq (.str "put") (.str "put") m = some (.bl true, m) := q_str (by decide +kernel) (by decide +kernel) (by decide +kernel)
@[simp] theorem e_put_take {m : Mu} : fEq (.str "put") (.str "take") m = some (.bl false, m) := q_str (by decide +kernel) (by decide +kernel) (by decide +kernel)
@[simp] theorem e_put_move {m : Mu} : fEq (.str "put") (.str "move") m = some (.bl false, m) := q_str (by decide +kernel) (by decide +kernel) (by decide +kernel)
@[simp] theorem e_put_set {m : Mu} : fEq (.str "put") (.str "set") m = some (.bl false, m) := q_str (by decide +kernel) (by decide +kernel) (by decide +kernel)
@[simp] theorem e_put_unset {m : Mu} : fEq (.str "put") (.str "unset") m = some (.bl false, m) := q_str (by decide +kernel) (by decide +kernel) (by decide +kernel)
@[simp] theorem e_put_hands {m : Mu} : fEq (.str "put") (.str "hands") m = some (.bl false, m) := q_str (by decide +kernel) (by decide +kernel) (by decide +kernel)
@[simp] theorem e_take_put {m : Mu} : fEq (.str "take") (.str "put") m = some (.bl false, m) := q_str (by decide +kernel) (by decide +kernel) (by decide +kernel)
@[simp] theorem e_take_take {m : Mu} : fEq (.str "take") (.str "take") m = some (.bl true, m) := q_str (by decide +kernel) (by decide +kernel) (by decide +kernel)
@[simp] theorem e_take_move {m : Mu} : fEq (.str "take") (.str "move") m = some (.bl false, m) := q_str (by decide +kernel) (by decide +kernel) (by decide +kernel)
@[simp] theorem e_take_set {m : Mu} : fEq (.str "take") (.str "set") m = some (.bl false, m) := q_str (by decide +kernel) (by decide +kernel) (by decide +kernel)
@[simp] theorem e_take_unset {m : Mu} : fEq (.str "take") (.str "unset") m = some (.bl false, m) := q_str (by decide +kernel) (by decide +kernel) (by decide +kernel)
@[simp] theorem e_take_hands {m : Mu} : fEq (.str "take") (.str "hands") m = some (.bl false, m) := q_str (by decide +kernel) (by decide +kernel) (by decide +kernel)
@[simp] theorem e_move_put {m : Mu} : fEq (.str "move") (.str "put") m = some (.bl false, m) := q_str (by decide +kernel) (by decide +kernel) (by decide +kernel)
@[simp] theorem e_move_take {m : Mu} : fEq (.str "move") (.str "take") m = some (.bl false, m) := q_str (by decide +kernel) (by decide +kernel) (by decide +kernel)
@[simp] theorem e_move_move {m : Mu} : fEq (.str "move") (.str "move") m = some (.bl true, m) := q_str (by decide +kernel) (by decide +kernel) (by decide +kernel)
@[simp] theorem e_move_set {m : Mu} : fEq (.str "move") (.str "set") m = some (.bl false, m) := q_str (by decide +kernel) (by decide +kernel) (by decide +kernel)
@[simp] theorem e_move_unset {m : Mu} : fEq (.str "move") (.str "unset") m = some (.bl false, m) := q_str (by decide +kernel) (by decide +kernel) (by decide +kernel)
@[simp] theorem e_move_hands {m : Mu} : fEq (.str "move") (.str "hands") m = some (.bl false, m) := q_str (by decide +kernel) (by decide +kernel) (by decide +kernel)
@[simp] theorem e_set_put {m : Mu} : fEq (.str "set") (.str "put") m = some (.bl false, m) := q_str (by decide +kernel) (by decide +kernel) (by decide +kernel)
@[simp] theorem e_set_take {m : Mu} : fEq (.str "set") (.str "take") m = some (.bl false, m) := q_str (by decide +kernel) (by decide +kernel) (by decide +kernel)
@[simp] theorem e_set_move {m : Mu} : fEq (.str "set") (.str "move") m = some (.bl false, m) := q_str (by decide +kernel) (by decide +kernel) (by decide +kernel)
@[simp] theorem e_set_set {m : Mu} : fEq (.str "set") (.str "set") m = some (.bl true, m) := q_str (by decide +kernel) (by decide +kernel) (by decide +kernel)
@[simp] theorem e_set_unset {m : Mu} : fEq (.str "set") (.str "unset") m = some (.bl false, m) := q_str (by decide +kernel) (by decide +kernel) (by decide +kernel)
@[simp] theorem e_set_hands {m : Mu} : fEq (.str "set") (.str "hands") m = some (.bl false, m) := q_str (by decide +kernel) (by decide +kernel) (by decide +kernel)
@[simp] theorem e_unset_put {m : Mu} : fEq (.str "unset") (.str "put") m = some (.bl false, m) := q_str (by decide +kernel) (by decide +kernel) (by decide +kernel)
@[simp] theorem e_unset_take {m : Mu} : fEq (.str "unset") (.str "take") m = some (.bl false, m) := q_str (by decide +kernel) (by decide +kernel) (by decide +kernel)
@[simp] theorem e_unset_move {m : Mu} : fEq (.str "unset") (.str "move") m = some (.bl false, m) := q_str (by decide +kernel) (by decide +kernel) (by decide +kernel)
@[simp] theorem e_unset_set {m : Mu} : fEq (.str "unset") (.str "set") m = some (.bl false, m) := q_str (by decide +kernel) (by decide +kernel) (by decide +kernel)
@[simp] theorem e_unset_unset {m : Mu} : fEq (.str "unset") (.str "unset") m = some (.bl true, m) := q_str (by decide +kernel) (by decide +kernel) (by decide +kernel)
@[simp] theorem e_unset_hands {m : Mu} : fEq (.str "unset") (.str "hands") m = some (.bl false, m) := q_str (by decide +kernel) (by decide +kernel) (by decide +kernel)
@[simp] theorem i_put {m : Mu} : fInS (.str "put") (.tup [.str "put", .str "take", .str "move"]) m = some (.bl true, m) := i_str (by decide +kernel) (by decide +kernel)
@[simp] theorem i_take {m : Mu} : fInS (.str "take") (.tup [.str "put", .str "take", .str "move"]) m = some (.bl true, m) := i_str (by decide +kernel) (by decide +kernel)
@[simp] theorem i_move {m : Mu} : fInS (.str "move") (.tup [.str "put", .str "take", .str "move"]) m = some (.bl true, m) := i_str (by decide +kernel) (by decide +kernel)
@[simp] theorem i_set {m : Mu} : fInS (.str "set") (.tup [.str "put", .str "take", .str "move"]) m = some (.bl false, m) := i_str (by decide +kernel) (by decide +kernel)
@[simp] theorem i_unset {m : Mu} : fInS (.str "unset") (.tup [.str "put", .str "take", .str "move"]) m = some (.bl false, m) := i_str (by decide +kernel) (by decide +kernel)
@[simp] theorem n_ab {m : Mu} : fNe (.str "ab") (.str "ab") m = some (.bl false, m) := by
  rw [q_neP 0 (by decide +kernel) (by decide +kernel)]
  simp
theorem q_tag {a b : Bool} {m : Mu} : fEq (.str (tagS a)) (.str (tagS b)) m = some (.bl (decide (a = b)), m) := by
  cases a <;> cases b <;> exact q_str (by decide +kernel) (by decide +kernel) (by decide +kernel)

inductive Dd where
  | take (ad : List SV) (l : SV)
  | put (ad : List SV) (k : Nat) (l : SV) (t : Bool)
  | move (ad : List SV) (l : SV) (k : Nat)
  | set (ad : List SV) (n : Int)
  | unset (ad : List SV)
def dV : Dd → SV
  | .take ad l => .tup [.str "take", .tup ad, l]
  | .put ad k l t => .tup [.str "put", .tup ad, .int k, l, .str (tagS t)]
  | .move ad l k => .tup [.str "move", .tup ad, l, .int k]
  | .set ad n => .tup [.str "set", .tup ad, .str "ab", .int n]
  | .unset ad => .tup [.str "unset", .tup ad, .str "ab"]
theorem w_take {r : Row} {ad : List SV} {l : SV} {k : Nat} {m : Mu} {Q : SV → Mu → Prop} (hr : LabR r) (hn : r.length ≤ 900) (hl : Lab l) (hk : plc r l = some k) (q : Q (rowV (r.eraseIdx k)) m) : Wp (F_turned_row [rowV r, dV (.take ad l)] m) Q := by
  simp -implicitDefEqProofs [F_turned_row, S_turned_row, dV]
  refine w_place_of hr hl hn ?_
  have e : rowV (r.eraseIdx k) = .tup ((r.map cellV).take k ++ (r.map cellV).drop (k + 1)) := by
    simp [rowV, List.eraseIdx_eq_take_drop_succ, List.map_take, List.map_drop]
  rw [e] at q
  rw [hk]
  simp -implicitDefEqProofs [oI, rowV]
  rw [if_pos (by omega)]
  simpa using q
theorem w_put {r : Row} {ad : List SV} {l : SV} {k : Nat} {t : Bool} {m : Mu} {Q : SV → Mu → Prop} (hr : LabR r) (hn : r.length ≤ 900) (hl : Lab l) (hk : plc r l = none) (hle : k ≤ r.length) (q : Q (rowV (r.take k ++ (l, ⟨t, none, false⟩) :: r.drop k)) m) : Wp (F_turned_row [rowV r, dV (.put ad k l t)] m) Q := by
  simp -implicitDefEqProofs [F_turned_row, S_turned_row, dV]
  refine w_place_of hr hl hn ?_
  have e : rowV (r.take k ++ (l, ⟨t, none, false⟩) :: r.drop k) = .tup ((r.map cellV).take k ++ .tup [l, .tup [.str (tagS t), .tup [], .tup [], .tup []]] :: (r.map cellV).drop k) := by
    simp [rowV, cellV, boxV, setsV, inV, List.map_take, List.map_drop]
  rw [e] at q
  rw [hk]
  simp -implicitDefEqProofs [oI, hle]
  simp -implicitDefEqProofs [rowV]
  rw [if_pos (by omega)]
  simp
  rw [if_pos (by omega)]
  simpa using q
theorem w_move {r : Row} {ad : List SV} {l : SV} {j k : Nat} {b : Bx} {m : Mu} {Q : SV → Mu → Prop} (hr : LabR r) (hn : r.length ≤ 900) (hl : Lab l) (hj : plc r l = some j) (hb : r[j]? = some (l, b)) (hle : k < r.length) (q : Q (rowV ((r.eraseIdx j).take k ++ (l, b) :: (r.eraseIdx j).drop k)) m) :
    Wp (F_turned_row [rowV r, dV (.move ad l k)] m) Q := by
  have hjl := (List.getElem?_eq_some_iff.mp hb).1
  simp -implicitDefEqProofs [F_turned_row, S_turned_row, dV]
  refine w_place_of hr hl hn ?_
  have e0 : (r.map cellV).take j ++ (r.map cellV).drop (j + 1) = (r.eraseIdx j).map cellV := by
    simp [List.eraseIdx_eq_take_drop_succ, List.map_take, List.map_drop]
  have el : (r.eraseIdx j).length = r.length - 1 := by rw [List.length_eraseIdx, if_pos hjl]
  rw [hj]
  simp -implicitDefEqProofs [oI, rowV]
  rw [if_pos (by omega)]
  have e1 : List.take j (List.map cellV r) ++ List.drop (j + 1) (List.map cellV r) = (r.eraseIdx j).map cellV := e0
  simp only [← List.map_take, ← List.map_drop, ← List.map_append] at e1 ⊢
  rw [show List.take j r ++ List.drop (j + 1) r = r.eraseIdx j from (List.eraseIdx_eq_take_drop_succ _ _).symm]
  have ek : (k : Int) ≤ ((r.eraseIdx j).length : Int) := by rw [el]; omega
  simp -implicitDefEqProofs [el, show k ≤ r.length - 1 by omega, rowV_get hb]
  rw [if_pos (by omega)]
  simp
  rw [if_pos (by omega)]
  simpa [rowV, List.map_take, List.map_drop] using q
end VW

/-! viewwood k93, the plain law: a tree led by deeds. -/
namespace VW
open PySem PySem.Spec PyProof.Rows L2
theorem wp_lcT0 {b : DG} {T : DT} {F : DE} {vs : List Nat} {r : En} {m : Mu} {xs : List SV} {Q : SV → Mu → Prop} (hl : xs.length ≤ 900)
    (h : ∀ x ∈ xs, ∀ m1, Pre m m1 → ∃ r1, b x (wipeE r vs) = some r1 ∧ Wp (T r1 m1) fun t m2 => t = false ∧ Pre m1 m2)
    (k : ∀ m', Pre m m' → m'[m.length]? = some (.lst []) → Q (.ref m.length) m') : Wp ((dLcGo (fun _ => true) b T F vs m.length xs r (m ++ [.lst []])).map fun m' => (SV.ref m.length, m')) Q := by
  refine wp_lcT (fun _ => false) id hl (fun x hx m1 p1 => ?_) fun m' p1 p2 => k m' p1 (by rw [p2, List.filter_eq_nil_iff.mpr (by simp)]; rfl)
  obtain ⟨r1, e1, e2⟩ := h x hx m1 p1
  refine ⟨r1, e1, wp_mono e2 fun t m2 ⟨a, b⟩ => ⟨a, b, fun c => ?_⟩⟩
  rw [a] at c
  cases c
theorem setsV_mem {s : Option Int} {x : SV} {xs : List SV} (h : setsV s = .tup xs) (hx : x ∈ xs) : ∃ n, s = some n ∧ x = .tup [.str "ab", .int n] := by
  cases s with
  | none => cases h; cases hx
  | some n =>
    cases h
    simp at hx
    exact ⟨n, rfl, hx⟩
theorem setsV_tup (s : Option Int) : ∃ xs, setsV s = .tup xs ∧ xs.length ≤ 1 ∧ (xs.length = 0 ↔ s = none) := by
  cases s with
  | none => exact ⟨_, rfl, by simp, by simp⟩
  | some n => exact ⟨_, rfl, by simp, by simp⟩
@[simp] theorem q_addL {i j : Nat} {xs ys : List SV} {m : Mu} (hi : m[i]? = some (.lst xs)) (hj : m[j]? = some (.lst ys)) (hl : xs.length + ys.length ≤ 1000) : fAdd (.ref i) (.ref j) m = some (.ref m.length, m ++ [.lst (xs ++ ys)]) := by
  unfold fAdd
  simp [hi, hj, hl]
theorem q_tupleL {i : Nat} {xs : List SV} {m : Mu} (hi : m[i]? = some (.lst xs)) : fTuple [.ref i] m = some (.tup xs, m) := by
  simp [fTuple, itemsM, hi]
theorem q_lenL {i : Nat} {xs : List SV} {m : Mu} (hi : m[i]? = some (.lst xs)) : fLen [.ref i] m = some (.int xs.length, m) := by
  simp [fLen, itemsM, hi]
theorem q_sort1 {i : Nat} {k : Str} {n : Int} {m : Mu} (hi : m[i]? = some (.lst [.tup [.str k, .int n]])) : fSort1 [.ref i] m = some (.ref m.length, m ++ [.lst [.tup [.str k, .int n]]]) := by
  simp [fSort1, lstAt, hi]
theorem w_set {b : Bx} {ad : List SV} {n : Int} {m : Mu} {Q : SV → Mu → Prop} (q : ∀ m', Pre m m' → Q (boxV { b with sets := some n }) m') : Wp (F_turned_box [boxV b, dV (.set ad n)] m) Q := by
  obtain ⟨xs, e1, e2, e3⟩ := setsV_tup b.sets
  simp -implicitDefEqProofs [F_turned_box, S_turned_box, dV, boxV, e1]
  refine wp_lcT0 (by omega) (fun x hx m1 p1 => ?_) fun m' p1 p2 => ?_
  · obtain ⟨n', _, rfl⟩ := setsV_mem e1 hx
    exact ⟨_, rfl, by simp [wipeE]⟩
  · have g1 : (m' ++ [MO.lst [.tup [.str "ab", .int n]]])[m.length]? = some (.lst []) := Pre.app.get p2
    have g2 : (m' ++ [MO.lst [.tup [.str "ab", .int n]]])[m'.length]? = some (.lst [.tup [.str "ab", .int n]]) := by simp
    rw [q_addL g1 g2 (by simp)]
    simp -implicitDefEqProofs
    have g3 : (m' ++ [MO.lst [.tup [.str "ab", .int n]], .lst [.tup [.str "ab", .int n]]])[m'.length + 1]? = some (.lst [.tup [.str "ab", .int n]]) := by simp
    rw [q_sort1 g3]
    simp -implicitDefEqProofs
    rw [q_tupleL (xs := [.tup [.str "ab", .int n]]) (by simp)]
    simp -implicitDefEqProofs
    exact q _ (p1.tr .app)
theorem w_unset {b : Bx} {ad : List SV} {m : Mu} {Q : SV → Mu → Prop} (h : b.sets ≠ none) (q : ∀ m', Pre m m' → Q (boxV { b with sets := none }) m') : Wp (F_turned_box [boxV b, dV (.unset ad)] m) Q := by
  obtain ⟨xs, e1, e2, e3⟩ := setsV_tup b.sets
  have e4 : xs.length = 1 := by
    have : xs.length ≠ 0 := fun z => h (e3.mp z)
    omega
  simp -implicitDefEqProofs [F_turned_box, S_turned_box, dV, boxV, e1]
  refine wp_lcT0 (by omega) (fun x hx m1 p1 => ?_) fun m' p1 p2 => ?_
  · obtain ⟨n', _, rfl⟩ := setsV_mem e1 hx
    exact ⟨_, rfl, by simp [wipeE]⟩
  · rw [q_lenL p2]
    simp -implicitDefEqProofs [e4]
    rw [q_tupleL p2]
    simp -implicitDefEqProofs
    exact q _ p1

/-- the deed d leads r to r' -/
def Led (r : Row) (d : Dd) (r' : Row) : Prop := ∀ (m : Mu) (Q : SV → Mu → Prop), (∀ m', Pre m m' → Q (rowV r') m') → Wp (F_turned [rowV r, dV d] m) Q
theorem rowV_ne (r : Row) : (rowV r = SV.non) = False := by simp [rowV]
theorem boxV_ne (b : Bx) : (boxV b = SV.non) = False := by simp [boxV]
theorem led_take {r : Row} {l : SV} {k : Nat} (hr : LabR r) (hn : r.length ≤ 900) (hl : Lab l) (hk : plc r l = some k) : Led r (.take [] l) (r.eraseIdx k) := fun m Q q => by
  have w : ∀ {m Q}, Q (rowV (r.eraseIdx k)) m → Wp (F_turned_row [rowV r, dV (.take [] l)] m) Q := fun q => w_take hr hn hl hk q
  simp only [dV] at w
  simp -implicitDefEqProofs [F_turned, S_turned, dV]
  refine w_row_found hr hn (by simp) ?_
  simp -implicitDefEqProofs [rowAt, oR, rowV_ne]
  refine w ?_
  simp -implicitDefEqProofs [rowV_ne]
  exact w_with_row0 (q m .refl)
theorem led_put {r : Row} {l : SV} {k : Nat} {t : Bool} (hr : LabR r) (hn : r.length ≤ 900) (hl : Lab l) (hk : plc r l = none) (hle : k ≤ r.length) : Led r (.put [] k l t) (r.take k ++ (l, ⟨t, none, false⟩) :: r.drop k) := fun m Q q => by
  have w : ∀ {m Q}, Q (rowV (r.take k ++ (l, ⟨t, none, false⟩) :: r.drop k)) m → Wp (F_turned_row [rowV r, dV (.put [] k l t)] m) Q := fun q => w_put hr hn hl hk hle q
  simp only [dV] at w
  simp -implicitDefEqProofs [F_turned, S_turned, dV]
  refine w_row_found hr hn (by simp) ?_
  simp -implicitDefEqProofs [rowAt, oR, rowV_ne]
  refine w ?_
  simp -implicitDefEqProofs [rowV_ne]
  exact w_with_row0 (q m .refl)
theorem led_move {r : Row} {l : SV} {j k : Nat} {b : Bx} (hr : LabR r) (hn : r.length ≤ 900) (hl : Lab l) (hj : plc r l = some j) (hb : r[j]? = some (l, b)) (hle : k < r.length) : Led r (.move [] l k) ((r.eraseIdx j).take k ++ (l, b) :: (r.eraseIdx j).drop k) := fun m Q q => by
  have w : ∀ {m Q}, Q (rowV ((r.eraseIdx j).take k ++ (l, b) :: (r.eraseIdx j).drop k)) m → Wp (F_turned_row [rowV r, dV (.move [] l k)] m) Q := fun q => w_move hr hn hl hj hb hle q
  simp only [dV] at w
  simp -implicitDefEqProofs [F_turned, S_turned, dV]
  refine w_row_found hr hn (by simp) ?_
  simp -implicitDefEqProofs [rowAt, oR, rowV_ne]
  refine w ?_
  simp -implicitDefEqProofs [rowV_ne]
  exact w_with_row0 (q m .refl)
theorem rowAt_one {r : Row} {l : SV} : rowAt r [l] = (bAt r l).map fun b => innR b.inn := by
  simp [rowAt, boxAt_one]
theorem led_iput {r : Row} {l : SV} {k : Nat} {b : Bx} (hr : LabR r) (hn : r.length ≤ 900) (hl : Lab l) (hk : plc r l = some k) (hb : r[k]? = some (l, b)) (hi : b.inn = false) : Led r (.put [l] 0 lab0 false) (setB r k l { b with inn := true }) := fun m Q q => by
  obtain ⟨c, e1, e2⟩ := bAt_some hk
  rw [hb] at e1
  cases e1
  have w : ∀ {m Q}, Q (rowV (innR true)) m → Wp (F_turned_row [rowV (innR false), dV (.put [l] 0 lab0 false)] m) Q := fun q => w_put (labR_inn _) (by simp [innR]) lab0_lab rfl (by simp) q
  simp only [dV] at w
  simp -implicitDefEqProofs [F_turned, S_turned, dV]
  refine w_row_found hr hn (by simpa using hl) ?_
  simp -implicitDefEqProofs [rowAt_one, e2, hi, oR, rowV_ne]
  refine w ?_
  simp -implicitDefEqProofs [rowV_ne]
  exact w_with_row1 hr hn hl hk hb (q m .refl)
theorem led_itake {r : Row} {l : SV} {k : Nat} {b : Bx} (hr : LabR r) (hn : r.length ≤ 900) (hl : Lab l) (hk : plc r l = some k) (hb : r[k]? = some (l, b)) (hi : b.inn = true) : Led r (.take [l] lab0) (setB r k l { b with inn := false }) := fun m Q q => by
  obtain ⟨c, e1, e2⟩ := bAt_some hk
  rw [hb] at e1
  cases e1
  have e0 : plc (innR true) lab0 = some 0 := by simp [plc, innR]
  have w : ∀ {m Q}, Q (rowV (innR false)) m → Wp (F_turned_row [rowV (innR true), dV (.take [l] lab0)] m) Q := fun q => w_take (labR_inn _) (by simp [innR]) lab0_lab e0 q
  simp only [dV] at w
  simp -implicitDefEqProofs [F_turned, S_turned, dV]
  refine w_row_found hr hn (by simpa using hl) ?_
  simp -implicitDefEqProofs [rowAt_one, e2, hi, oR, rowV_ne]
  refine w ?_
  simp -implicitDefEqProofs [rowV_ne]
  exact w_with_row1 hr hn hl hk hb (q m .refl)
theorem led_set {r : Row} {l : SV} {k : Nat} {b : Bx} {n : Int} (hr : LabR r) (hn : r.length ≤ 900) (hl : Lab l) (hk : plc r l = some k) (hb : r[k]? = some (l, b)) : Led r (.set [l] n) (setB r k l { b with sets := some n }) := fun m Q q => by
  obtain ⟨c, e1, e2⟩ := bAt_some hk
  rw [hb] at e1
  cases e1
  have w : ∀ {m Q}, (∀ m', Pre m m' → Q (boxV { b with sets := some n }) m') → Wp (F_turned_box [boxV b, dV (.set [l] n)] m) Q := fun q => w_set q
  simp only [dV] at w
  simp -implicitDefEqProofs [F_turned, S_turned, dV]
  refine w_box_found hr hn (by simpa using hl) ?_
  rw [boxAt_one, e2]
  simp -implicitDefEqProofs [oB, boxV_ne]
  refine w fun m' p => ?_
  simp -implicitDefEqProofs [boxV_ne]
  exact w_with_box hr hn hl hk (q m' p)
theorem led_unset {r : Row} {l : SV} {k : Nat} {b : Bx} (hr : LabR r) (hn : r.length ≤ 900) (hl : Lab l) (hk : plc r l = some k) (hb : r[k]? = some (l, b)) (hs : b.sets ≠ none) : Led r (.unset [l]) (setB r k l { b with sets := none }) := fun m Q q => by
  obtain ⟨c, e1, e2⟩ := bAt_some hk
  rw [hb] at e1
  cases e1
  have w : ∀ {m Q}, (∀ m', Pre m m' → Q (boxV { b with sets := none }) m') → Wp (F_turned_box [boxV b, dV (.unset [l])] m) Q := fun q => w_unset hs q
  simp only [dV] at w
  simp -implicitDefEqProofs [F_turned, S_turned, dV]
  refine w_box_found hr hn (by simpa using hl) ?_
  rw [boxAt_one, e2]
  simp -implicitDefEqProofs [oB, boxV_ne]
  refine w fun m' p => ?_
  simp -implicitDefEqProofs [boxV_ne]
  exact w_with_box hr hn hl hk (q m' p)
inductive Leds : Row → List Dd → Row → Prop
  | nil {r : Row} : Leds r [] r
  | cons {r r1 r' : Row} {d : Dd} {ds : List Dd} : Led r d r1 → Leds r1 ds r' → Leds r (d :: ds) r'
theorem Leds.append {r r1 r' : Row} {ds es : List Dd} (h : Leds r ds r1) (k : Leds r1 es r') : Leds r (ds ++ es) r' := by
  induction h with
  | nil => exact k
  | cons a _ ih => exact .cons a (ih k)
theorem w_led {r r' : Row} {ds : List Dd} {m : Mu} {Q : SV → Mu → Prop} (h : Leds r ds r') (hn : ds.length ≤ 900) (q : ∀ m', Pre m m' → Q (rowV r') m') : Wp (F_led [rowV r, .tup (ds.map dV)] m) Q := by
  simp -implicitDefEqProofs [F_led, S_led, rOk_nat (n := ds.length) (by omega)]
  refine wp_for (fun i e m' => Pre m m' ∧ ∃ R o, e = [some (rowV R), some (.tup (ds.map dV)), o] ∧ Leds R (ds.drop i) r') ⟨.refl, r, none, rfl, h⟩ (fun i x e m' hx I => ?_) fun e m' I => ?_
  · obtain ⟨p, R, o, rfl, hR⟩ := I
    refine ⟨_, rfl, ?_⟩
    have hlt : i < ds.length := by
      have := (List.getElem?_eq_some_iff.mp hx).1
      rwa [intsV_len] at this
    rw [intsV_get hlt] at hx
    cases hx
    rw [List.drop_eq_getElem_cons hlt] at hR
    cases hR with
    | cons a b =>
      have ei : atI (ds.map dV) ((i : Nat) : Int) = some (dV ds[i]) := atI_nat (by simp [hlt])
      simp -implicitDefEqProofs [ei]
      refine a m' _ fun m2 p2 => ?_
      simp -implicitDefEqProofs [rowV_ne]
      exact ⟨p.tr p2, _, rfl, b⟩
  · obtain ⟨p, R, o, rfl, hR⟩ := I
    rw [intsV_len, List.drop_of_length_le (Nat.le_refl _)] at hR
    cases hR
    simpa using q m' p
theorem w_leads {r r' : Row} {ds : List Dd} {m : Mu} {Q : SV → Mu → Prop} (h : Leds r ds r') (hr' : LabR r') (hn : ds.length ≤ 900) (q : ∀ m', Pre m m' → Q (.bl true) m') : Wp (F_leads [rowV r, rowV r', .tup (ds.map dV)] m) Q := by
  simp -implicitDefEqProofs [F_leads, S_leads]
  refine w_led h hn fun m' p => ?_
  simp -implicitDefEqProofs [rowV_ne, q_eqP 7 (pl_row hr') (pl_row hr')]
  exact q m' p
end VW

/-! viewwood k93, the plain law: what is kept. -/
namespace VW
open PySem PySem.Spec PyProof.Rows L2

/-! ### the heap but for some places -/
def Fr (S : List Nat) (m m' : Mu) : Prop := m.length ≤ m'.length ∧ ∀ j, j < m.length → j ∉ S → m'[j]? = m[j]?
theorem Fr.refl {S : List Nat} {m : Mu} : Fr S m m := ⟨Nat.le_refl _, fun _ _ _ => rfl⟩
theorem Fr.tr {S : List Nat} {a b c : Mu} (h : Fr S a b) (k : Fr S b c) : Fr S a c := ⟨Nat.le_trans h.1 k.1, fun j h1 h2 => (k.2 j (Nat.lt_of_lt_of_le h1 h.1) h2).trans (h.2 j h1 h2)⟩
theorem Fr.of_pre {S : List Nat} {m m' : Mu} (h : Pre m m') : Fr S m m' := by
  obtain ⟨g, rfl⟩ := h
  exact ⟨by simp, fun j h1 _ => List.getElem?_append_left h1⟩
theorem Fr.pre {m m' : Mu} (h : Fr [] m m') : Pre m m' := by
  rw [Pre, List.prefix_iff_getElem?]
  intro i hi
  rw [h.2 i hi (by simp), List.getElem?_eq_getElem hi]
theorem Fr.set {S : List Nat} {m : Mu} {i : Nat} {o : MO} (h : i ∈ S) : Fr S m (m.set i o) := ⟨by simp, fun j h1 h2 => by
  rw [List.getElem?_set_ne (fun e => h2 (by rw [← e]; exact h))]⟩
theorem Fr.get {S : List Nat} {m m' : Mu} (h : Fr S m m') {j : Nat} {o : MO} (e : m[j]? = some o) (hj : j ∉ S) : m'[j]? = some o := (h.2 j (List.getElem?_eq_some_iff.mp e).1 hj).trans e
theorem Fr.new {S : List Nat} {m m' : Mu} {i : Nat} (h : Fr (i :: S) m m') (hi : m.length ≤ i) : Fr S m m' := ⟨h.1, fun j h1 h2 => h.2 j h1 (by simp; exact ⟨by omega, h2⟩)⟩
theorem Fr.mono {S T : List Nat} {m m' : Mu} (h : Fr S m m') (k : ∀ x ∈ S, x ∈ T) : Fr T m m' := ⟨h.1, fun j h1 h2 => h.2 j h1 fun z => h2 (k j z)⟩
theorem Fr.app {S : List Nat} {m : Mu} {g : List MO} : Fr S m (m ++ g) := .of_pre .app
theorem lt_of_get {m : Mu} {i : Nat} {o : MO} (h : m[i]? = some o) : i < m.length := (List.getElem?_eq_some_iff.mp h).1
theorem set_get {m : Mu} {i : Nat} {o o' : MO} (h : m[i]? = some o') : (m.set i o)[i]? = some o := List.getElem?_set_self (lt_of_get h)

/-! ### a walk over a list object that stays -/
theorem wp_forL {b : DG} {S : DS} (I : Nat → En → Mu → Prop) {Q : Out → Mu → Prop} {xs : List SV} {r : En} {m : Mu} {j : Nat} (hj : ∀ i r m, I i r m → m[j]? = some (.lst xs)) (h0 : I 0 r m)
    (step : ∀ (i : Nat) (x : SV) (r : En) (m : Mu), xs[i]? = some x → I i r m → ∃ r1, b x r = some r1 ∧ Wp (S r1 m) fun o m' => match o with
      | .nx r' => I (i + 1) r' m'
      | .ct r' => I (i + 1) r' m'
      | .bk r' => Q (.nx r') m'
      | .rt v => Q (.rt v) m')
    (done : ∀ r m, I xs.length r m → Q (.nx r) m) : Wp (dForLs b S j (xs.length + 1) 0 r m) Q := by
  suffices h : ∀ (f n : Nat) (r : En) (m : Mu), n + f = xs.length + 1 → n ≤ xs.length → I n r m → Wp (dForLs b S j f n r m) Q from h _ 0 r m (by omega) (Nat.zero_le _) h0
  intro f
  induction f with
  | zero =>
    intro n r m e hn h
    omega
  | succ f ih =>
    intro n r m e hn h
    unfold dForLs
    rw [hj n r m h]
    simp only
    rcases Nat.lt_or_ge n xs.length with hlt | hge
    · obtain ⟨r1, hb, o, m', e3, q⟩ := step n xs[n] r m (List.getElem?_eq_getElem hlt) h
      rw [List.getElem?_eq_getElem hlt]
      simp only [hb, Option.bind_some, e3]
      cases o with
      | nx r' => exact ih (n + 1) r' m' (by omega) hlt q
      | ct r' => exact ih (n + 1) r' m' (by omega) hlt q
      | bk r' => exact ⟨_, _, rfl, q⟩
      | rt v => exact ⟨_, _, rfl, q⟩
    · have : n = xs.length := by omega
      subst this
      rw [List.getElem?_eq_none (Nat.le_refl _)]
      exact ⟨_, _, rfl, done r m h⟩
theorem q_forL {F : DE} {b : DG} {S : DS} {r : En} {m m1 : Mu} {i : Nat} {xs : List SV} (h : m1[i]? = some (.lst xs)) : (match m1[i]? with
    | some (.lst xs) => dForLs b S i (xs.length + 1) 0 r m1
    | _ => none) = dForLs b S i (xs.length + 1) 0 r m1 := by rw [h]
@[simp] theorem q_forLd {F : DE} {b : DG} {S : DS} {r : En} {m : Mu} : dForL F b S r m = (F r m).bind fun p => match p with
  | (.ref i, m1) => match m1[i]? with
    | some (.lst xs) => dForLs b S i (xs.length + 1) 0 r m1
    | _ => none
  | _ => none := (rfl)

/-! ### kept -/
def isK (o n : Row) (l : SV) : Bool := match bAt o l, bAt n l with
  | some a, some b => decide (a.tag = b.tag)
  | _, _ => false
theorem w_is_kept {o n : Row} {l : SV} {m : Mu} {Q : SV → Mu → Prop} (ho : LabR o) (hn : LabR n) (ho9 : o.length ≤ 900) (hn9 : n.length ≤ 900) (hl : Lab l) (q : Q (.bl (isK o n l)) m) : Wp (F_is_kept [rowV o, rowV n, l] m) Q := by
  simp -implicitDefEqProofs [F_is_kept, S_is_kept]
  refine w_place_of ho hl ho9 ?_
  refine w_place_of hn hl hn9 ?_
  cases e1 : plc o l with
  | none =>
    simp [isK, bAt_none e1] at q
    simpa [oI] using q
  | some i =>
    obtain ⟨a, a1, a2⟩ := bAt_some e1
    cases e2 : plc n l with
    | none =>
      simp [isK, a2, bAt_none e2] at q
      simpa [oI] using q
    | some j =>
      obtain ⟨b, b1, b2⟩ := bAt_some e2
      simp only [isK, a2, b2] at q
      simp -implicitDefEqProofs [oI, rowV, rowV_get a1, rowV_get b1, cellV]
      simp -implicitDefEqProofs [boxV, q_tag]
      exact q
def keptL (r o n : Row) : List SV := (r.map (·.1)).filter (isK o n)
theorem w_kept_labels {r o n : Row} {m : Mu} {Q : SV → Mu → Prop} (hr : LabR r) (ho : LabR o) (hn : LabR n) (hr9 : r.length ≤ 900) (ho9 : o.length ≤ 900) (hn9 : n.length ≤ 900) (q : ∀ m', Pre m m' → m'[m.length]? = some (.lst (keptL r o n)) → Q (.ref m.length) m') :
    Wp (F_kept_labels [rowV r, rowV o, rowV n] m) Q := by
  have e0 : rowV r = .tup (r.map cellV) := rfl
  simp -implicitDefEqProofs [F_kept_labels, S_kept_labels]
  rw [e0]
  simp -implicitDefEqProofs only [q_itTup, Option.bind_some]
  let hd : SV → SV := fun x => match x with
    | .tup (y :: _) => y
    | _ => .non
  refine wp_lcT (fun x => isK o n (hd x)) hd (by simpa using hr9) (fun x hx m1 p1 => ?_) fun m' p1 p2 => ?_
  · obtain ⟨p, hp, rfl⟩ := List.mem_map.mp hx
    refine ⟨_, rfl, ?_⟩
    simp -implicitDefEqProofs [wipeE, cellV]
    refine w_is_kept ho hn ho9 hn9 (hr p hp) ?_
    simp [hd]
  · refine q m' p1 ?_
    rw [p2]
    congr 2
    rw [keptL]
    clear p2 q
    induction r with
    | nil => rfl
    | cons p r ih =>
      have ih := ih (fun p hp => hr p (by simp [hp])) (by simp at hr9; omega) rfl
      simp only [List.map_cons, List.filter_cons]
      rw [show hd (cellV p) = p.1 from rfl]
      cases isK o n p.1 <;> simp [ih]
      rfl
theorem bAt_mem {r : Row} {l : SV} (h : l ∈ r.map (·.1)) : ∃ k b, plc r l = some k ∧ r[k]? = some (l, b) ∧ bAt r l = some b := by
  cases e : plc r l with
  | none => exact absurd h (plc_none.mp e)
  | some k =>
    obtain ⟨b, e1, e2⟩ := bAt_some e
    exact ⟨k, b, rfl, e1, e2⟩
theorem isK_some {o n : Row} {l : SV} (h : isK o n l = true) : ∃ a b, bAt o l = some a ∧ bAt n l = some b ∧ a.tag = b.tag := by
  unfold isK at h
  cases e1 : bAt o l with
  | none => simp [e1] at h
  | some a =>
    cases e2 : bAt n l with
    | none => simp [e1, e2] at h
    | some b =>
      simp [e1, e2] at h
      exact ⟨a, b, rfl, rfl, h⟩
theorem plc_of_bAt {r : Row} {l : SV} {b : Bx} (h : bAt r l = some b) : ∃ k, plc r l = some k ∧ r[k]? = some (l, b) := by
  cases e : plc r l with
  | none => rw [bAt_none e] at h; cases h
  | some k =>
    obtain ⟨c, e1, e2⟩ := bAt_some e
    rw [h] at e2
    cases e2
    exact ⟨k, rfl, e1⟩
/-- the box that stands at l, if one -/
def bO (r : Row) (l : SV) : Bx := (bAt r l).getD ⟨false, none, false⟩
theorem mem_keptL {r o n : Row} {l : SV} (h : l ∈ keptL r o n) : l ∈ r.map (·.1) ∧ isK o n l = true := by
  simpa [keptL] using h
theorem labR_mem {r : Row} (h : LabR r) {l : SV} (hl : l ∈ r.map (·.1)) : Lab l := by
  obtain ⟨p, hp, rfl⟩ := List.mem_map.mp hl
  exact h p hp
end VW

/-! viewwood k93, the plain law: all that is kept; deeds that fill a box, change a box. -/
namespace VW
open PySem PySem.Spec PyProof.Rows L2
def Dp : Nat → Row → Prop
  | 0, r => r = []
  | d + 1, r => ∀ p ∈ r, Dp d (innR p.2.inn)
theorem dp_inn (b : Bool) : Dp 1 (innR b) := by
  intro p hp
  cases b with
  | false => cases hp
  | true =>
    simp [innR] at hp
    subst hp
    rfl
theorem dp_row (r : Row) : Dp 2 r := fun p _ => dp_inn _
def keptB : Nat → Row → Row → List SV → List SV
  | 0, _, _, ad => [.tup ad]
  | d + 1, o, n, ad => .tup ad :: (keptL o o n).flatMap fun l => keptB d (innR (bO o l).inn) (innR (bO n l).inn) (ad ++ [l])
theorem q_isLst {m : Mu} {i : Nat} {xs : List SV} (h : m[i]? = some (.lst xs)) : isLst m (.ref i) = true := by simp [isLst, h]
theorem q_extL {m : Mu} {i j : Nat} {xs ys : List SV} (hi : m[i]? = some (.lst xs)) (hj : m[j]? = some (.lst ys)) (hl : xs.length + ys.length ≤ 1000) : fExtend (.ref i) [.ref j] m = some (.non, m.set i (.lst (xs ++ ys))) := by
  simp [fExtend, lstAt, hi, hj, hl]
theorem q_app1 {m : Mu} {i : Nat} {xs : List SV} {y : SV} (hi : m[i]? = some (.lst xs)) (hl : xs.length ≤ 1000) : fAppend (.ref i) [y] m = some (.non, m.set i (.lst (xs ++ [y]))) := by
  simp [fAppend, lstAt, hi, hl]
theorem bO_of {r : Row} {l : SV} {b : Bx} (h : bAt r l = some b) : bO r l = b := by simp [bO, h]
theorem flat_take {α β : Type} (f : α → List β) {xs : List α} {i : Nat} {x : α} (h : xs[i]? = some x) : (xs.take (i + 1)).flatMap f = (xs.take i).flatMap f ++ f x := by
  rw [List.take_add_one, h]
  simp
theorem flat_len {α β : Type} (f : α → List β) {xs : List α} {i : Nat} {x : α} (h : xs[i]? = some x) : ((xs.take i).flatMap f).length + (f x).length ≤ (xs.flatMap f).length := by
  have := congrArg List.length (flat_take f h)
  rw [List.length_append] at this
  rw [← this]
  conv => rhs; rw [← List.take_append_drop (i + 1) xs, List.flatMap_append, List.length_append]
  omega
theorem w_kept_below : ∀ (d : Nat) (o n : Row) (ad : List SV) (m : Mu) (Q : SV → Mu → Prop), Dp d o → LabR o → LabR n → o.length ≤ 900 → n.length ≤ 900 → ad.length + d ≤ 900 → (keptB d o n ad).length ≤ 900 →
    (∀ m' i, Pre m m' → m'[i]? = some (.lst (keptB d o n ad)) → Q (.ref i) m') → Wp (F_kept_below (d + 1) [rowV o, rowV n, .tup ad] m) Q := by
  intro d
  induction d with
  | zero =>
    intro o n ad m Q hD ho hn ho9 hn9 had hB q
    cases hD
    simp -implicitDefEqProofs [F_kept_below, S_kept_below]
    refine w_kept_labels ho ho hn ho9 ho9 hn9 fun m' p1 p2 => ?_
    simp -implicitDefEqProofs at p2
    simp -implicitDefEqProofs [p2]
    refine wp_forL (fun i e m2 => m2 = m' ∧ e = [some (rowV []), some (rowV n), some (.tup ad), some (.ref m.length), none, none]) (fun i e m2 I => by rw [I.1]; exact p2) ⟨rfl, rfl⟩ (fun i x e m2 hx I => ?_) fun e m2 I => ?_
    · simp [keptL] at hx
    · obtain ⟨rfl, rfl⟩ := I
      simp
      exact q _ _ (Pre.app.tr p1) (p1.get (by simp [keptB]))
  | succ d ih =>
    intro o n ad m Q hD ho hn ho9 hn9 had hB q
    unfold F_kept_below
    simp -implicitDefEqProofs [S_kept_below]
    refine w_kept_labels ho ho hn ho9 ho9 hn9 fun m' p1 p2 => ?_
    simp -implicitDefEqProofs at p2
    simp -implicitDefEqProofs [p2]
    have g0 : m'[m.length]? = some (.lst [.tup ad]) := p1.get (by simp)
    let f : SV → List SV := fun l => keptB d (innR (bO o l).inn) (innR (bO n l).inn) (ad ++ [l])
    have hBl : 1 + ((keptL o o n).flatMap f).length ≤ 900 := by
      have : keptB (d + 1) o n ad = .tup ad :: (keptL o o n).flatMap f := rfl
      rw [this] at hB
      simp at hB
      simp only [List.length_flatMap]
      omega
    refine wp_forL (fun i e m2 => Fr [m.length] m' m2 ∧ m2[m.length]? = some (.lst (.tup ad :: ((keptL o o n).take i).flatMap f)) ∧ ∃ x y, e = [some (rowV o), some (rowV n), some (.tup ad), some (.ref m.length), x, y])
      (fun i e m2 I => I.1.get p2 (by simp)) ⟨.refl, by simpa using g0, _, _, rfl⟩ (fun i x e m2 hx I => ?_) fun e m2 I => ?_
    · obtain ⟨hF, hg, u, v, rfl⟩ := I
      refine ⟨_, rfl, ?_⟩
      obtain ⟨hm, hk⟩ := mem_keptL (List.mem_of_getElem? hx)
      have hlx : Lab x := labR_mem ho hm
      obtain ⟨a, b, e1, e2, _⟩ := isK_some hk
      obtain ⟨ka, e3, e4⟩ := plc_of_bAt e1
      obtain ⟨kb, e5, e6⟩ := plc_of_bAt e2
      simp -implicitDefEqProofs
      refine w_place_of ho hlx ho9 ?_
      simp -implicitDefEqProofs [e3, oI, rowV, rowV_get e4, cellV]
      simp -implicitDefEqProofs [boxV, q_isLst hg]
      refine w_place_of hn hlx hn9 ?_
      simp -implicitDefEqProofs [e5, oI, rowV, rowV_get e6, cellV]
      simp -implicitDefEqProofs [boxV]
      rw [if_pos (by omega)]
      simp -implicitDefEqProofs
      rw [inV_row, inV_row]
      have hfx : f x = keptB d (innR a.inn) (innR b.inn) (ad ++ [x]) := by simp only [f, bO_of e1, bO_of e2]
      have hfl := flat_len f hx
      have la := innR_len a.inn
      have lb := innR_len b.inn
      refine ih (innR a.inn) (innR b.inn) (ad ++ [x]) m2 _ (hD (x, a) (List.mem_of_getElem? e4)) (labR_inn _) (labR_inn _) (by omega) (by omega) (by simp; omega) (by rw [← hfx]; omega) fun m3 j p3 g3 => ?_
      rw [← hfx] at g3
      rw [q_extL (p3.get hg) g3 (by simp only [List.length_cons]; omega)]
      simp -implicitDefEqProofs
      refine ⟨(hF.tr (.of_pre p3)).tr (.set (by simp)), ?_⟩
      rw [set_get (p3.get hg), flat_take f hx]
    · obtain ⟨hF, hg, u, v, rfl⟩ := I
      simp -implicitDefEqProofs
      refine q m2 _ ?_ (by rw [hg, List.take_of_length_le (Nat.le_refl _)]; rfl)
      exact Fr.pre (Fr.new ((Fr.of_pre (Pre.app.tr p1)).tr hF) (Nat.le_refl _))
theorem w_kept {o n : Row} {m : Mu} {Q : SV → Mu → Prop} (ho : LabR o) (hn : LabR n) (ho9 : o.length ≤ 900) (hn9 : n.length ≤ 900) (hB : (keptB 3 o n []).length ≤ 900) (q : ∀ m' i, Pre m m' → m'[i]? = some (.lst (keptB 3 o n [])) → Q (.ref i) m') : Wp (F_kept [rowV o, rowV n] m) Q := by
  simp -implicitDefEqProofs [F_kept, S_kept]
  exact w_kept_below 3 o n [] m _ (fun p _ => fun p' hp' => by
    have := dp_inn _ p' hp'
    rw [show innR p'.2.inn = [] from this]
    intro p hp
    cases hp) ho hn ho9 hn9 (by simp) hB q

/-! ### deeds -/
@[simp] theorem q_for1 {b : DG} {S : DS} {x : SV} {r : En} {m : Mu} : dFor b S [x] r m = (b x r).bind fun r1 => (S r1 m).bind fun p => match p with
    | (.nx r2, m2) => some (.nx r2, m2)
    | (.ct r2, m2) => some (.nx r2, m2)
    | (.bk r2, m2) => some (.nx r2, m2)
    | (.rt x, m2) => some (.rt x, m2) := (rfl)
@[simp] theorem ints_0 {lo : Int} : intsV lo 0 = [] := rfl
@[simp] theorem ints_1 {lo : Int} : intsV lo 1 = [.int lo] := by simp [intsV]
@[simp] theorem rOk_0 : rOk 0 := rOk_nat (n := 0) (by omega)
@[simp] theorem rOk_1 : rOk 1 := rOk_nat (n := 1) (by omega)
@[simp] theorem ne_nil {m : Mu} : fNe (.tup []) (.tup []) m = some (.bl false, m) := by
  rw [q_neP 1 (by simp [pl_tup]) (by simp [pl_tup])]
  simp
def fillD (ad : List SV) (b : Bx) : List Dd := (match b.sets with
  | some n => [.set ad n]
  | none => []) ++ (if b.inn = true then [.put ad 0 lab0 false] else [])
theorem w_fill0 {k i : Nat} {ad : List SV} {t : Bool} {m : Mu} {Q : SV → Mu → Prop} (q : Q .non m) : Wp (F_fill_deeds (k + 1) [.ref i, .tup ad, boxV ⟨t, none, false⟩] m) Q := by
  unfold F_fill_deeds
  simp -implicitDefEqProofs [S_fill_deeds, boxV, setsV, inV]
  exact q
theorem set_same {m : Mu} {i : Nat} {o : MO} (h : m[i]? = some o) : m.set i o = m := by
  apply List.ext_getElem?
  intro j
  rw [List.getElem?_set]
  split
  · rename_i e
    subst e
    rw [if_pos (lt_of_get h), h]
  · rfl
theorem set_set' {m : Mu} {i : Nat} {a b : MO} : (m.set i a).set i b = m.set i b := List.set_set ..
theorem w_fill {k i : Nat} {ad : List SV} {b : Bx} {ds : List SV} {m : Mu} {Q : SV → Mu → Prop} (hg : m[i]? = some (.lst ds)) (hl : ds.length ≤ 900) (had : ad.length ≤ 900) (q : Q .non (m.set i (.lst (ds ++ (fillD ad b).map dV)))) : Wp (F_fill_deeds (k + 2) [.ref i, .tup ad, boxV b] m) Q := by
  have hs : ∀ o, (m.set i o)[i]? = some o := fun o => set_get hg
  have hl0 : ds.length ≤ 1000 := by omega
  have hl1 : ds.length ≤ 999 := by omega
  have had1 : ad.length ≤ 999 := by omega
  unfold F_fill_deeds
  obtain ⟨t, s, inn⟩ := b
  have w0 : ∀ {m} {ad : List SV} {Q : SV → Mu → Prop}, Q .non m → Wp (F_fill_deeds (k + 1) [.ref i, .tup ad, boxV ⟨false, none, false⟩] m) Q := fun q => w_fill0 q
  simp only [boxV, setsV, inV, tagS] at w0
  cases s <;> cases inn
  · simp [fillD] at q
    rw [set_same hg] at q
    simp -implicitDefEqProofs [S_fill_deeds, boxV, setsV, inV]
    exact q
  · simp [fillD] at q
    simp -implicitDefEqProofs [S_fill_deeds, boxV, setsV, inV, isLst, hg, fAppend, lstAt, hl0, had1]
    refine w0 ?_
    simpa [dV, tagS] using q
  · simp [fillD] at q
    simp -implicitDefEqProofs [S_fill_deeds, boxV, setsV, inV, isLst, hg, fAppend, lstAt, hl0]
    simpa [dV] using q
  · simp [fillD] at q
    simp -implicitDefEqProofs [S_fill_deeds, boxV, setsV, inV, isLst, hg, fAppend, lstAt, hl0, hs, hl1, had1]
    refine w0 ?_
    simpa [dV, tagS] using q
end VW

/-! viewwood k93, the plain law: the deeds that change a box, the deeds that put a row in order. -/
namespace VW
open PySem PySem.Spec PyProof.Rows L2
def boxD (ad : List SV) (a b : Bx) : List Dd := match a.sets, b.sets with
  | none, none => []
  | some _, none => [.unset ad]
  | none, some n => [.set ad n]
  | some k, some n => if k = n then [] else [.set ad n]
theorem w_box {i : Nat} {ad : List SV} {a b : Bx} {ds : List SV} {m : Mu} {Q : SV → Mu → Prop} (hg : m[i]? = some (.lst ds)) (hl : ds.length ≤ 900) (q : ∀ m', Fr [i] m m' → m'[i]? = some (.lst (ds ++ (boxD ad a b).map dV)) → Q .non m') : Wp (F_box_deeds [.ref i, .tup ad, boxV a, boxV b] m) Q := by
  have hg' : ∀ g, (m ++ g)[i]? = some (.lst ds) := fun g => Pre.app.get hg
  have hs : ∀ g o, ((m ++ g).set i o)[i]? = some o := fun g o => set_get (hg' g)
  have hl0 : ds.length ≤ 1000 := by omega
  have fin : ∀ g, Q .non ((m ++ g).set i (.lst (ds ++ (boxD ad a b).map dV))) := fun g => q _ (Fr.app.tr (.set (by simp))) (hs g _)
  have fin0 : boxD ad a b = [] → ∀ g, Q .non (m ++ g) := fun e g => q _ .app (by rw [hg', e]; simp)
  obtain ⟨t, s, n⟩ := a
  obtain ⟨t', s', n'⟩ := b
  simp -implicitDefEqProofs [F_box_deeds, S_box_deeds, boxV]
  cases s with
  | none =>
    cases s' with
    | none => simpa -implicitDefEqProofs [setsV, fDict, dForD, dsAt] using fin0 rfl _
    | some k' =>
      have := fin [.dS [], .dS [("ab", .int k')]]
      simp [boxD, dV] at this
      simpa -implicitDefEqProofs [setsV, fDict, dForD, dsAt, fNinD, lookS, isLst, hg', fAppend, lstAt, hl0] using this
  | some k =>
    cases s' with
    | none =>
      have := fin [.dS [("ab", .int k)], .dS []]
      simp [boxD, dV] at this
      simpa -implicitDefEqProofs [setsV, fDict, dForD, dsAt, fNinD, lookS, isLst, hg', fAppend, lstAt, hl0] using this
    | some k' =>
      by_cases e : k = k'
      · subst e
        have := fin0 (by simp [boxD]) [.dS [("ab", .int k)], .dS [("ab", .int k)]]
        simpa -implicitDefEqProofs [setsV, fDict, dForD, dsAt, fNinD, fIxD, lookS, isLst, hg', fAppend, lstAt, hl0] using this
      · have := fin [.dS [("ab", .int k)], .dS [("ab", .int k')]]
        simp [boxD, dV, e] at this
        simpa -implicitDefEqProofs [setsV, fDict, dForD, dsAt, fNinD, fIxD, lookS, isLst, hg', fAppend, lstAt, hl0, e] using this

/-! ### the place behind -/
def pIx (xs : List SV) (x : SV) : Nat := (xs.findIdx? fun y => decide (y = x)).getD 0
theorem pIx_of {xs : List SV} {x : SV} (h : x ∈ xs) : (xs.findIdx? fun y => decide (y = x)) = some (pIx xs x) ∧ xs[pIx xs x]? = some x := by
  cases e : xs.findIdx? fun y => decide (y = x) with
  | none =>
    rw [List.findIdx?_eq_none_iff] at e
    exact absurd (e x h) (by simp)
  | some j =>
    obtain ⟨hj, e1, _⟩ := List.findIdx?_eq_some_iff_getElem.mp e
    have : pIx xs x = j := by simp [pIx, e]
    rw [this]
    exact ⟨rfl, by rw [List.getElem?_eq_getElem hj, of_decide_eq_true e1]⟩
theorem pIx_lt {xs : List SV} {x : SV} (h : x ∈ xs) : pIx xs x < xs.length := (List.getElem?_eq_some_iff.mp (pIx_of h).2).1
def pBh (now : List SV) : Option SV → Nat
  | none => 0
  | some x => pIx now x + 1
def prv (n : Row) : Nat → Option SV
  | 0 => none
  | k + 1 => (n[k]?).map (·.1)
def Labs (xs : List SV) : Prop := ∀ x ∈ xs, Lab x
theorem pls_labs {xs : List SV} (h : Labs xs) : pls 40 xs = true := by
  rw [pls, List.all_eq_true]
  exact fun x hx => pl_labN 40 (h x hx)
theorem w_place_behind {i k : Nat} {n : Row} {now : List SV} {m : Mu} {Q : SV → Mu → Prop} (hg : m[i]? = some (.lst now)) (hL : Labs now) (hk : k ≤ n.length) (hp : ∀ x, prv n k = some x → x ∈ now) (q : Q (.int (pBh now (prv n k))) m) : Wp (F_place_behind [.ref i, rowV n, .int k] m) Q := by
  simp -implicitDefEqProofs [F_place_behind, S_place_behind]
  cases k with
  | zero => simpa [prv, pBh] using q
  | succ k =>
    have hk' : k < n.length := by omega
    have e : n[k]? = some n[k] := List.getElem?_eq_getElem hk'
    have e2 : prv n (k + 1) = some n[k].1 := by simp [prv, e]
    have hm := hp _ e2
    rw [e2] at q
    have e3 : ((k + 1 : Nat) : Int) - 1 = (k : Int) := by omega
    rw [if_neg (by omega)]
    simp -implicitDefEqProofs [q_isLst hg]
    simp -implicitDefEqProofs [rowV, rowV_get e, cellV, fIndex, lstAt, hg, findS_pl (pl_labN 40 (hL _ hm)) (pls_labs hL), (pIx_of hm).1]
    exact q

/-! ### putting in order -/
def insA (xs : List SV) (p : Nat) (x : SV) : List SV := xs.take p ++ x :: xs.drop p
def takeD (ad : List SV) (mine : List SV) (o : Row) : List Dd := ((o.map (·.1)).filter fun l => !decide (l ∈ mine)).map (Dd.take ad)
def ordL (mine stays ad : List SV) : Option SV → Row → List SV → List Dd
  | _, [], _ => []
  | pv, (l, b) :: rest, now =>
    if l ∈ mine then
      if l ∈ stays then ordL mine stays ad (some l) rest now
      else .move ad l (pBh (now.eraseIdx (pIx now l)) pv) :: ordL mine stays ad (some l) rest (insA (now.eraseIdx (pIx now l)) (pBh (now.eraseIdx (pIx now l)) pv) l)
    else .put ad (pBh now pv) l b.tag :: (fillD (ad ++ [l]) b ++ ordL mine stays ad (some l) rest (insA now (pBh now pv) l))
theorem mem_insA {xs : List SV} {p : Nat} {x y : SV} : y ∈ insA xs p x ↔ y = x ∨ y ∈ xs := by
  unfold insA
  conv => rhs; rw [← List.take_append_drop p xs]
  simp only [List.mem_append, List.mem_cons]
  constructor
  · rintro (h | h | h) <;> simp [h]
  · rintro (h | h | h) <;> simp [h]
theorem len_insA {xs : List SV} {p : Nat} {x : SV} : (insA xs p x).length = xs.length + 1 := by
  unfold insA
  rw [List.length_append, List.length_cons, List.length_take, List.length_drop]
  omega
theorem mem_er {xs : List SV} {x y : SV} (hx : x ∈ xs) (hy : y ∈ xs) (e : y ≠ x) : y ∈ xs.eraseIdx (pIx xs x) := by
  rw [List.mem_eraseIdx_iff_getElem?]
  obtain ⟨j, hj, rfl⟩ := List.getElem_of_mem hy
  refine ⟨j, fun z => e ?_, List.getElem?_eq_getElem hj⟩
  have := (pIx_of hx).2
  rw [← z, List.getElem?_eq_getElem hj] at this
  exact Option.some.inj this
end VW

/-! viewwood k93, the plain law: a row put in order. -/
namespace VW
open PySem PySem.Spec PyProof.Rows L2
theorem labs_keptL {r o n : Row} (h : LabR r) : Labs (keptL r o n) := fun x hx => labR_mem h (mem_keptL hx).1
theorem take_snoc {α : Type} {xs : List α} {i : Nat} {x : α} (h : xs[i]? = some x) : xs.take (i + 1) = xs.take i ++ [x] := by
  rw [List.take_add_one, h]
  rfl
theorem drop_cons {α : Type} {xs : List α} {i : Nat} {x : α} (h : xs[i]? = some x) : xs.drop i = x :: xs.drop (i + 1) := by
  have hi := (List.getElem?_eq_some_iff.mp h).1
  rw [List.drop_eq_getElem_cons hi, (List.getElem?_eq_some_iff.mp h).2]
theorem takeD_snoc {ad mine : List SV} {o : Row} {i : Nat} {p : SV × Bx} (h : o[i]? = some p) : takeD ad mine (o.take (i + 1)) = takeD ad mine (o.take i) ++ (if p.1 ∈ mine then [] else [.take ad p.1]) := by
  rw [take_snoc h]
  unfold takeD
  by_cases e : p.1 ∈ mine <;> simp [e]
theorem takeD_le {ad mine : List SV} {o : Row} {i : Nat} : (takeD ad mine (o.take i)).length ≤ (takeD ad mine o).length := by
  unfold takeD
  simp
  exact List.Sublist.length_le (List.Sublist.filter _ (List.take_sublist _ _))
def OI (i : Nat) (ad : List SV) (o n : Row) (st ds : List SV) (m : Mu) (mine : List SV) (m2 : Mu) (u : Option SV) (k : Nat) (e : En) (m' : Mu) : Prop := ∃ now dn, Fr [i, m.length] (m2 ++ [MO.lst mine]) m' ∧ m'[i]? = some (.lst (ds ++ (takeD ad mine o ++ dn).map dV)) ∧ m'[m.length]? = some (.lst now) ∧
  dn ++ ordL mine st ad (prv n k) (n.drop k) now = ordL mine st ad none n mine ∧ Labs now ∧ now.length ≤ mine.length + k ∧ (∀ x ∈ mine, x ∈ now) ∧ (∀ x, prv n k = some x → x ∈ now) ∧
  ∃ x8 x9 x10 x11, e = [some (.ref i), some (.tup ad), some (.tup (o.map cellV)), some (rowV n), some (.tup st), some (.ref m.length), u, some (.ref m2.length), x8, x9, x10, x11]
theorem w_order {i : Nat} {ad : List SV} {o n : Row} {st ds : List SV} {m : Mu} {Q : SV → Mu → Prop} (hg : m[i]? = some (.lst ds)) (ho : LabR o) (hn : LabR n) (ho9 : o.length ≤ 400) (hn9 : n.length ≤ 400) (hst : Labs st) (had : ad.length ≤ 800) (hnd : (n.map (·.1)).Nodup)
    (hlen : ds.length + (takeD ad (keptL o o n) o).length + (ordL (keptL o o n) st ad none n (keptL o o n)).length ≤ 900)
    (q : ∀ m', Fr [i] m m' → m'[i]? = some (.lst (ds ++ (takeD ad (keptL o o n) o ++ ordL (keptL o o n) st ad none n (keptL o o n)).map dV)) → Q .non m') : Wp (F_order_deeds [.ref i, .tup ad, rowV o, rowV n, .tup st] m) Q := by
  simp -implicitDefEqProofs [F_order_deeds, S_order_deeds]
  refine w_kept_labels ho ho hn (by omega) (by omega) (by omega) fun m1 p1 g1 => ?_
  have hLm : Labs (keptL o o n) := labs_keptL ho
  have hml : (keptL o o n).length ≤ 400 := by
    have : (keptL o o n).length ≤ (o.map (·.1)).length := List.length_filter_le _ _
    simp at this
    omega
  generalize keptL o o n = mine at *
  have hin : i ≠ m.length := by have := lt_of_get hg; omega
  rw [show rowV o = .tup (o.map cellV) from rfl]
  simp -implicitDefEqProofs
  refine wp_for (fun k e m' => Fr [i] m1 m' ∧ m'[i]? = some (.lst (ds ++ (takeD ad mine (o.take k)).map dV)) ∧ ∃ x, e = [some (.ref i), some (.tup ad), some (.tup (o.map cellV)), some (rowV n), some (.tup st), some (.ref m.length), x, none, none, none, none, none])
    ⟨.refl, by simpa [takeD] using p1.get hg, _, rfl⟩ (fun k x e m' hx I => ?_) fun e m2 I => ?_
  · obtain ⟨hF, hi, u, rfl⟩ := I
    refine ⟨_, rfl, ?_⟩
    rw [List.getElem?_map] at hx
    obtain ⟨p, hp, rfl⟩ := Option.map_eq_some_iff.mp hx
    have hlp : Lab p.1 := ho p (List.mem_of_getElem? hp)
    have hle := takeD_le (ad := ad) (mine := mine) (o := o) (i := k)
    have g2 := hF.get g1 (by simpa using fun e => hin e.symm)
    simp -implicitDefEqProofs [cellV, fNinS_pl (x := p.1) (y := .ref m.length) (ys := mine) (m := m') (by simp [itemsM, g2]) (pl_labN 40 hlp) (pls_labs hLm)]
    rw [takeD_snoc hp]
    by_cases e : p.1 ∈ mine
    · simp -implicitDefEqProofs [e]
      exact ⟨hF, hi⟩
    · simp -implicitDefEqProofs [e, q_isLst hi]
      rw [q_app1 hi (by simp; omega)]
      simp -implicitDefEqProofs
      refine ⟨hF.tr (.set (by simp)), ?_⟩
      rw [set_get hi]
      simp [dV]
  · obtain ⟨hF, hi, u, rfl⟩ := I
    rw [List.length_map, List.take_of_length_le (Nat.le_refl _)] at hi
    have g2 := hF.get g1 (by simpa using fun e => hin e.symm)
    have hlm2 : m.length < m2.length := lt_of_get g2
    have him2 : i < m2.length := lt_of_get hi
    simp -implicitDefEqProofs [fList, itemsM, g2, rOk_nat (n := n.length) (by omega)]
    refine wp_for (OI i ad o n st ds m mine m2 u)
      ⟨mine, [], .refl, by simpa using (Pre.app (g := [MO.lst mine])).get hi, (Pre.app (g := [MO.lst mine])).get g2, rfl, hLm, by omega, fun _ h => h, fun x h => (nomatch h), _, _, _, _, rfl⟩ (fun k x e m' hx I => ?_) fun e m' I => ?_
    · obtain ⟨now, dn, hF2, hi2, hn2, hd, hL, hnl, hmi, hpv, x8, x9, x10, x11, rfl⟩ := I
      have hlt : k < n.length := by
        have := (List.getElem?_eq_some_iff.mp hx).1
        rwa [intsV_len] at this
      rw [intsV_get hlt] at hx
      cases hx
      have ek : n[k]? = some n[k] := List.getElem?_eq_getElem hlt
      obtain ⟨⟨l, b⟩, hlb⟩ : ∃ p, p = n[k] := ⟨_, rfl⟩
      rw [← hlb] at ek
      have hl : Lab l := hn _ (List.mem_of_getElem? ek)
      rw [drop_cons ek] at hd
      have g3 : m'[m2.length]? = some (.lst mine) := hF2.get (by simp) (by simp; omega)
      have hpn : prv n (k + 1) = some l := by simp [prv, ek]
      refine ⟨_, rfl, ?_⟩
      have e1 : rowV n = .tup (n.map cellV) := rfl
      simp -implicitDefEqProofs
      rw [e1]
      simp -implicitDefEqProofs [rowV_get ek, cellV]
      rw [← e1]
      rw [fNinS_pl (x := l) (y := .ref m2.length) (ys := mine) (m := m') (by simp [itemsM, g3]) (pl_labN 40 hl) (pls_labs hLm)]
      simp -implicitDefEqProofs
      have hlen2 := congrArg List.length hd
      by_cases hm : l ∈ mine
      · simp -implicitDefEqProofs [hm]
        rw [fNinS_pl (x := l) (y := .tup st) (ys := st) (m := m') rfl (pl_labN 40 hl) (pls_labs hst)]
        simp -implicitDefEqProofs
        simp only [ordL, hm, if_true] at hd hlen2
        by_cases hs : l ∈ st
        · simp -implicitDefEqProofs [hs]
          rw [if_pos hs] at hd
          exact ⟨now, dn, hF2, hi2, hn2, by rw [hpn]; exact hd, hL, by omega, hmi, fun x h => by rw [hpn] at h; cases h; exact hmi _ hm, _, _, _, _, rfl⟩
        · rw [if_neg hs] at hd hlen2
          rw [List.length_append, List.length_cons] at hlen2
          have hne : ∀ x, prv n k = some x → x ≠ l := fun x h z => by
            subst z
            cases k with
            | zero => cases h
            | succ k =>
              have e5 : n[k]? = some n[k] := List.getElem?_eq_getElem (by omega)
              simp [prv, e5] at h
              have a1 : (n.map (·.1))[k]? = some n[k].1 := by simp [e5]
              have a2 : (n.map (·.1))[k + 1]? = some n[k].1 := by rw [List.getElem?_map, ek, h]; rfl
              obtain ⟨b1, c1⟩ := List.getElem?_eq_some_iff.mp a1
              obtain ⟨b2, c2⟩ := List.getElem?_eq_some_iff.mp a2
              exact List.pairwise_iff_getElem.mp hnd k (k + 1) b1 b2 (by omega) (c1.trans c2.symm)
          have hln : l ∈ now := hmi _ hm
          have hjn := pIx_lt hln
          have hL2 : Labs (now.eraseIdx (pIx now l)) := fun x hx => hL x (List.mem_of_mem_eraseIdx hx)
          simp -implicitDefEqProofs [hs, q_isLst hn2, fRemove, lstAt, hn2, findS_pl (pl_labN 40 hl) (pls_labs hL), (pIx_of hln).1]
          refine w_place_behind (now := now.eraseIdx (pIx now l)) (set_get hn2) hL2 (Nat.le_of_lt hlt) (fun x h => mem_er hln (hpv x h) (hne x h)) ?_
          have hi3 : (m'.set m.length (.lst (now.eraseIdx (pIx now l))))[i]? = some (.lst (ds ++ (takeD ad mine o ++ dn).map dV)) := by
            rw [List.getElem?_set_ne (fun z => hin z.symm)]
            exact hi2
          simp -implicitDefEqProofs only [q_isLst hi3]
          simp -implicitDefEqProofs
          rw [q_app1 hi3 (by simp; omega)]
          have hn3 : ∀ o, ((m'.set m.length (.lst (now.eraseIdx (pIx now l)))).set i o)[m.length]? = some (.lst (now.eraseIdx (pIx now l))) := fun o => by
            rw [List.getElem?_set_ne hin]
            exact set_get hn2
          have hbl : pBh (now.eraseIdx (pIx now l)) (prv n k) ≤ 1000 := by
            cases hp : prv n k with
            | none => simp [pBh]
            | some x =>
              have := pIx_lt (mem_er hln (hpv x hp) (hne x hp))
              rw [List.length_eraseIdx, if_pos hjn] at this
              simp only [pBh]
              omega
          simp -implicitDefEqProofs [q_isLst (hn3 _), fInsert, lstAt, hn3]
          rw [if_pos (by rw [List.length_eraseIdx, if_pos hjn]; omega)]
          simp -implicitDefEqProofs
          refine ⟨insA (now.eraseIdx (pIx now l)) (pBh (now.eraseIdx (pIx now l)) (prv n k)) l, dn ++ [.move ad l (pBh (now.eraseIdx (pIx now l)) (prv n k))], ?_, ?_, ?_, ?_, ?_, ?_, ?_, ?_, _, _, _, _, rfl⟩
          · exact ((hF2.tr (.set (by simp))).tr (.set (by simp))).tr (.set (by simp))
          · rw [List.getElem?_set_ne (fun z => hin z.symm), set_get hi3]
            simp [dV]
          · rw [set_get (hn3 _)]
            simp [insA]
          · rw [hpn, ← hd]
            simp
          · intro x hx
            rcases mem_insA.mp hx with rfl | hx
            · exact hl
            · exact hL2 x hx
          · rw [len_insA, List.length_eraseIdx, if_pos hjn]
            omega
          · intro x hx
            rw [mem_insA]
            by_cases z : x = l
            · exact .inl z
            · exact .inr (mem_er hln (hmi x hx) z)
          · intro x h
            rw [hpn] at h
            cases h
            exact mem_insA.mpr (.inl rfl)
      · simp -implicitDefEqProofs [hm]
        simp only [ordL, hm, if_false] at hd hlen2
        rw [List.length_append, List.length_cons, List.length_append] at hlen2
        refine w_place_behind hn2 hL (Nat.le_of_lt hlt) hpv ?_
        have hbl : pBh now (prv n k) ≤ 1000 := by
          cases hp : prv n k with
          | none => simp [pBh]
          | some x =>
            have := pIx_lt (hpv x hp)
            simp only [pBh]
            omega
        simp -implicitDefEqProofs [q_isLst hi2]
        simp -implicitDefEqProofs [boxV]
        rw [q_app1 hi2 (by simp; omega)]
        simp -implicitDefEqProofs
        rw [if_pos (by omega)]
        simp -implicitDefEqProofs
        have eb : SV.tup [.str (tagS b.tag), setsV b.sets, .tup [], inV b.inn] = boxV b := rfl
        rw [eb]
        refine w_fill (k := 2) (set_get hi2) (by simp; omega) (by simp; omega) ?_
        rw [set_set']
        have hn3 : ∀ o, (m'.set i o)[m.length]? = some (.lst now) := fun o => by
          rw [List.getElem?_set_ne hin]
          exact hn2
        simp -implicitDefEqProofs [q_isLst (hn3 _), fInsert, lstAt, hn3]
        rw [if_pos (by omega)]
        simp -implicitDefEqProofs
        refine ⟨insA now (pBh now (prv n k)) l, dn ++ .put ad (pBh now (prv n k)) l b.tag :: fillD (ad ++ [l]) b, ?_, ?_, ?_, ?_, ?_, ?_, ?_, ?_, _, _, _, _, rfl⟩
        · exact (hF2.tr (.set (by simp))).tr (.set (by simp))
        · rw [List.getElem?_set_ne (fun z => hin z.symm), set_get hi2]
          simp [dV]
        · rw [set_get (hn3 _)]
          simp [insA]
        · rw [hpn, ← hd]
          simp
        · intro x hx
          rcases mem_insA.mp hx with rfl | hx
          · exact hl
          · exact hL x hx
        · rw [len_insA]
          omega
        · intro x hx
          exact mem_insA.mpr (.inr (hmi x hx))
        · intro x h
          rw [hpn] at h
          cases h
          exact mem_insA.mpr (.inl rfl)
    · obtain ⟨now, dn, hF2, hi2, hn2, hd, hL, hnl, hmi, hpv, x8, x9, x10, x11, rfl⟩ := I
      rw [intsV_len, List.drop_of_length_le (Nat.le_refl _)] at hd
      simp only [ordL, List.append_nil] at hd
      simp -implicitDefEqProofs
      refine q m' ?_ (by rw [hi2, hd])
      have f1 : Fr [i] m m2 := (Fr.of_pre p1).tr hF
      have f2 : Fr [i, m.length] m m' := ((Fr.of_pre p1).tr (hF.mono (by simp))).tr (Fr.app.tr hF2)
      exact ⟨f2.1, fun j h1 h2 => f2.2 j h1 (by simp at h2 ⊢; exact ⟨h2, by omega⟩)⟩
end VW

/-! viewwood k93, the plain law: places, piles, stays. -/
namespace VW
open PySem PySem.Spec PyProof.Rows L2
theorem key_lab {x : SV} (h : Lab x) : isKey x = true := by
  have := pl_labN 8 h
  obtain ⟨xs, rfl, _⟩ := h
  simpa [isKey] using this
theorem pre_set {m m' : Mu} {i : Nat} {o : MO} (h : Pre m m') (hi : m.length ≤ i) : Pre m (m'.set i o) := by
  obtain ⟨g, rfl⟩ := h
  rw [List.set_append_right _ _ hi]
  exact ⟨_, rfl⟩
/-- the places of a row, as a dict -/
def plK (xs : List SV) : List (SV × SV) := xs.mapIdx fun i x => (x, .int i)
theorem look_app (a b : List (SV × SV)) (x : SV) : look (a ++ b) x = match look a x with
  | some y => some y
  | none => look b x := by
  unfold look
  rw [List.find?_append]
  cases List.find? (fun p => decide (p.1 = x)) a <;> simp
theorem look_none {a : List (SV × SV)} {x : SV} : look a x = none ↔ x ∉ a.map (·.1) := by
  unfold look
  rw [Option.map_eq_none_iff, List.find?_eq_none]
  constructor
  · intro h hm
    obtain ⟨p, hp, rfl⟩ := List.mem_map.mp hm
    exact h p hp (by simp)
  · intro h p hp e
    exact h (List.mem_map.mpr ⟨p, hp, of_decide_eq_true e⟩)
theorem plK_keys (xs : List SV) : (plK xs).map (·.1) = xs := by
  apply List.ext_getElem?
  intro i
  simp [plK]
  cases xs[i]? <;> rfl
theorem plK_snoc (xs : List SV) (x : SV) : plK (xs ++ [x]) = plK xs ++ [(x, .int xs.length)] := by
  unfold plK
  rw [List.mapIdx_append]
  simp
theorem look_plK {xs : List SV} {x : SV} (h : x ∈ xs) : look (plK xs) x = some (.int (pIx xs x)) := by
  have gen : ∀ (ys : List SV) (n : Nat), look (ys.mapIdx fun i y => (y, SV.int ((i + n : Nat) : Int))) x = (ys.findIdx? fun y => decide (y = x)).map fun i => SV.int ((i + n : Nat) : Int) := by
    intro ys
    induction ys with
    | nil => intro n; rfl
    | cons y ys ih =>
      intro n
      rw [List.mapIdx_cons, look_cons, List.findIdx?_cons]
      by_cases e : y = x
      · simp [e]
      · simp only [e, if_false, decide_false, Bool.false_eq_true]
        have := ih (n + 1)
        have e2 : (fun i y => ((y, SV.int ((i + 1 + n : Nat) : Int)) : SV × SV)) = fun i y => (y, SV.int ((i + (n + 1) : Nat) : Int)) := by
          funext i y
          rw [show i + 1 + n = i + (n + 1) by omega]
        rw [e2, this]
        cases List.findIdx? (fun y => decide (y = x)) ys with
        | none => rfl
        | some j =>
          simp
          omega
  have := gen xs 0
  rw [(pIx_of h).1] at this
  simpa [plK] using this
theorem w_places_in {xs : List SV} {m : Mu} {Q : SV → Mu → Prop} (hL : Labs xs) (hn : xs.Nodup) (hl : xs.length ≤ 900) (q : ∀ m', Pre m m' → m'[m.length]? = some (.dN (plK xs)) → Q (.ref m.length) m') : Wp (F_places_in [.tup xs] m) Q := by
  simp -implicitDefEqProofs [F_places_in, S_places_in, rOk_nat (n := xs.length) (by omega)]
  refine wp_for (fun k e m' => Pre m m' ∧ m'[m.length]? = some (.dN (plK (xs.take k))) ∧ ∃ x, e = [some (.tup xs), some (.ref m.length), x]) ⟨.app, by simp [plK], _, rfl⟩ (fun k x e m' hx I => ?_) fun e m' I => ?_
  · obtain ⟨p, g, u, rfl⟩ := I
    have hlt : k < xs.length := by
      have := (List.getElem?_eq_some_iff.mp hx).1
      rwa [intsV_len] at this
    rw [intsV_get hlt] at hx
    cases hx
    have ek : xs[k]? = some xs[k] := List.getElem?_eq_getElem hlt
    refine ⟨_, rfl, ?_⟩
    have hkey := key_lab (hL _ (List.getElem_mem hlt))
    have hno : look (plK (xs.take k)) xs[k] = none := by
      rw [look_none, plK_keys]
      intro hm
      obtain ⟨j, hj, e⟩ := List.getElem_of_mem hm
      rw [List.getElem_take] at e
      rw [List.length_take] at hj
      exact List.pairwise_iff_getElem.mp hn j k (by omega) hlt (by omega) e
    have hlen : (plK (xs.take k)).length ≤ 1000 := by
      rw [plK, List.length_mapIdx, List.length_take]
      omega
    have hput : putN (plK (xs.take k)) xs[k] (.int k) = plK (xs.take (k + 1)) := by
      rw [take_snoc ek, plK_snoc, putN, hno, List.length_take, Nat.min_eq_left (by omega)]
      simp
    simp -implicitDefEqProofs [atI_nat ek, fPutN, dnAt, g, hkey, hlen, hput]
    exact ⟨pre_set p (Nat.le_refl _), set_get g⟩
  · obtain ⟨p, g, u, rfl⟩ := I
    rw [intsV_len, List.take_of_length_le (Nat.le_refl _)] at g
    simp -implicitDefEqProofs
    exact q m' p g
end VW

/-! viewwood k93, the plain law: piles and stays, of numbered labels. -/
namespace VW
open PySem PySem.Spec PyProof.Rows L2

/-! ### of numbers -/
def posN (new : List Nat) (x : Nat) : Nat := (new.findIdx? fun y => decide (y = x)).getD 0
def lastN (p : List Nat) : Nat := p.getLast?.getD 0
def pK (new : List Nat) (x : Nat) : List (List Nat) → Nat
  | [] => 0
  | p :: ps => if posN new (lastN p) < posN new x then pK new x ps + 1 else 0
abbrev PS0 := List (List Nat) × List (Nat × Option Nat)
def stepP (new : List Nat) (s : PS0) (x : Nat) : PS0 :=
  (if pK new x s.1 = s.1.length then s.1 ++ [[x]] else s.1.set (pK new x s.1) ((s.1[pK new x s.1]?).getD [] ++ [x]), s.2 ++ [(x, if pK new x s.1 = 0 then none else (s.1[pK new x s.1 - 1]?).map lastN)])
def pilesN (new old : List Nat) : PS0 := old.foldl (stepP new) ([], [])
def lookA (ah : List (Nat × Option Nat)) (x : Nat) : Option (Option Nat) := (ah.find? fun p => decide (p.1 = x)).map (·.2)
def chainN (ah : List (Nat × Option Nat)) : Nat → Option Nat → Option (List Nat)
  | _, none => some []
  | 0, some _ => none
  | n + 1, some x => (lookA ah x).bind fun o => (chainN ah n o).map (x :: ·)
def rowN (old new : List Nat) : Option (List Nat × List (List Nat)) := (chainN (pilesN new old).2 29 ((pilesN new old).1.getLast?.map lastN)).map fun st => (st.reverse, (pilesN new old).1)
theorem pilesN_snoc (new xs : List Nat) (x : Nat) : pilesN new (xs ++ [x]) = stepP new (pilesN new xs) x := by
  unfold pilesN
  rw [List.foldl_append]
  rfl
theorem pK_le (new : List Nat) (x : Nat) : ∀ ps : List (List Nat), pK new x ps ≤ ps.length
  | [] => Nat.le_refl _
  | p :: ps => by
    unfold pK
    have := pK_le new x ps
    split <;> simp <;> omega
structure PF (xs : List Nat) (s : PS0) : Prop where
  len : s.1.length ≤ xs.length
  mem : ∀ p ∈ s.1, p ≠ [] ∧ p.length ≤ xs.length ∧ ∀ y ∈ p, y ∈ xs
  keys : s.2.map (·.1) = xs
  vals : ∀ p ∈ s.2, ∀ y, p.2 = some y → y ∈ xs
theorem lastN_mem {p : List Nat} (h : p ≠ []) : lastN p ∈ p := by
  unfold lastN
  rw [List.getLast?_eq_some_getLast h]
  exact List.getLast_mem h
theorem pf_step {new xs : List Nat} {s : PS0} {x : Nat} (h : PF xs s) : PF (xs ++ [x]) (stepP new s x) := by
  have hk := pK_le new x s.1
  constructor
  · unfold stepP
    dsimp only
    split
    · simp
      exact h.len
    · simp
      have := h.len
      omega
  · intro p hp
    unfold stepP at hp
    dsimp only at hp
    split at hp
    · rcases List.mem_append.mp hp with hp | hp
      · obtain ⟨a, b, c⟩ := h.mem p hp
        exact ⟨a, by simp; omega, fun y hy => List.mem_append.mpr (.inl (c y hy))⟩
      · simp at hp
        subst hp
        simp
    · rename_i hne
      rcases List.mem_or_eq_of_mem_set hp with hp | hp
      · obtain ⟨a, b, c⟩ := h.mem p hp
        exact ⟨a, by simp; omega, fun y hy => List.mem_append.mpr (.inl (c y hy))⟩
      · have hlt : pK new x s.1 < s.1.length := by omega
        rw [List.getElem?_eq_getElem hlt] at hp
        obtain ⟨a, b, c⟩ := h.mem _ (List.getElem_mem hlt)
        subst hp
        refine ⟨by simp, by simp; exact b, fun y hy => ?_⟩
        rcases List.mem_append.mp hy with hy | hy
        · exact List.mem_append.mpr (.inl (c y hy))
        · exact List.mem_append.mpr (.inr hy)
  · unfold stepP
    simp [h.keys]
  · intro p hp y hy
    unfold stepP at hp
    dsimp only at hp
    rcases List.mem_append.mp hp with hp | hp
    · exact List.mem_append.mpr (.inl (h.vals p hp y hy))
    · simp at hp
      subst hp
      dsimp only at hy
      split at hy
      · cases hy
      · obtain ⟨q, hq, rfl⟩ := Option.map_eq_some_iff.mp hy
        obtain ⟨a, b, c⟩ := h.mem q (List.mem_of_getElem? hq)
        exact List.mem_append.mpr (.inl (c _ (lastN_mem a)))
theorem pf_all (new xs : List Nat) : ∀ n : Nat, n ≤ xs.length → PF (xs.take n) (pilesN new (xs.take n)) := by
  intro n
  induction n with
  | zero => exact fun _ => ⟨Nat.le_refl _, fun p hp => (by cases hp), rfl, fun p hp => (by cases hp)⟩
  | succ n ih =>
    intro hn
    rw [take_snoc (List.getElem?_eq_getElem hn), pilesN_snoc]
    exact pf_step (ih (by omega))

/-! ### of labels -/
def oF (f : Nat → SV) : Option Nat → SV
  | none => .non
  | some x => f x
structure NumL (f : Nat → SV) (N : Nat) : Prop where
  inj : ∀ x y, x < N → y < N → f x = f y → x = y
  lab : ∀ x, x < N → Lab (f x)
theorem NumL.labs {f : Nat → SV} {N : Nat} (h : NumL f N) {xs : List Nat} (hx : ∀ x ∈ xs, x < N) : Labs (xs.map f) := fun y hy => by
  obtain ⟨x, h1, rfl⟩ := List.mem_map.mp hy
  exact h.lab x (hx x h1)
theorem NumL.mem {f : Nat → SV} {N : Nat} (h : NumL f N) {xs : List Nat} (hx : ∀ x ∈ xs, x < N) {x : Nat} (hN : x < N) : f x ∈ xs.map f ↔ x ∈ xs := by
  constructor
  · intro hm
    obtain ⟨y, h1, h2⟩ := List.mem_map.mp hm
    rwa [← h.inj y x (hx y h1) hN h2]
  · exact fun hm => List.mem_map.mpr ⟨x, hm, rfl⟩
theorem NumL.nodup {f : Nat → SV} {N : Nat} (h : NumL f N) {xs : List Nat} (hx : ∀ x ∈ xs, x < N) (hn : xs.Nodup) : (xs.map f).Nodup := by
  rw [List.Nodup, List.pairwise_map]
  exact List.Pairwise.imp_of_mem (fun ha hb hab e => hab (h.inj _ _ (hx _ ha) (hx _ hb) e)) hn
theorem NumL.pos {f : Nat → SV} {N : Nat} (h : NumL f N) {xs : List Nat} (hx : ∀ x ∈ xs, x < N) {x : Nat} (hN : x < N) : pIx (xs.map f) (f x) = posN xs x := by
  unfold pIx posN
  rw [List.findIdx?_map]
  congr 1
  induction xs with
  | nil => rfl
  | cons y ys ih =>
    have ih := ih fun x hx' => hx x (by simp [hx'])
    rw [List.findIdx?_cons, List.findIdx?_cons, ih]
    have e : ((fun y => decide (y = f x)) ∘ f) y = decide (y = x) := by
      have : f y = f x ↔ y = x := ⟨h.inj y x (hx y (by simp)) hN, fun e => by rw [e]⟩
      simp [this]
    rw [e]
theorem q_ixL {i : Nat} {xs : List SV} {k : Int} {m : Mu} (h : m[i]? = some (.lst xs)) : fIx (.ref i) (.int k) m = (atI xs k).map fun z => (z, m) := by
  simp [fIx, itemsM, h]
theorem atI_last {α : Type} {xs : List α} {x : α} (h : xs.getLast? = some x) : atI xs (-1) = some x := by
  have hne : xs ≠ [] := fun e => by subst e; cases h
  have hl : 0 < xs.length := List.length_pos_iff.mpr hne
  unfold atI ixN
  rw [if_neg (by omega), if_pos (by omega)]
  have : ((-1 : Int) + (xs.length : Int)).toNat = xs.length - 1 := by omega
  rw [this]
  rw [List.getLast?_eq_getElem?] at h
  exact h
theorem last_map {f : Nat → SV} {p : List Nat} (h : p ≠ []) : (p.map f).getLast? = some (f (lastN p)) := by
  unfold lastN
  rw [List.getLast?_map, List.getLast?_eq_some_getLast h]
  rfl
theorem wp_while {T : DT} {S : DS} {Q : Out → Mu → Prop} (I : Nat → En → Mu → Prop)
    (h0 : ∀ r m, I 0 r m → Wp (T r m) fun t m1 => t = false ∧ Q (.nx r) m1)
    (step : ∀ n r m, I (n + 1) r m → Wp (T r m) fun t m1 => if t = true then Wp (S r m1) (fun o m2 => match o with
      | .nx r' => I n r' m2
      | _ => False) else Q (.nx r) m1) : ∀ (fuel n : Nat) (r : En) (m : Mu), n < fuel → I n r m → Wp (dWhile T S fuel r m) Q := by
  intro fuel
  induction fuel with
  | zero => intro n r m h _; omega
  | succ fuel ih =>
    intro n r m hn hI
    unfold dWhile
    rw [wp_bind]
    cases n with
    | zero =>
      refine wp_mono (h0 r m hI) fun t m1 ⟨e, q⟩ => ?_
      subst e
      simpa using q
    | succ n =>
      refine wp_mono (step n r m hI) fun t m1 h => ?_
      cases t with
      | false => simpa using h
      | true =>
        simp only [if_true] at h
        obtain ⟨o, m2, e, q⟩ := h
        simp only [if_true, e, Option.bind_some]
        cases o with
        | nx r' => exact ih n r' m2 (by omega) q
        | rt x => exact q.elim
        | bk x => exact q.elim
        | ct x => exact q.elim
structure PI (f : Nat → SV) (b : Nat) (s : PS0) (refs : List Nat) (m : Mu) : Prop where
  lp : m[b]? = some (.lst (refs.map SV.ref))
  la : m[b + 1]? = some (.dN (s.2.map fun p => (f p.1, oF f p.2)))
  len : refs.length = s.1.length
  at_ : ∀ (j r : Nat) (p : List Nat), refs[j]? = some r → s.1[j]? = some p → m[r]? = some (.lst (p.map f))
  nd : refs.Nodup
  ge : ∀ r ∈ refs, b + 2 ≤ r
theorem PI.pile {f : Nat → SV} {b : Nat} {s : PS0} {refs : List Nat} {m : Mu} (h : PI f b s refs m) {j : Nat} {p : List Nat} (hp : s.1[j]? = some p) : ∃ r, refs[j]? = some r ∧ m[r]? = some (.lst (p.map f)) := by
  have hj : j < refs.length := by
    rw [h.len]
    exact (List.getElem?_eq_some_iff.mp hp).1
  exact ⟨refs[j], List.getElem?_eq_getElem hj, h.at_ j _ p (List.getElem?_eq_getElem hj) hp⟩
theorem look_ah {f : Nat → SV} {N : Nat} (h : NumL f N) {ah : List (Nat × Option Nat)} (hk : ∀ p ∈ ah, p.1 < N) {x : Nat} (hx : x < N) : look (ah.map fun p => (f p.1, oF f p.2)) (f x) = (lookA ah x).map (oF f) := by
  induction ah with
  | nil => rfl
  | cons p ah ih =>
    have ih := ih fun q hq => hk q (by simp [hq])
    rw [List.map_cons, look_cons, ih]
    unfold lookA
    rw [List.find?_cons]
    by_cases e : p.1 = x
    · simp [e]
    · have : f p.1 ≠ f x := fun z => e (h.inj _ _ (hk p (by simp)) hx z)
      simp [e, this]
end VW

/-! viewwood k93, the plain law: the piles of a row. -/
namespace VW
open PySem PySem.Spec PyProof.Rows L2
theorem lookA_none {ah : List (Nat × Option Nat)} {x : Nat} (h : x ∉ ah.map (·.1)) : lookA ah x = none := by
  unfold lookA
  rw [Option.map_eq_none_iff, List.find?_eq_none]
  intro p hp e
  exact h (List.mem_map.mpr ⟨p, hp, of_decide_eq_true e⟩)
theorem pK_step {new : List Nat} {x k : Nat} {ps : List (List Nat)} (hk : pK new x ps = k + pK new x (ps.drop k)) {p : List Nat} (hp : ps[k]? = some p) (h : posN new (lastN p) < posN new x) : pK new x ps = (k + 1) + pK new x (ps.drop (k + 1)) := by
  rw [hk, drop_cons hp]
  show k + (if posN new (lastN p) < posN new x then pK new x (ps.drop (k + 1)) + 1 else 0) = _
  rw [if_pos h]
  omega
theorem pK_stop {new : List Nat} {x k : Nat} {ps : List (List Nat)} (hk : pK new x ps = k + pK new x (ps.drop k)) {p : List Nat} (hp : ps[k]? = some p) (h : ¬ posN new (lastN p) < posN new x) : pK new x ps = k := by
  rw [hk, drop_cons hp]
  show k + (if posN new (lastN p) < posN new x then pK new x (ps.drop (k + 1)) + 1 else 0) = _
  rw [if_neg h]
  omega
abbrev kvA (f : Nat → SV) (ah : List (Nat × Option Nat)) : List (SV × SV) := ah.map fun p => (f p.1, oF f p.2)
def S_pt : DS := (dSeq (dPut fPutN (dVar 4) (dVar 5) (dC .non))
    (dSeq (dIf (dTr (dBin fGt (dVar 6) (dC (.int 0)))) (dPut fPutN (dVar 4) (dVar 5) (dBin fIx (dBin fIx (dVar 3) (dBin fSub (dVar 6) (dC (.int 1)))) (dUn fNeg (dC (.int 1))))) dNext)
    (dExp (dMeth fAppend (dBin fIx (dVar 3) (dVar 6)) (dCons (dVar 5) dNil)))))
theorem PI.setA {f : Nat → SV} {b : Nat} {ps : List (List Nat)} {ah ah' : List (Nat × Option Nat)} {refs : List Nat} {m : Mu} (h : PI f b (ps, ah) refs m) : PI f b (ps, ah') refs (m.set (b + 1) (.dN (kvA f ah'))) := by
  refine ⟨?_, set_get h.la, h.len, fun j r p h1 h2 => ?_, h.nd, h.ge⟩
  · rw [List.getElem?_set_ne (by omega)]
    exact h.lp
  · have := h.ge r (List.mem_of_getElem? h1)
    rw [List.getElem?_set_ne (by omega)]
    exact h.at_ j r p h1 h2
theorem PI.grow {f : Nat → SV} {b : Nat} {ps : List (List Nat)} {ah : List (Nat × Option Nat)} {refs : List Nat} {m : Mu} (h : PI f b (ps, ah) refs m) :
    PI f b (ps ++ [[]], ah) (refs ++ [m.length]) ((m ++ [MO.lst []]).set b (.lst (refs.map SV.ref ++ [.ref m.length]))) ∧ True := by
  have hb := lt_of_get h.la
  have hlt : ∀ r ∈ refs, r < m.length := fun r hr => by
    obtain ⟨j, hj, e⟩ := List.getElem_of_mem hr
    have hj2 : j < ps.length := by
      have := h.len
      dsimp only at this
      omega
    exact lt_of_get (h.at_ j r ps[j] (by rw [List.getElem?_eq_getElem hj, e]) (List.getElem?_eq_getElem hj2))
  refine ⟨⟨?_, ?_, ?_, fun j r p h1 h2 => ?_, ?_, fun r hr => ?_⟩, trivial⟩
  · rw [set_get (Pre.app.get h.lp)]
    simp
  · rw [List.getElem?_set_ne (by omega)]
    exact Pre.app.get h.la
  · have := h.len
    dsimp only at this
    simp [this]
  · have hl := h.len
    dsimp only at hl h2
    have hbr : b ≠ r := by
      rcases List.mem_append.mp (List.mem_of_getElem? h1) with hr | hr
      · have := h.ge r hr
        omega
      · simp at hr
        omega
    rw [List.getElem?_set_ne hbr]
    rcases Nat.lt_or_ge j refs.length with hj | hj
    · rw [List.getElem?_append_left hj] at h1
      rw [List.getElem?_append_left (by omega)] at h2
      exact Pre.app.get (h.at_ j r p h1 h2)
    · have hj0 : j = refs.length := by
        have := (List.getElem?_eq_some_iff.mp h1).1
        simp at this
        omega
      subst hj0
      simp at h1
      rw [hl] at h2
      simp at h2
      subst h1 h2
      simp
  · rw [List.nodup_append]
    refine ⟨h.nd, by simp, fun a ha b hb e => ?_⟩
    simp at hb
    have := hlt a ha
    omega
  · rcases List.mem_append.mp hr with hr | hr
    · exact h.ge r hr
    · simp at hr
      omega
theorem w_pt {f : Nat → SV} {b d k y : Nat} {M : Mu} {ps : List (List Nat)} {ah : List (Nat × Option Nat)} {refs : List Nat} {x0 x1 : Option SV} (hP : PI f b (ps, ah) refs M) (hk : k < ps.length) (hne : ∀ j p, ps[j]? = some p → j < k → p ≠ []) (hkey : isKey (f y) = true) (hno : look (kvA f ah) (f y) = none)
    (hl1 : ah.length ≤ 900) (hl2 : ∀ p ∈ ps, p.length ≤ 900) :
    Wp (S_pt [x0, x1, some (.ref d), some (.ref b), some (.ref (b + 1)), some (f y), some (.int k)] M) fun o M' => o = .nx [x0, x1, some (.ref d), some (.ref b), some (.ref (b + 1)), some (f y), some (.int k)] ∧
      PI f b (ps.set k ((ps[k]?).getD [] ++ [y]), ah ++ [(y, if k = 0 then none else (ps[k - 1]?).map lastN)]) refs M' ∧ ∀ m1 : Mu, m1.length ≤ b → Pre m1 M → Pre m1 M' := by
  have put1 : putN (kvA f ah) (f y) .non = kvA f (ah ++ [(y, none)]) := by
    rw [putN, hno]
    simp [kvA]
    rfl
  have put2 : ∀ z, putN (kvA f (ah ++ [(y, none)])) (f y) (f z) = kvA f (ah ++ [(y, some z)]) := fun z => by
    have h1 : (look (kvA f (ah ++ [(y, none)])) (f y)) = some .non := by
      rw [kvA, List.map_append, look_app, hno]
      simp [look, oF]
    rw [putN, h1]
    simp only [Option.isSome_some, if_true, List.map_append, List.map_map]
    congr 1
    · rw [look_none] at hno
      refine List.map_congr_left fun p hp => ?_
      show (if f p.1 = f y then _ else _) = _
      rw [if_neg fun e => hno (List.mem_map.mpr ⟨_, List.mem_map.mpr ⟨p, hp, rfl⟩, e⟩)]
    · simp [oF]
  have hl3 : (kvA f ah).length ≤ 1000 := by rw [List.length_map]; omega
  have hl4 : (kvA f (ah ++ [(y, none)])).length ≤ 1000 := by rw [List.length_map, List.length_append, List.length_singleton]; omega
  -- the last step
  have fin : ∀ (o : Option Nat) (M2 : Mu), PI f b (ps, ah ++ [(y, o)]) refs M2 → Wp (dExp (dMeth fAppend (dBin fIx (dVar 3) (dVar 6)) (dCons (dVar 5) dNil)) [x0, x1, some (.ref d), some (.ref b), some (.ref (b + 1)), some (f y), some (.int k)] M2) fun o' M' => o' = .nx [x0, x1, some (.ref d), some (.ref b), some (.ref (b + 1)), some (f y), some (.int k)] ∧
      PI f b (ps.set k ((ps[k]?).getD [] ++ [y]), ah ++ [(y, o)]) refs M' ∧ ∀ m1 : Mu, m1.length ≤ b → Pre m1 M2 → Pre m1 M' := by
    intro o M2 h2
    have hp : ps[k]? = some ps[k] := List.getElem?_eq_getElem hk
    obtain ⟨r, hr1, hr2⟩ := h2.pile hp
    have hl5 := hl2 ps[k] (List.getElem_mem hk)
    have hbr := h2.ge r (List.mem_of_getElem? hr1)
    have ha1 : atI (refs.map SV.ref) ((k : Nat) : Int) = some (.ref r) := atI_nat (by rw [List.getElem?_map, hr1]; rfl)
    simp -implicitDefEqProofs [q_ixL h2.lp, ha1, q_isLst hr2]
    rw [q_app1 hr2 (by rw [List.length_map]; omega)]
    simp -implicitDefEqProofs
    refine ⟨⟨?_, ?_, ?_, fun j r' p h3 h4 => ?_, h2.nd, h2.ge⟩, fun m1 hm1 hpre => pre_set hpre (by omega)⟩
    · rw [List.getElem?_set_ne (by omega)]
      exact h2.lp
    · rw [List.getElem?_set_ne (by omega)]
      exact h2.la
    · rw [List.length_set]
      exact h2.len
    · by_cases e : j = k
      · subst e
        rw [hr1] at h3
        cases h3
        rw [List.getElem?_set_self hk] at h4
        cases h4
        rw [set_get hr2]
        simp [hp]
      · rw [List.getElem?_set_ne (fun z => e z.symm)] at h4
        have hrr : r' ≠ r := fun z => by
          subst z
          obtain ⟨b1, c1⟩ := List.getElem?_eq_some_iff.mp h3
          obtain ⟨b2, c2⟩ := List.getElem?_eq_some_iff.mp hr1
          rcases Nat.lt_or_gt_of_ne e with e | e
          · exact List.pairwise_iff_getElem.mp h2.nd j k b1 b2 e (c1.trans c2.symm)
          · exact List.pairwise_iff_getElem.mp h2.nd k j b2 b1 e (c2.trans c1.symm)
        rw [List.getElem?_set_ne (fun z => hrr z.symm)]
        exact h2.at_ j r' p h3 h4
  unfold S_pt
  rw [q_seq, wp_bind]
  have h1 : PI f b (ps, ah ++ [(y, none)]) refs (M.set (b + 1) (.dN (kvA f (ah ++ [(y, none)])))) := hP.setA
  have e1 : fPutN (.ref (b + 1)) (f y) .non M = some (M.set (b + 1) (.dN (kvA f (ah ++ [(y, none)])))) := by
    simp only [fPutN, dnAt, hP.la, Option.bind_some, hkey, true_and]
    rw [if_pos hl3, put1]
  have e2 : Wp (dPut fPutN (dVar 4) (dVar 5) (dC .non) [x0, x1, some (.ref d), some (.ref b), some (.ref (b + 1)), some (f y), some (.int k)] M) fun o M' => o = .nx [x0, x1, some (.ref d), some (.ref b), some (.ref (b + 1)), some (f y), some (.int k)] ∧ M' = M.set (b + 1) (.dN (kvA f (ah ++ [(y, none)]))) := by
    simp -implicitDefEqProofs [e1]
  refine wp_mono e2 fun o M' ⟨e3, e4⟩ => ?_
  subst e3 e4
  simp only
  rw [q_seq, wp_bind]
  generalize hM1 : M.set (b + 1) (.dN (kvA f (ah ++ [(y, none)]))) = M1 at h1 ⊢
  have pr1 : ∀ m1 : Mu, m1.length ≤ b → Pre m1 M → Pre m1 M1 := fun m1 hm hp => by
    rw [← hM1]
    exact pre_set hp (by omega)
  by_cases hk0 : k = 0
  · subst hk0
    simp -implicitDefEqProofs only [q_if]
    simp -implicitDefEqProofs [-q_exp]
    refine wp_mono (fin none M1 h1) fun o M' ⟨a1, a2, a3⟩ => ⟨a1, by simpa using a2, fun m1 hm hp => a3 m1 hm (pr1 m1 hm hp)⟩
  · have hp : ps[k - 1]? = some ps[k - 1] := List.getElem?_eq_getElem (by omega)
    obtain ⟨r, hr1, hr2⟩ := h1.pile hp
    have hne' := hne _ _ hp (by omega)
    have ha1 : atI (refs.map SV.ref) ((k : Int) - 1) = some (.ref r) := by
      rw [show ((k : Int) - 1) = ((k - 1 : Nat) : Int) by omega]
      exact atI_nat (by rw [List.getElem?_map, hr1]; rfl)
    have e5 : fPutN (.ref (b + 1)) (f y) (f (lastN ps[k - 1])) M1 = some (M1.set (b + 1) (.dN (kvA f (ah ++ [(y, some (lastN ps[k - 1]))])))) := by
      simp only [fPutN, dnAt, h1.la, Option.bind_some, hkey, true_and]
      rw [if_pos hl4, put2]
    have hk1 : 0 < k := by omega
    simp -implicitDefEqProofs only [q_if]
    simp -implicitDefEqProofs [-q_exp, hk1, q_ixL h1.lp, ha1, q_ixL hr2, atI_last (last_map hne')]
    rw [e5]
    simp -implicitDefEqProofs only [Option.bind_some, wp_some]
    refine wp_mono (fin (some (lastN ps[k - 1])) _ h1.setA) fun o M' ⟨a1, a2, a3⟩ => ⟨a1, by simpa [hk0, hp] using a2, fun m1 hm hp => a3 m1 hm (pre_set (pr1 m1 hm hp) (by omega))⟩
def S_if : DS := dSeq (dIf (dTr (dBin fEq (dVar 6) (dApp fLen (dCons (dVar 3) dNil)))) (dExp (dMeth fAppend (dVar 3) (dCons (dLst dNil) dNil))) dNext) S_pt
theorem piles_eq : S_piles_of = (dSeq (dAsg (bName 2) (dApp F_places_in (dCons (dVar 1) dNil)))
    (dSeq (dAsg (bName 3) (dLst dNil))
    (dSeq (dAsg (bName 4) dDNew)
    (dSeq (dForT (dVar 0) (bName 5) (dIf (dTr (dBin fInN (dVar 5) (dVar 2))) (dSeq (dAsg (bName 6) (dC (.int 0)))
    (dSeq (dWhile (dAndT (dTr (dBin fLt (dVar 6) (dApp fLen (dCons (dVar 3) dNil)))) (dTr (dBin fLt (dBin fIxN (dVar 2) (dBin fIx (dBin fIx (dVar 3) (dVar 6)) (dUn fNeg (dC (.int 1))))) (dBin fIxN (dVar 2) (dVar 5))))) (dAsg (bName 6) (dBin fAdd (dVar 6) (dC (.int 1)))) 30)
    S_if)) dNext))
    (dRet (dTup (dCons (dVar 3) (dCons (dVar 4) dNil)))))))) := rfl
def PO (f : Nat → SV) (old new : List Nat) (m1 : Mu) (d : Nat) (i : Nat) (e : En) (m' : Mu) : Prop := Pre m1 m' ∧ (∃ refs, PI f m1.length (pilesN new (old.take i)) refs m') ∧
  ∃ x k, e = [some (.tup (old.map f)), some (.tup (new.map f)), some (.ref d), some (.ref m1.length), some (.ref (m1.length + 1)), x, k]
theorem w_piles_of {f : Nat → SV} {N : Nat} {old new : List Nat} {m : Mu} {Q : SV → Mu → Prop} (hf : NumL f N) (ho : ∀ x ∈ old, x < N) (hn : ∀ x ∈ new, x < N) (hod : old.Nodup) (hnd : new.Nodup) (hsub : ∀ x ∈ old, x ∈ new) (ho9 : old.length ≤ 25) (hn9 : new.length ≤ 25)
    (q : ∀ m' b refs, Pre m m' → m.length ≤ b → PI f b (pilesN new old) refs m' → Q (.tup [.ref b, .ref (b + 1)]) m') : Wp (F_piles_of [.tup (old.map f), .tup (new.map f)] m) Q := by
  simp -implicitDefEqProofs [F_piles_of, piles_eq]
  refine w_places_in (hf.labs hn) (hf.nodup hn hnd) (by simp; omega) fun m1 p1 g1 => ?_
  have hlm : m.length < m1.length := lt_of_get g1
  refine wp_for (PO f old new m1 m.length) ⟨?_, ⟨[], ?_⟩, _, _, rfl⟩ (fun i x e m' hx I => ?_) fun e m' I => ?_
  · exact .app
  · exact ⟨by simp, by simp [pilesN], rfl, fun j r p h => (by cases h), List.nodup_nil, fun r h => (by cases h)⟩
  · obtain ⟨p, ⟨refs, hP⟩, u, v, rfl⟩ := I
    rw [List.getElem?_map] at hx
    obtain ⟨y, hy, rfl⟩ := Option.map_eq_some_iff.mp hx
    refine ⟨_, rfl, ?_⟩
    have hil := (List.getElem?_eq_some_iff.mp hy).1
    have hyo : y ∈ old := List.mem_of_getElem? hy
    have hyN : y < N := ho y hyo
    have hkey := key_lab (hf.lab y hyN)
    have hF := pf_all new old i (by omega)
    have hta : ∀ z ∈ old.take i, z ∈ old := fun z hz => List.mem_of_mem_take hz
    have hyno : y ∉ old.take i := by
      intro hm
      obtain ⟨j, hj, e⟩ := List.getElem_of_mem hm
      rw [List.getElem_take] at e
      rw [List.length_take] at hj
      have := List.pairwise_iff_getElem.mp hod j i (by omega) hil (by omega)
      rw [List.getElem?_eq_getElem hil] at hy
      exact this (e.trans (Option.some.inj hy).symm)
    have hmemN : f y ∈ new.map f := (hf.mem hn hyN).mpr (hsub y hyo)
    have hpl : (old.take i).length ≤ 25 := by
      rw [List.length_take]
      omega
    have look_new : ∀ z ∈ old, look (plK (new.map f)) (f z) = some (.int (posN new z)) := fun z hz => by
      rw [look_plK ((hf.mem hn (ho z hz)).mpr (hsub z hz)), hf.pos hn (ho z hz)]
    unfold PO
    rw [take_snoc hy, pilesN_snoc]
    generalize hs : pilesN new (old.take i) = s at *
    obtain ⟨ps, ah⟩ := s
    have gd : m'[m.length]? = some (.dN (plK (new.map f))) := p.get g1
    simp -implicitDefEqProofs [fInN, dnAt, gd, hkey, look_new y hyo]
    have hrl : refs.length = ps.length := hP.len
    have hpl3 : ps.length ≤ 25 := Nat.le_trans hF.len hpl
    have hkle := pK_le new y ps
    refine wp_mono (wp_while (Q := fun o m2 => m2 = m' ∧ o = .nx [some (.tup (old.map f)), some (.tup (new.map f)), some (.ref m.length), some (.ref m1.length), some (.ref (m1.length + 1)), some (f y), some (.int (pK new y ps))]) (fun c e m2 => m2 = m' ∧ ∃ k : Nat, e = [some (.tup (old.map f)), some (.tup (new.map f)), some (.ref m.length), some (.ref m1.length), some (.ref (m1.length + 1)), some (f y), some (.int k)] ∧ k + c = ps.length ∧ pK new y ps = k + pK new y (ps.drop k))
      (fun r m2 I => ?_) (fun c r m2 I => ?_) 30 ps.length _ _ (by omega) ⟨rfl, 0, rfl, by omega, by simp⟩) fun o m2 Io => ?_
    · -- all piles are lower
      obtain ⟨rfl, k, rfl, hc, hk⟩ := I
      have hkk : k = ps.length := by omega
      subst hkk
      rw [List.drop_of_length_le (Nat.le_refl _)] at hk
      have hk2 : pK new y ps = ps.length := by simpa [pK] using hk
      simp -implicitDefEqProofs [q_lenL hP.lp, hrl, hk2]
    · -- a turn of the inner loop
      obtain ⟨rfl, k, rfl, hc, hk⟩ := I
      have hlt : k < ps.length := by omega
      have hp : ps[k]? = some ps[k] := List.getElem?_eq_getElem hlt
      obtain ⟨r, hr1, hr2⟩ := hP.pile hp
      obtain ⟨hne, hpl2, hpm⟩ := hF.mem ps[k] (List.getElem_mem hlt)
      have hlast : lastN ps[k] ∈ old := hta _ (hpm _ (lastN_mem hne))
      have hkey2 := key_lab (hf.lab _ (ho _ hlast))
      have ha1 : atI (refs.map SV.ref) ((k : Nat) : Int) = some (.ref r) := atI_nat (by rw [List.getElem?_map, hr1]; rfl)
      simp -implicitDefEqProofs [q_lenL hP.lp, hrl, hlt, q_ixL hP.lp, ha1, q_ixL hr2, atI_last (last_map hne), fIxN, dnAt, gd, hkey2, look_new _ hlast, hkey, look_new y hyo]
      by_cases hlt2 : posN new (lastN ps[k]) < posN new y
      · simp -implicitDefEqProofs [hlt2]
        exact ⟨k + 1, by simp, by omega, pK_step hk hp hlt2⟩
      · simp -implicitDefEqProofs [hlt2]
        exact congrArg Int.ofNat (pK_stop hk hp hlt2).symm
    · obtain ⟨rfl, rfl⟩ := Io
      have hnoA : look (kvA f ah) (f y) = none := by
        rw [look_ah hf (fun p hp => ho _ (hta _ (by rw [← hF.keys]; exact List.mem_map.mpr ⟨p, hp, rfl⟩))) hyN, lookA_none (by rw [hF.keys]; exact hyno)]
        rfl
      have hlenA : ah.length ≤ 25 := by
        have := congrArg List.length hF.keys
        simp only [List.length_map] at this
        omega
      generalize hkv : pK new y ps = k at *
      simp -implicitDefEqProofs only []
      unfold S_if
      rw [q_seq, wp_bind]
      have stp : stepP new (ps, ah) y = (if k = ps.length then ps ++ [[y]] else ps.set k ((ps[k]?).getD [] ++ [y]), ah ++ [(y, if k = 0 then none else (ps[k - 1]?).map lastN)]) := by
        simp only [stepP, hkv]
      rw [stp]
      by_cases hke : k = ps.length
      · subst hke
        obtain ⟨h1, h2⟩ := hP.grow
        simp -implicitDefEqProofs [q_lenL hP.lp, hrl, q_isLst hP.lp]
        rw [q_app1 (Pre.app.get hP.lp) (by rw [List.length_map]; omega)]
        simp -implicitDefEqProofs only [wp_some, Option.bind_some]
        refine wp_mono (w_pt h1 (by simp) (fun j p h3 h4 => ?_) hkey hnoA (by omega) fun p hp => ?_) fun o M' ⟨a1, a2, a3⟩ => ?_
        · rw [List.getElem?_append_left h4] at h3
          exact (hF.mem p (List.mem_of_getElem? h3)).1
        · rcases List.mem_append.mp hp with hp | hp
          · have := (hF.mem p hp).2.1
            omega
          · simp at hp
            subst hp
            simp
        · subst a1
          have b1 : (ps ++ [[]]).set ps.length (((ps ++ [[]])[ps.length]?).getD [] ++ [y]) = ps ++ [[y]] := by simp
          have b2 : (if ps.length = 0 then none else ((ps ++ [[]])[ps.length - 1]?).map lastN) = (if ps.length = 0 then none else (ps[ps.length - 1]?).map lastN) := by
            by_cases z : ps.length = 0
            · simp [z]
            · rw [if_neg z, if_neg z, List.getElem?_append_left (by omega)]
          rw [b1, b2] at a2
          simp only [List.length_eq_zero_iff] at a2
          exact ⟨a3 m1 (Nat.le_refl _) (pre_set (p.tr .app) (Nat.le_refl _)), ⟨_, a2⟩, _, _, rfl⟩
      · have hk : k < ps.length := by omega
        simp -implicitDefEqProofs [q_lenL hP.lp, hrl]
        rw [if_neg (by omega), if_neg hke]
        simp -implicitDefEqProofs only [wp_some]
        refine wp_mono (w_pt hP hk (fun j p h1 _ => (hF.mem p (List.mem_of_getElem? h1)).1) hkey hnoA (by omega) fun p hp => by have := (hF.mem p hp).2.1; omega) fun o M' ⟨a1, a2, a3⟩ => ?_
        subst a1
        exact ⟨a3 m1 (Nat.le_refl _) p, ⟨refs, a2⟩, _, _, rfl⟩
  · obtain ⟨p, ⟨refs, hP⟩, u, v, rfl⟩ := I
    rw [List.length_map, List.take_of_length_le (Nat.le_refl _)] at hP
    simp -implicitDefEqProofs
    exact q m' _ refs (p1.tr p) (by omega) hP
end VW

/-! viewwood k93, the plain law: the paper of a row. -/
namespace VW
open PySem PySem.Spec PyProof.Rows L2
theorem lookA_lt {ah : List (Nat × Option Nat)} {N : Nat} (hv : ∀ p ∈ ah, ∀ y, p.2 = some y → y < N) {x y : Nat} (h : lookA ah x = some (some y)) : y < N := by
  obtain ⟨p, h1, h2⟩ := Option.map_eq_some_iff.mp h
  exact hv p (List.mem_of_find?_eq_some h1) y h2
def tupL (m : Mu) : SV → SV
  | .ref r => match m[r]? with
    | some (.lst xs) => .tup xs
    | _ => .non
  | _ => .non
def S_rt : DS := (dSeq (dWhile (dTr (dBin fNotN (dVar 3) (dC .non))) (dSeq (dExp (dMeth fAppend (dVar 2) (dCons (dVar 3) dNil)))
    (dAsg (bName 3) (dBin fIxN (dVar 5) (dVar 3)))) 30)
    (dSeq (dExp (dMeth0 fRev (dVar 2)))
    (dRet (dTup (dCons (dApp fTuple (dCons (dVar 2) dNil)) (dCons (dApp fTuple (dCons (dLc itLst (dVar 4) (bName 6) dYes (dApp fTuple (dCons (dVar 6) dNil)) [6]) dNil)) dNil))))))
theorem row_paper_eq : S_row_paper = (dSeq (dAsg (bTup 2 (bCons (bName 4) (bCons (bName 5) bNil))) (dApp F_piles_of (dCons (dVar 0) (dCons (dVar 1) dNil))))
    (dSeq (dAsg (bName 2) (dLst dNil))
    (dSeq (dAsg (bName 3) (dC .non))
    (dSeq (dIf (dTr (dBin fGt (dApp fLen (dCons (dVar 4) dNil)) (dC (.int 0)))) (dAsg (bName 3) (dBin fIx (dBin fIx (dVar 4) (dUn fNeg (dC (.int 1)))) (dUn fNeg (dC (.int 1))))) dNext)
    S_rt)))) := rfl
def RO (f : Nat → SV) (N : Nat) (x0 x1 : SV) (m2 : Mu) (b : Nat) (ah : List (Nat × Option Nat)) (st : List Nat) (n : Nat) (e : En) (m' : Mu) : Prop := ∃ (o : Option Nat) (acc rest : List Nat), Pre m2 m' ∧ m'[m2.length]? = some (.lst (acc.map f)) ∧ acc ++ rest = st ∧ chainN ah n o = some rest ∧ (∀ y, o = some y → y < N) ∧
  e = [some x0, some x1, some (.ref m2.length), some (oF f o), some (.ref b), some (.ref (b + 1)), none]
theorem oF_non {f : Nat → SV} {N : Nat} (hf : NumL f N) {o : Option Nat} (h : ∀ y, o = some y → y < N) : (oF f o = SV.non) ↔ o = none := by
  cases o with
  | none => simp [oF]
  | some y =>
    obtain ⟨xs, e, _⟩ := hf.lab y (h y rfl)
    simp [oF, e]
theorem lstAt_of {m : Mu} {i : Nat} {xs : List SV} (h : m[i]? = some (.lst xs)) : lstAt m i = some xs := by simp [lstAt, h]
theorem chain_len (ah : List (Nat × Option Nat)) : ∀ (n : Nat) (o : Option Nat) (xs : List Nat), chainN ah n o = some xs → xs.length ≤ n
  | n, none, xs, h => by
    simp [chainN] at h
    subst h
    simp
  | 0, some _, xs, h => by simp [chainN] at h
  | n + 1, some x, xs, h => by
    simp only [chainN] at h
    obtain ⟨o, h1, h2⟩ := Option.bind_eq_some_iff.mp h
    obtain ⟨ys, h3, h4⟩ := Option.map_eq_some_iff.mp h2
    subst h4
    have := chain_len ah n o ys h3
    simp
    omega
theorem w_row_paper {f : Nat → SV} {N : Nat} {old new : List Nat} {st : List Nat} {fl : List (List Nat)} {m : Mu} {Q : SV → Mu → Prop} (hf : NumL f N) (ho : ∀ x ∈ old, x < N) (hn : ∀ x ∈ new, x < N) (hod : old.Nodup) (hnd : new.Nodup) (hsub : ∀ x ∈ old, x ∈ new) (ho9 : old.length ≤ 25) (hn9 : new.length ≤ 25)
    (hr : rowN old new = some (st, fl)) (q : ∀ m', Pre m m' → Q (.tup [.tup (st.map f), .tup (fl.map fun p => .tup (p.map f))]) m') : Wp (F_row_paper [.tup (old.map f), .tup (new.map f)] m) Q := by
  obtain ⟨sr, hc, e0⟩ := Option.map_eq_some_iff.mp hr
  cases e0
  simp -implicitDefEqProofs [F_row_paper, row_paper_eq]
  refine w_piles_of hf ho hn hod hnd hsub ho9 hn9 fun m2 b refs p2 hb hP => ?_
  have hF := pf_all new old old.length (Nat.le_refl _)
  rw [List.take_of_length_le (Nat.le_refl _)] at hF
  generalize pilesN new old = s at *
  obtain ⟨ps, ah⟩ := s
  dsimp only at hc q
  have hrl : refs.length = ps.length := hP.len
  have hv : ∀ p ∈ ah, ∀ y, p.2 = some y → y < N := fun p hp y hy => ho y (hF.vals p hp y hy)
  have hk : ∀ p ∈ ah, p.1 < N := fun p hp => ho p.1 (by rw [← hF.keys]; exact List.mem_map.mpr ⟨p, hp, rfl⟩)
  have start : ∀ y, ps.getLast?.map lastN = some y → y < N := fun y h => by
    obtain ⟨p, hp, rfl⟩ := Option.map_eq_some_iff.mp h
    obtain ⟨a1, a2, a3⟩ := hF.mem p (List.mem_of_getLast? hp)
    exact ho _ (a3 _ (lastN_mem a1))
  have hbm : b + 1 < m2.length := lt_of_get hP.la
  have lp' := fun g : List MO => (Pre.app (g := g)).get hP.lp
  have tail : ∀ (x : SV), x = oF f (ps.getLast?.map lastN) → Wp (S_rt [some (.tup (old.map f)), some (.tup (new.map f)), some (.ref m2.length), some x, some (.ref b), some (.ref (b + 1)), none] (m2 ++ [.lst []])) fun o m' => o = .rt (.tup [.tup (sr.reverse.map f), .tup (ps.map fun p => .tup (p.map f))]) ∧ Pre m2 m' := by
    intro x hx
    subst hx
    unfold S_rt
    rw [q_seq, wp_bind]
    refine wp_mono (wp_while (Q := fun o m' => o = .nx [some (.tup (old.map f)), some (.tup (new.map f)), some (.ref m2.length), some .non, some (.ref b), some (.ref (b + 1)), none] ∧ Pre m2 m' ∧ m'[m2.length]? = some (.lst (sr.map f))) (RO f N (.tup (old.map f)) (.tup (new.map f)) m2 b ah sr) (fun r m' I => ?_) (fun n r m' I => ?_) 30 29 _ _ (by omega) ⟨_, [], sr, .app, by simp, by simp, hc, start, rfl⟩) fun o m' Io => ?_
    · obtain ⟨o, acc, rest, h1, h2, h3, h4, h5, rfl⟩ := I
      cases o with
      | some y => simp [chainN] at h4
      | none =>
        simp [chainN] at h4
        subst h4
        simp at h3
        subst h3
        simp -implicitDefEqProofs [oF]
        exact ⟨h1, h2⟩
    · obtain ⟨o, acc, rest, h1, h2, h3, h4, h5, rfl⟩ := I
      cases o with
      | none =>
        simp [chainN] at h4
        subst h4
        simp at h3
        subst h3
        simp -implicitDefEqProofs [oF]
        exact ⟨h1, h2⟩
      | some y =>
        have hy := h5 y rfl
        simp only [chainN] at h4
        obtain ⟨o', h6, h7⟩ := Option.bind_eq_some_iff.mp h4
        obtain ⟨rest', h8, h9⟩ := Option.map_eq_some_iff.mp h7
        subst h9
        have hne : (f y = SV.non) = False := by
          have := oF_non hf (o := some y) h5
          simpa [oF] using this
        have hal : acc.length ≤ 900 := by
          have : acc.length ≤ sr.length := by rw [← h3, List.length_append]; omega
          have : sr.length ≤ 29 := chain_len _ _ _ _ hc
          omega
        have g5 : (m'.set m2.length (.lst (acc.map f ++ [f y])))[b + 1]? = some (.dN (kvA f ah)) := by
          rw [List.getElem?_set_ne (by omega)]
          exact h1.get hP.la
        simp -implicitDefEqProofs [oF, hne, q_isLst h2]
        rw [q_app1 h2 (by rw [List.length_map]; omega)]
        simp -implicitDefEqProofs [fIxN, dnAt]
        rw [g5]
        simp -implicitDefEqProofs [key_lab (hf.lab y hy)]
        rw [look_ah hf hk hy, h6]
        simp -implicitDefEqProofs
        exact ⟨o', acc ++ [y], rest', pre_set h1 (Nat.le_refl _), by rw [set_get h2]; simp, by simpa using h3, h8, fun z hz => lookA_lt hv (h6.trans (by rw [hz])), rfl⟩
    · obtain ⟨rfl, h1, h2⟩ := Io
      simp -implicitDefEqProofs only []
      rw [q_seq, wp_bind]
      have hrev : Wp (dExp (dMeth0 fRev (dVar 2)) [some (.tup (old.map f)), some (.tup (new.map f)), some (.ref m2.length), some .non, some (.ref b), some (.ref (b + 1)), none] m') fun o m4 => o = .nx [some (.tup (old.map f)), some (.tup (new.map f)), some (.ref m2.length), some .non, some (.ref b), some (.ref (b + 1)), none] ∧ Pre m2 m4 ∧ m4[m2.length]? = some (.lst (sr.reverse.map f)) := by
        simp -implicitDefEqProofs [q_isLst h2, fRev, lstAt_of h2]
        exact ⟨pre_set h1 (Nat.le_refl _), by rw [set_get h2]⟩
      refine wp_mono hrev fun o m4 ⟨e1, h3, h4⟩ => ?_
      subst e1
      have hlp : m4[b]? = some (.lst (refs.map SV.ref)) := h3.get hP.lp
      simp -implicitDefEqProofs [q_tupleL h4, lstAt_of hlp]
      refine wp_lcL (fun _ => true) (tupL m4) hlp (by simp; have := hF.len; dsimp only at this; omega) (fun x hx m3 p3 => ⟨_, rfl, ?_⟩) fun m3 p3 g3 => ?_
      · obtain ⟨r, hr, rfl⟩ := List.mem_map.mp hx
        obtain ⟨j, hj, e⟩ := List.getElem_of_mem hr
        have hj2 : ps[j]? = some ps[j] := List.getElem?_eq_getElem (by omega)
        have g4 := h3.get (hP.at_ j r ps[j] (by rw [List.getElem?_eq_getElem hj, e]) hj2)
        simp -implicitDefEqProofs [wipeE]
        rw [q_tupleL (p3.get g4)]
        simp -implicitDefEqProofs [tupL, g4]
      · rw [q_tupleL g3]
        simp -implicitDefEqProofs
        refine ⟨?_, h3.tr p3⟩
        apply List.ext_getElem?
        intro j
        rw [List.getElem?_map, List.getElem?_map]
        cases hr : refs[j]? with
        | none =>
          have : ps[j]? = none := by
            rw [List.getElem?_eq_none_iff] at hr ⊢
            omega
          rw [this]
          rfl
        | some r =>
          have hj : j < ps.length := by
            have := (List.getElem?_eq_some_iff.mp hr).1
            omega
          have hj2 : ps[j]? = some ps[j] := List.getElem?_eq_getElem hj
          have g4 := h3.get (hP.at_ j r ps[j] hr hj2)
          rw [hj2]
          simp [tupL, g4]
  have fin : ∀ x, x = oF f (ps.getLast?.map lastN) → Wp (S_rt [some (.tup (old.map f)), some (.tup (new.map f)), some (.ref m2.length), some x, some (.ref b), some (.ref (b + 1)), none] (m2 ++ [.lst []])) fun o m' => match o with
      | .nx r => Q .non m'
      | .rt x => Q x m'
      | _ => False := fun x hx => wp_mono (tail x hx) fun o m' ⟨e1, e2⟩ => by
    subst e1
    exact q m' (p2.tr e2)
  simp -implicitDefEqProofs [q_lenL (lp' _), hrl]
  by_cases hz : ps.length = 0
  · have hpe : ps = [] := List.length_eq_zero_iff.mp hz
    subst hpe
    have := fin .non rfl
    simp -implicitDefEqProofs
    refine wp_mono this fun o m' h => ?_
    cases o <;> first | exact h | exact h.elim | simpa using h
  · have hne : ps ≠ [] := fun e => hz (by rw [e]; rfl)
    have hpos : 0 < ps.length := by omega
    obtain ⟨lp, hlast⟩ : ∃ lp, ps.getLast? = some lp := ⟨_, List.getLast?_eq_some_getLast hne⟩
    have hgl : ps[ps.length - 1]? = some lp := by rw [← List.getLast?_eq_getElem?]; exact hlast
    obtain ⟨r, hr1, hr2⟩ := hP.pile hgl
    have hrlast : (refs.map SV.ref).getLast? = some (.ref r) := by
      rw [List.getLast?_map, List.getLast?_eq_getElem?, hrl, hr1]
      rfl
    obtain ⟨hne2, _, _⟩ := hF.mem lp (List.mem_of_getLast? hlast)
    have hr3 := (Pre.app (g := [MO.lst []])).get hr2
    have := fin (f (lastN lp)) (by rw [hlast]; rfl)
    simp -implicitDefEqProofs [hpos, q_ixL (lp' _), atI_last hrlast, q_ixL hr3, atI_last (last_map hne2)]
    refine wp_mono this fun o m' h => ?_
    cases o <;> first | exact h | exact h.elim | simpa using h
end VW

/-! viewwood k93, the plain law: what lets a row paper by. -/
namespace VW
open PySem PySem.Spec PyProof.Rows L2
theorem nt_lab {x : SV} (n : Nat) (h : Lab x) : nt (n + 2) x = true := by
  obtain ⟨xs, rfl, _, _, h⟩ := h
  rw [nt, List.all_eq_true]
  intro y hy
  obtain ⟨key, k, rfl, _, rfl | ⟨a, rfl, _⟩⟩ := h y hy <;> simp [nt]
theorem w_is_common {xs A B : List SV} {a b : Nat} {m : Mu} {Q : SV → Mu → Prop} (ha : m[a]? = some (.dN (plK A))) (hb : m[b]? = some (.dN (plK B))) (hL : Labs xs) (hl : xs.length ≤ 900) (hx : ∀ x ∈ xs, x ∈ A ∧ x ∈ B) (q : ∀ m', Pre m m' → Q (.bl true) m') : Wp (F_is_common [.tup xs, .ref a, .ref b] m) Q := by
  simp -implicitDefEqProofs [F_is_common, S_is_common]
  refine w_all_label (by simp) hl hL fun m1 p1 => ?_
  simp -implicitDefEqProofs
  refine wp_lcT (fun _ => true) (fun _ => .bl true) hl (fun x hx' m2 p2 => ⟨_, rfl, ?_⟩) fun m2 p2 g2 => ?_
  · have h1 : (look (plK A) x).isSome = true := by rw [look_plK (hx x hx').1]; rfl
    have h2 : (look (plK B) x).isSome = true := by rw [look_plK (hx x hx').2]; rfl
    have ga := p2.get (p1.get ha)
    have gb := p2.get (p1.get hb)
    simp -implicitDefEqProofs [wipeE, fInN, dnAt, ga, gb, key_lab (hL x hx'), h1, h2]
  · exact wp_allT (xs := xs) (by simpa using g2) (q m2 (p1.tr p2))
def Goes (A B xs : List SV) (fal : Bool) : Prop := ∀ (k : Nat) (x y : SV), xs[k]? = some x → xs[k + 1]? = some y → pIx A x < pIx A y ∧ (if fal = true then pIx B y < pIx B x else pIx B x < pIx B y)
theorem w_goes_on {xs A B : List SV} {a b : Nat} {fal : Bool} {m : Mu} {Q : SV → Mu → Prop} (ha : m[a]? = some (.dN (plK A))) (hb : m[b]? = some (.dN (plK B))) (hL : Labs xs) (hl : xs.length ≤ 900) (hx : ∀ x ∈ xs, x ∈ A ∧ x ∈ B) (hg : Goes A B xs fal) (q : Q (.bl true) m) : Wp (F_goes_on [.tup xs, .ref a, .ref b, .bl fal] m) Q := by
  simp -implicitDefEqProofs [F_goes_on, S_goes_on]
  have hrk : rOk2 1 xs.length := rOk2_nat (i := 1) (n := xs.length) (by omega) (by omega)
  rw [if_pos hrk]
  refine wp_for (fun k e m' => m' = m ∧ ∃ u v w, e = [some (.tup xs), some (.ref a), some (.ref b), some (.bl fal), u, v, w]) ⟨rfl, _, _, _, rfl⟩ (fun k z e m' hz I => ?_) fun e m' I => ?_
  · obtain ⟨rfl, u, v, w, rfl⟩ := I
    have hlt : k + 1 < xs.length := by
      have := (List.getElem?_eq_some_iff.mp hz).1
      rw [intsV_len] at this
      omega
    rw [intsV_get (by omega)] at hz
    cases hz
    refine ⟨_, rfl, ?_⟩
    have e1 : xs[k]? = some xs[k] := List.getElem?_eq_getElem (by omega)
    have e2 : xs[k + 1]? = some xs[k + 1] := List.getElem?_eq_getElem hlt
    obtain ⟨h1, h2⟩ := hg k _ _ e1 e2
    have m1 : xs[k] ∈ xs := List.getElem_mem (by omega)
    have m2 : xs[k + 1] ∈ xs := List.getElem_mem hlt
    have a1 : atI xs (1 + (k : Int) - 1) = some xs[k] := by rw [show (1 + (k : Int) - 1) = (k : Int) by omega]; exact atI_nat e1
    have a2 : atI xs (1 + (k : Int)) = some xs[k + 1] := by rw [show (1 + (k : Int)) = ((k + 1 : Nat) : Int) by omega]; exact atI_nat e2
    simp -implicitDefEqProofs [a1, a2, fIxN, dnAt, ha, hb, key_lab (hL _ m1), key_lab (hL _ m2), look_plK (hx _ m1).1, look_plK (hx _ m1).2, look_plK (hx _ m2).1, look_plK (hx _ m2).2, fNe_bl]
    rw [if_neg (by omega), if_neg]
    · have hd : decide (pIx B xs[k + 1] < pIx B xs[k]) = fal := by
        cases fal <;> simp at h2 ⊢ <;> omega
      simp -implicitDefEqProofs [hd]
    · intro e
      have e : pIx B xs[k] = pIx B xs[k + 1] := by
        have : (pIx B xs[k] : Int) = (pIx B xs[k + 1] : Int) := by simpa using e
        omega
      cases fal <;> simp at h2 <;> omega
  · obtain ⟨rfl, u, v, w, rfl⟩ := I
    simpa using q
structure LR (A B st : List SV) (fl : List (List SV)) : Prop where
  la : Labs A
  lb : Labs B
  na : A.Nodup
  nb : B.Nodup
  hA : A.length ≤ 50
  hB : B.length ≤ 50
  hs : st.length ≤ 50
  st_ : ∀ x ∈ st, x ∈ A ∧ x ∈ B
  len : st.length = fl.length
  go : Goes A B st false
  fall : ∀ p ∈ fl, p ≠ [] ∧ p.length ≤ 50 ∧ (∀ x ∈ p, x ∈ A ∧ x ∈ B) ∧ Goes A B p true
  nd : fl.flatten.Nodup
  fln : fl.flatten.length = (A.filter fun x => decide (x ∈ B)).length
def LO (A B : List SV) (P : SV) (S F : SV) (m m2 : Mu) (a b sn : Nat) (fl : List (List SV)) (k : Nat) (e : En) (m' : Mu) : Prop := Pre m m' ∧ Pre m2 m' ∧ m'[sn]? = some (.lst (fl.take k).flatten) ∧ ∃ u v, e = [some (.tup A), some (.tup B), some P, some (.ref a), some (.ref b), some (.ref sn), u, some S, some F, v]
theorem w_lets_row {A B st : List SV} {fl : List (List SV)} {m : Mu} {Q : SV → Mu → Prop} (h : LR A B st fl) (q : ∀ m', Pre m m' → Q (.bl true) m') : Wp (F_lets_row [.tup A, .tup B, .tup [.tup st, .tup (fl.map SV.tup)]] m) Q := by
  have hkB : ∀ x ∈ A, (look (plK B) x).isSome = decide (x ∈ B) := fun x hx => by
    by_cases hxb : x ∈ B
    · rw [look_plK hxb]
      simp [hxb]
    · rw [look_none.mpr (by rw [plK_keys]; exact hxb)]
      simp [hxb]
  have hst : Labs st := fun x hx => h.la x (h.st_ x hx).1
  have hlen := h.len
  have hA := h.hA
  have hB := h.hB
  have hs := h.hs
  have hfll : fl.flatten.length ≤ 50 := by
    rw [h.fln]
    have := List.length_filter_le (fun x => decide (x ∈ B)) A
    omega
  simp -implicitDefEqProofs [F_lets_row, S_lets_row]
  refine w_places_in h.la h.na (by omega) fun m1 p1 g1 => ?_
  refine w_places_in h.lb h.nb (by omega) fun m2 p2 g2 => ?_
  have g1' := p2.get g1
  refine w_is_common g1' g2 hst (by omega) h.st_ fun m3 p3 => ?_
  have g13 := p3.get g1'
  have g23 := p3.get g2
  simp -implicitDefEqProofs [hlen]
  refine w_goes_on g13 g23 hst (by omega) h.st_ h.go ?_
  simp -implicitDefEqProofs
  refine wp_for (LO A B (.tup [.tup st, .tup (fl.map SV.tup)]) (.tup st) (.tup (fl.map SV.tup)) m m3 m.length m1.length m3.length fl) ⟨(p1.tr p2).tr (p3.tr .app), .app, by simp, _, _, rfl⟩ (fun k z e m' hz I => ?_) fun e m' I => ?_
  · obtain ⟨pm, p4, g4, u, v, rfl⟩ := I
    rw [List.getElem?_map] at hz
    obtain ⟨p, hp, rfl⟩ := Option.map_eq_some_iff.mp hz
    obtain ⟨a1, a2, a3, a4⟩ := h.fall p (List.mem_of_getElem? hp)
    have hLp : Labs p := fun x hx => h.la x (a3 x hx).1
    refine ⟨_, rfl, ?_⟩
    simp -implicitDefEqProofs
    refine w_is_common (p4.get g13) (p4.get g23) hLp (by omega) a3 fun m5 p5 => ?_
    have hp0 : ¬ (p.length = 0) := fun z => a1 (List.length_eq_zero_iff.mp z)
    simp -implicitDefEqProofs [a1]
    refine w_goes_on (p5.get (p4.get g13)) (p5.get (p4.get g23)) hLp (by omega) a3 a4 ?_
    have g5 := p5.get g4
    have hfl2 : (fl.take k).flatten.length + p.length ≤ 50 := by
      have e : (fl.take (k + 1)).flatten = (fl.take k).flatten ++ p := by
        rw [take_snoc hp]
        simp
      have : (fl.take (k + 1)).flatten.length ≤ fl.flatten.length := by
        conv => rhs; rw [← List.take_append_drop (k + 1) fl, List.flatten_append, List.length_append]
        omega
      rw [e, List.length_append] at this
      omega
    have e6 : fExtT (.ref m3.length) [.tup p] m5 = some (.non, m5.set m3.length (.lst ((fl.take k).flatten ++ p))) := by
      unfold fExtT
      simp only [lstAt_of g5, Option.bind_some]
      rw [if_pos (by omega)]
    simp -implicitDefEqProofs [q_isLst g5]
    rw [e6]
    simp -implicitDefEqProofs only [Option.bind_some, wp_some]
    have hml : m.length ≤ m3.length := List.IsPrefix.length_le ((p1.tr p2).tr p3)
    refine ⟨pre_set (pm.tr p5) hml, pre_set (p4.tr p5) (Nat.le_refl _), ?_, _, _, rfl⟩
    rw [set_get g5, take_snoc hp]
    simp
  · obtain ⟨pm, p4, g4, u, v, rfl⟩ := I
    rw [List.length_map, List.take_of_length_le (Nat.le_refl _)] at g4
    have hkeys : keysOk fl.flatten = true := by
      have hin : ∀ x ∈ fl.flatten, Lab x := fun x hx => by
        obtain ⟨p, hp, hxp⟩ := List.mem_flatten.mp hx
        exact h.la x ((h.fall p hp).2.2.1 x hxp).1
      unfold keysOk
      simp only [Bool.and_eq_true, decide_eq_true_eq, List.all_eq_true]
      exact ⟨⟨⟨by omega, fun x hx => key_lab (hin x hx)⟩, h.nd⟩, fun x hx => nt_lab 6 (hin x hx)⟩
    have e7 : fLenSet (.ref m3.length) m' = some (.int fl.flatten.length, m') := by
      simp only [fLenSet, lstAt_of g4, Option.bind_some, hkeys, if_true]
    simp -implicitDefEqProofs only [q_seq, q_ret, q_and, q_bin, q_app, q_cons, q_var, q_nil, q_un, wp_bind, wp_some, List.getElem?_cons_succ, List.getElem?_cons_zero]
    rw [q_lenL g4]
    simp -implicitDefEqProofs only [wp_some]
    rw [e7]
    simp -implicitDefEqProofs [q_lenL g4]
    refine wp_lcT (fun x => decide (x ∈ B)) id (by omega) (fun x hx m5 p5 => ⟨_, rfl, ?_⟩) fun m5 p5 g5 => ?_
    · have g6 := p5.get (p4.get g23)
      simp -implicitDefEqProofs [wipeE, fInN, dnAt, g6, key_lab (h.la x hx), hkB x hx]
    · rw [q_lenL g5]
      have e8 : fl.flatten.length = (List.map id (A.filter fun x => decide (x ∈ B))).length := by rw [List.length_map]; exact h.fln
      rw [List.length_flatten] at e8
      simp -implicitDefEqProofs [e8]
      exact q m5 (pm.tr p5)
end VW

/-! viewwood k93, the plain law: the fewest moves. -/
namespace VW
open PySem PySem.Spec PyProof.Rows L2
def cand (o : List Nat) (a t : Nat) : List Nat := (o.eraseIdx a).take t ++ (o.drop a).take 1 ++ (o.eraseIdx a).drop t
def mvs (o : List Nat) (n a : Nat) : List (List Nat) := (List.range n).map (cand o a)
def moves (o : List Nat) : List (List Nat) := (List.range o.length).flatMap (mvs o o.length)
abbrev FS := List (List Nat) × List (List Nat)
def addF (s : FS) (x : List Nat) : FS := if x ∈ s.1 then s else (s.1 ++ [x], s.2 ++ [x])
def foldF (s : FS) (xs : List (List Nat)) : FS := xs.foldl addF s
/-- (the orders of the k-th turn, all that are met) -/
def lv (b : List Nat) : Nat → FS
  | 0 => ([b], [b])
  | k + 1 => ((foldF ((lv b k).2, []) ((lv b k).1.flatMap moves)).2, (foldF ((lv b k).2, []) ((lv b k).1.flatMap moves)).1)
theorem foldF_cons (s : FS) (x : List Nat) (xs : List (List Nat)) : foldF s (x :: xs) = foldF (addF s x) xs := rfl
theorem addF_le (s : FS) (x : List Nat) : s.1.length ≤ (addF s x).1.length := by
  unfold addF
  split
  · exact Nat.le_refl _
  · simp
theorem foldF_le (xs : List (List Nat)) : ∀ s : FS, s.1.length ≤ (foldF s xs).1.length := by
  induction xs with
  | nil => exact fun s => Nat.le_refl _
  | cons x xs ih => exact fun s => Nat.le_trans (addF_le s x) (ih (addF s x))
@[simp] theorem cut_mid {α : Type} (xs : List α) (k : Nat) : cutS xs (some (k : Int)) (some ((k : Int) + 1)) = (xs.drop k).take 1 := by
  unfold cutS
  rw [show ((k : Int) + 1) = ((k + 1 : Nat) : Int) by omega, HT.sIx_nat, HT.sIx_nat]
  rcases Nat.lt_or_ge k xs.length with h | h
  · rw [Nat.min_eq_left (by omega), Nat.min_eq_left (by omega)]
    congr 1
    omega
  · rw [Nat.min_eq_right h, Nat.min_eq_right (by omega), Nat.sub_self, List.take_zero, List.drop_of_length_le h]
    rfl
def tL (f : Nat → SV) (o : List Nat) : SV := .tup (o.map f)
def Sm (N : Nat) (o : List Nat) : Prop := ∀ x ∈ o, x < N
theorem tL_inj {f : Nat → SV} {N : Nat} (hf : NumL f N) : ∀ {a b : List Nat}, Sm N a → Sm N b → tL f a = tL f b → a = b := by
  have gen : ∀ (a b : List Nat), Sm N a → Sm N b → a.map f = b.map f → a = b := by
    intro a
    induction a with
    | nil =>
      intro b _ _ e
      cases b with
      | nil => rfl
      | cons y b => cases e
    | cons x a ih =>
      intro b ha hb e
      cases b with
      | nil => cases e
      | cons y b =>
        rw [List.map_cons, List.map_cons] at e
        injection e with e1 e2
        rw [hf.inj x y (ha x (by simp)) (hb y (by simp)) e1, ih b (fun z hz => ha z (by simp [hz])) (fun z hz => hb z (by simp [hz])) e2]
  intro a b ha hb e
  injection e with e
  exact gen a b ha hb e
theorem pl_tL {f : Nat → SV} {N : Nat} (hf : NumL f N) {o : List Nat} (h : Sm N o) : pl 3 (tL f o) = true := by
  rw [tL, pl_tup, List.all_eq_true]
  intro x hx
  obtain ⟨y, hy, rfl⟩ := List.mem_map.mp hx
  exact pl_lab (hf.lab y (h y hy))
theorem key_tL {f : Nat → SV} {N : Nat} (hf : NumL f N) {o : List Nat} (h : Sm N o) : isKey (tL f o) = true := pl_le (pl_tL hf h) (by decide)
theorem mem_tL {f : Nat → SV} {N : Nat} (hf : NumL f N) {o : List Nat} {os : List (List Nat)} (h : Sm N o) (hs : ∀ x ∈ os, Sm N x) : tL f o ∈ os.map (tL f) ↔ o ∈ os := by
  constructor
  · intro hm
    obtain ⟨y, h1, h2⟩ := List.mem_map.mp hm
    rwa [← tL_inj hf (hs y h1) h h2]
  · exact fun hm => List.mem_map.mpr ⟨o, hm, rfl⟩
def kvM (f : Nat → SV) (met : List (List Nat)) : List (SV × SV) := met.map fun o => (tL f o, .bl true)
theorem look_met {f : Nat → SV} {N : Nat} (hf : NumL f N) {o : List Nat} {met : List (List Nat)} (h : Sm N o) (hs : ∀ x ∈ met, Sm N x) : (look (kvM f met) (tL f o)).isSome = decide (o ∈ met) := by
  have hk : (kvM f met).map (·.1) = met.map (tL f) := by
    unfold kvM
    rw [List.map_map]
    rfl
  by_cases e : o ∈ met
  · cases hl : look (kvM f met) (tL f o) with
    | none =>
      rw [look_none, hk] at hl
      exact absurd ((mem_tL hf h hs).mpr e) hl
    | some _ => simp [e]
  · have : look (kvM f met) (tL f o) = none := by
      rw [look_none, hk]
      exact fun z => e ((mem_tL hf h hs).mp z)
    rw [this]
    simp [e]
theorem sm_cand {N : Nat} {o : List Nat} {a t : Nat} (h : Sm N o) : Sm N (cand o a t) := by
  intro x hx
  unfold cand at hx
  rcases List.mem_append.mp hx with hx | hx
  · rcases List.mem_append.mp hx with hx | hx
    · exact h x (List.mem_of_mem_eraseIdx (List.mem_of_mem_take hx))
    · exact h x (List.mem_of_mem_drop (List.mem_of_mem_take hx))
  · exact h x (List.mem_of_mem_eraseIdx (List.mem_of_mem_drop hx))
/-- what the turn has, the candidates R still to come -/
structure FJ (f : Nat → SV) (N : Nat) (m0 : Mu) (oi mi li : Nat) (orders : List (List Nat)) (fin : FS) (R : List (List Nat)) (m' : Mu) : Prop where
  ex : ∃ met later, foldF (met, later) R = fin ∧ m'[mi]? = some (.dN (kvM f met)) ∧ m'[li]? = some (.lst (later.map (tL f))) ∧ later.length ≤ met.length ∧ (∀ o ∈ met, Sm N o) ∧ ∀ o ∈ later, Sm N o
  ord : m'[oi]? = some (.lst (orders.map (tL f)))
  pre : Pre m0 m'
def S_in : DS := (dSeq (dAsg (bName 10) (dBin fAdd (dBin fAdd (dSlice (dVar 8) dNoP (dPart (dVar 9))) (dSlice (dVar 6) (dPart (dVar 7)) (dPart (dBin fAdd (dVar 7) (dC (.int 1)))))) (dSlice (dVar 8) (dPart (dVar 9)) dNoP)))
    (dIf (dTr (dBin fNinN (dVar 10) (dVar 4))) (dSeq (dPut fPutN (dVar 4) (dVar 10) (dC (.bl true)))
    (dExp (dMeth fAppend (dVar 5) (dCons (dVar 10) dNil)))) dNext))
section
variable {f : Nat → SV} {N : Nat} {m0 : Mu} {oi mi li : Nat} {orders : List (List Nat)} {fin : FS}
theorem w_in {R : List (List Nat)} {m : Mu} {o : List Nat} {a t : Nat} {x0 x1 x2 x3 x10 : Option SV} {Q : Out → Mu → Prop} (hf : NumL f N) (h1 : m0.length ≤ mi) (h2 : m0.length ≤ li) (hd : mi ≠ li) (hd1 : oi ≠ mi) (hd2 : oi ≠ li) (hfin : fin.1.length ≤ 900) (ho : Sm N o) (hol : o.length ≤ 30)
    (h : FJ f N m0 oi mi li orders fin (cand o a t :: R) m) (q : ∀ m', FJ f N m0 oi mi li orders fin R m' → Q (.nx [x0, x1, x2, x3, some (.ref mi), some (.ref li), some (tL f o), some (.int a), some (tL f (o.eraseIdx a)), some (.int t), some (tL f (cand o a t))]) m') :
    Wp (S_in [x0, x1, x2, x3, some (.ref mi), some (.ref li), some (tL f o), some (.int a), some (tL f (o.eraseIdx a)), some (.int t), x10] m) Q := by
  obtain ⟨⟨met, later, e1, e2, e3, e4, e5, e6⟩, e7, e8⟩ := h
  have hc : Sm N (cand o a t) := sm_cand ho
  rw [foldF_cons] at e1
  have hml : met.length ≤ 900 := by
    have h3 := addF_le (met, later) (cand o a t)
    have h4 := foldF_le R (addF (met, later) (cand o a t))
    rw [e1] at h4
    dsimp only at h3
    omega
  have hel : (o.eraseIdx a).length ≤ 30 := Nat.le_trans (List.length_eraseIdx_le _ _) hol
  have ec : tL f (cand o a t) = .tup (((o.eraseIdx a).map f).take t ++ ((o.map f).drop a).take 1 ++ ((o.eraseIdx a).map f).drop t) := by
    simp [tL, cand, List.map_take, List.map_drop]
  have l1 : (((o.eraseIdx a).map f).take t).length ≤ 30 := by rw [List.length_take, List.length_map]; omega
  unfold S_in
  have step1 : Wp (dAsg (bName 10) (dBin fAdd (dBin fAdd (dSlice (dVar 8) dNoP (dPart (dVar 9))) (dSlice (dVar 6) (dPart (dVar 7)) (dPart (dBin fAdd (dVar 7) (dC (.int 1)))))) (dSlice (dVar 8) (dPart (dVar 9)) dNoP)) [x0, x1, x2, x3, some (.ref mi), some (.ref li), some (tL f o), some (.int a), some (tL f (o.eraseIdx a)), some (.int t), x10] m) fun o' m' => o' = .nx [x0, x1, x2, x3, some (.ref mi), some (.ref li), some (tL f o), some (.int a), some (tL f (o.eraseIdx a)), some (.int t), some (tL f (cand o a t))] ∧ m' = m := by
    rw [ec]
    have la : ((o.map f).drop a).length ≤ 30 := by rw [List.length_drop, List.length_map]; omega
    have lb : ((o.eraseIdx a).map f).length ≤ 30 := by rw [List.length_map]; exact hel
    unfold tL
    generalize (o.eraseIdx a).map f = E at *
    generalize o.map f = O at *
    simp -implicitDefEqProofs
    rw [if_pos (by simp at l1 la; omega)]
    simp -implicitDefEqProofs
    rw [if_pos (by simp at l1 la; omega)]
    simp
  rw [q_seq, wp_bind]
  refine wp_mono step1 fun o' m' ⟨a1, a2⟩ => ?_
  subst a1 a2
  have hlk := look_met hf hc e5
  have hkey := key_tL hf hc
  have hln : look (kvM f met) (tL f (cand o a t)) = none ↔ cand o a t ∉ met := by
    rw [← Option.not_isSome_iff_eq_none, hlk]
    simp
  simp -implicitDefEqProofs [fNinN, dnAt, e2, hkey, hln]
  by_cases hm : cand o a t ∈ met
  · simp -implicitDefEqProofs [hm]
    refine q m' ⟨⟨met, later, ?_, e2, e3, e4, e5, e6⟩, e7, e8⟩
    rw [← e1]
    simp [addF, hm]
  · have hnone : look (kvM f met) (tL f (cand o a t)) = none := by
      rw [← Option.not_isSome_iff_eq_none, hlk]
      simp [hm]
    have hput : putN (kvM f met) (tL f (cand o a t)) (.bl true) = kvM f (met ++ [cand o a t]) := by
      rw [putN, hnone]
      simp [kvM]
    have hkl : (kvM f met).length ≤ 1000 := by
      unfold kvM
      rw [List.length_map]
      omega
    have e9 : fPutN (.ref mi) (tL f (cand o a t)) (.bl true) m' = some (m'.set mi (.dN (kvM f (met ++ [cand o a t])))) := by
      simp only [fPutN, dnAt, e2, Option.bind_some, hkey, true_and]
      rw [if_pos hkl, hput]
    simp -implicitDefEqProofs [hm]
    rw [e9]
    have e10 : (m'.set mi (.dN (kvM f (met ++ [cand o a t]))))[li]? = some (.lst (later.map (tL f))) := by
      rw [List.getElem?_set_ne hd]
      exact e3
    simp -implicitDefEqProofs [q_isLst e10]
    rw [q_app1 e10 (by rw [List.length_map]; omega)]
    simp -implicitDefEqProofs only [Option.bind_some, wp_some]
    refine q _ ⟨⟨met ++ [cand o a t], later ++ [cand o a t], ?_, ?_, ?_, ?_, ?_, ?_⟩, ?_, ?_⟩
    · rw [← e1]
      simp [addF, hm]
    · rw [List.getElem?_set_ne (fun z => hd z.symm), set_get e2]
    · rw [set_get e10]
      simp
    · simp
      exact e4
    · intro x hx
      rcases List.mem_append.mp hx with hx | hx
      · exact e5 x hx
      · simp at hx
        subst hx
        exact hc
    · intro x hx
      rcases List.mem_append.mp hx with hx | hx
      · exact e6 x hx
      · simp at hx
        subst hx
        exact hc
    · rw [List.getElem?_set_ne (fun z => hd2 z.symm), List.getElem?_set_ne (fun z => hd1 z.symm)]
      exact e7
    · exact pre_set (pre_set e8 h1) h2
end
end VW

/-! viewwood k93, the plain law: the fewest moves, turn by turn. -/
namespace VW
open PySem PySem.Spec PyProof.Rows L2
def S_to : DS := dForR1 (dCons (dApp fLen (dCons (dVar 6) dNil)) dNil) (bName 9) S_in
def S_at : DS := dForR1 (dCons (dApp fLen (dCons (dVar 6) dNil)) dNil) (bName 7) (dSeq (dAsg (bName 8) (dBin fAdd (dSlice (dVar 6) dNoP (dPart (dVar 7))) (dSlice (dVar 6) (dPart (dBin fAdd (dVar 7) (dC (.int 1)))) dNoP))) S_to)
def S_ord : DS := dForL (dVar 2) (bName 6) S_at
def S_turn : DS := (dSeq (dAsg (bName 5) (dLst dNil)) (dSeq S_ord (dSeq (dAsg (bName 2) (dVar 5)) (dAsg (bName 3) (dBin fAdd (dVar 3) (dC (.int 1)))))))
theorem fewest_eq : S_law_fewest = (dSeq (dAsg (bName 2) (dLst (dCons (dVar 0) dNil)))
    (dSeq (dAsg (bName 3) (dC (.int 0)))
    (dSeq (dAsg (bName 4) (dDis (dVar 0) (dC (.bl true))))
    (dSeq (dWhile (dTr (dBin fNinS (dVar 1) (dVar 2))) S_turn 30)
    (dRet (dVar 3)))))) := rfl
section
variable {f : Nat → SV} {N : Nat} {m0 : Mu} {oi mi li : Nat} {orders : List (List Nat)} {fin : FS}
theorem range_drop {n t : Nat} (h : t < n) : (List.range n).drop t = t :: (List.range n).drop (t + 1) := drop_cons (by simp [h])
def JTo (f : Nat → SV) (N : Nat) (m0 : Mu) (oi mi li : Nat) (orders : List (List Nat)) (fin : FS) (R : List (List Nat)) (o : List Nat) (a : Nat) (x0 x1 x2 x3 : Option SV) (t : Nat) (e : En) (m' : Mu) : Prop := FJ f N m0 oi mi li orders fin (((List.range o.length).drop t).map (cand o a) ++ R) m' ∧
  ∃ u v, e = [x0, x1, x2, x3, some (.ref mi), some (.ref li), some (tL f o), some (.int a), some (tL f (o.eraseIdx a)), u, v]
theorem w_to {R : List (List Nat)} {m : Mu} {o : List Nat} {a : Nat} {x0 x1 x2 x3 x9 x10 : Option SV} {Q : Out → Mu → Prop} (hf : NumL f N) (h1 : m0.length ≤ mi) (h2 : m0.length ≤ li) (hd : mi ≠ li) (hd1 : oi ≠ mi) (hd2 : oi ≠ li) (hfin : fin.1.length ≤ 900) (ho : Sm N o) (hol : o.length ≤ 30)
    (h : FJ f N m0 oi mi li orders fin (mvs o o.length a ++ R) m) (q : ∀ m' u v, FJ f N m0 oi mi li orders fin R m' → Q (.nx [x0, x1, x2, x3, some (.ref mi), some (.ref li), some (tL f o), some (.int a), some (tL f (o.eraseIdx a)), u, v]) m') :
    Wp (S_to [x0, x1, x2, x3, some (.ref mi), some (.ref li), some (tL f o), some (.int a), some (tL f (o.eraseIdx a)), x9, x10] m) Q := by
  unfold S_to
  have e0 : fLen [tL f o] m = some (.int o.length, m) := by simp [tL]
  simp -implicitDefEqProofs [e0, rOk_nat (n := o.length) (by omega)]
  refine wp_for (JTo f N m0 oi mi li orders fin R o a x0 x1 x2 x3) ⟨by simpa [mvs] using h, _, _, rfl⟩ (fun t z e m' hz I => ?_) fun e m' I => ?_
  · obtain ⟨hJ, u, v, rfl⟩ := I
    have hlt : t < o.length := by
      have := (List.getElem?_eq_some_iff.mp hz).1
      rwa [intsV_len] at this
    rw [intsV_get hlt] at hz
    cases hz
    rw [range_drop hlt, List.map_cons, List.cons_append] at hJ
    refine ⟨_, rfl, ?_⟩
    rw [show ((0 : Int) + (t : Int)) = (t : Int) by omega]
    exact w_in hf h1 h2 hd hd1 hd2 hfin ho hol hJ fun m' hJ' => ⟨hJ', _, _, rfl⟩
  · obtain ⟨hJ, u, v, rfl⟩ := I
    rw [intsV_len, List.drop_of_length_le (by simp)] at hJ
    exact q m' u v hJ
def JAt (f : Nat → SV) (N : Nat) (m0 : Mu) (oi mi li : Nat) (orders : List (List Nat)) (fin : FS) (R : List (List Nat)) (o : List Nat) (x0 x1 x2 x3 : Option SV) (a : Nat) (e : En) (m' : Mu) : Prop := FJ f N m0 oi mi li orders fin (((List.range o.length).drop a).flatMap (mvs o o.length) ++ R) m' ∧
  ∃ u v w x, e = [x0, x1, x2, x3, some (.ref mi), some (.ref li), some (tL f o), u, v, w, x]
theorem w_at {R : List (List Nat)} {m : Mu} {o : List Nat} {x0 x1 x2 x3 x7 x8 x9 x10 : Option SV} {Q : Out → Mu → Prop} (hf : NumL f N) (h1 : m0.length ≤ mi) (h2 : m0.length ≤ li) (hd : mi ≠ li) (hd1 : oi ≠ mi) (hd2 : oi ≠ li) (hfin : fin.1.length ≤ 900) (ho : Sm N o) (hol : o.length ≤ 30)
    (h : FJ f N m0 oi mi li orders fin (moves o ++ R) m) (q : ∀ m' u v w x, FJ f N m0 oi mi li orders fin R m' → Q (.nx [x0, x1, x2, x3, some (.ref mi), some (.ref li), some (tL f o), u, v, w, x]) m') :
    Wp (S_at [x0, x1, x2, x3, some (.ref mi), some (.ref li), some (tL f o), x7, x8, x9, x10] m) Q := by
  unfold S_at
  have e0 : fLen [tL f o] m = some (.int o.length, m) := by simp [tL]
  simp -implicitDefEqProofs [e0, rOk_nat (n := o.length) (by omega)]
  refine wp_for (JAt f N m0 oi mi li orders fin R o x0 x1 x2 x3) ⟨by simpa [moves] using h, _, _, _, _, rfl⟩ (fun a z e m' hz I => ?_) fun e m' I => ?_
  · obtain ⟨hJ, u, v, w, x, rfl⟩ := I
    have hlt : a < o.length := by
      have := (List.getElem?_eq_some_iff.mp hz).1
      rwa [intsV_len] at this
    rw [intsV_get hlt] at hz
    cases hz
    rw [range_drop hlt, List.flatMap_cons, List.append_assoc] at hJ
    refine ⟨_, rfl, ?_⟩
    rw [show ((0 : Int) + (a : Int)) = (a : Int) by omega]
    have er : tL f (o.eraseIdx a) = .tup ((o.map f).take a ++ (o.map f).drop (a + 1)) := by
      simp [tL, List.eraseIdx_eq_take_drop_succ, List.map_take, List.map_drop]
    have step1 : Wp (dAsg (bName 8) (dBin fAdd (dSlice (dVar 6) dNoP (dPart (dVar 7))) (dSlice (dVar 6) (dPart (dBin fAdd (dVar 7) (dC (.int 1)))) dNoP)) [x0, x1, x2, x3, some (.ref mi), some (.ref li), some (tL f o), some (.int a), v, w, x] m') fun o' m2 => o' = .nx [x0, x1, x2, x3, some (.ref mi), some (.ref li), some (tL f o), some (.int a), some (tL f (o.eraseIdx a)), w, x] ∧ m2 = m' := by
      rw [er]
      unfold tL
      simp -implicitDefEqProofs
      rw [if_pos (by omega)]
      simp
    rw [show ([x0, x1, x2, x3, some (.ref mi), some (.ref li), some (tL f o), u, v, w, x].set 7 (some (SV.int (a : Int)))) = [x0, x1, x2, x3, some (.ref mi), some (.ref li), some (tL f o), some (.int a), v, w, x] from rfl]
    rw [q_seq, wp_bind]
    refine wp_mono step1 fun o' m2 ⟨a1, a2⟩ => ?_
    subst a1 a2
    exact w_to hf h1 h2 hd hd1 hd2 hfin ho hol hJ fun m' u v hJ' => ⟨hJ', _, _, _, _, rfl⟩
  · obtain ⟨hJ, u, v, w, x, rfl⟩ := I
    rw [intsV_len, List.drop_of_length_le (by simp)] at hJ
    exact q m' u v w x hJ
def JOr (f : Nat → SV) (N : Nat) (m0 : Mu) (oi mi li : Nat) (orders : List (List Nat)) (fin : FS) (x0 x1 x3 : Option SV) (i : Nat) (e : En) (m' : Mu) : Prop := FJ f N m0 oi mi li orders fin ((orders.drop i).flatMap moves) m' ∧
  ∃ y u v w x, e = [x0, x1, some (.ref oi), x3, some (.ref mi), some (.ref li), y, u, v, w, x]
theorem w_ord {m : Mu} {x0 x1 x3 x6 x7 x8 x9 x10 : Option SV} {Q : Out → Mu → Prop} (hf : NumL f N) (h1 : m0.length ≤ mi) (h2 : m0.length ≤ li) (hd : mi ≠ li) (hd1 : oi ≠ mi) (hd2 : oi ≠ li) (hfin : fin.1.length ≤ 900) (ho : ∀ o ∈ orders, Sm N o ∧ o.length ≤ 30)
    (h : FJ f N m0 oi mi li orders fin (orders.flatMap moves) m) (q : ∀ m' y u v w x, FJ f N m0 oi mi li orders fin [] m' → Q (.nx [x0, x1, some (.ref oi), x3, some (.ref mi), some (.ref li), y, u, v, w, x]) m') :
    Wp (S_ord [x0, x1, some (.ref oi), x3, some (.ref mi), some (.ref li), x6, x7, x8, x9, x10] m) Q := by
  unfold S_ord
  simp -implicitDefEqProofs [h.ord]
  have hl : orders.length = (orders.map (tL f)).length := by simp
  rw [hl]
  refine wp_forL (JOr f N m0 oi mi li orders fin x0 x1 x3) (fun i e m' I => I.1.ord) ⟨by simpa using h, _, _, _, _, _, rfl⟩ (fun i z e m' hz I => ?_) fun e m' I => ?_
  · obtain ⟨hJ, y, u, v, w, x, rfl⟩ := I
    rw [List.getElem?_map] at hz
    obtain ⟨o, hoo, rfl⟩ := Option.map_eq_some_iff.mp hz
    obtain ⟨b1, b2⟩ := ho o (List.mem_of_getElem? hoo)
    rw [drop_cons hoo, List.flatMap_cons] at hJ
    refine ⟨_, rfl, ?_⟩
    exact w_at hf h1 h2 hd hd1 hd2 hfin b1 b2 hJ fun m' u v w x hJ' => ⟨hJ', _, _, _, _, _, rfl⟩
  · obtain ⟨hJ, y, u, v, w, x, rfl⟩ := I
    rw [List.length_map, List.drop_of_length_le (Nat.le_refl _)] at hJ
    exact q m' y u v w x hJ
end
/-- between the turns -/
def JW (f : Nat → SV) (N : Nat) (m0 : Mu) (b e0 : List Nat) (K : Nat) (c : Nat) (e : En) (m' : Mu) : Prop := ∃ k oi mi, k + c = K ∧ m0.length ≤ oi ∧ m0.length ≤ mi ∧ oi ≠ mi ∧ Pre m0 m' ∧ m'[oi]? = some (.lst ((lv b k).1.map (tL f))) ∧ m'[mi]? = some (.dN (kvM f (lv b k).2)) ∧
  ∃ x5 y u v w x, e = [some (tL f b), some (tL f e0), some (.ref oi), some (.int k), some (.ref mi), x5, y, u, v, w, x]
theorem foldF_all {P : List Nat → Prop} {xs : List (List Nat)} (hx : ∀ x ∈ xs, P x) : ∀ s : FS, (∀ o ∈ s.1, P o) → (∀ o ∈ s.2, P o) → (∀ o ∈ (foldF s xs).1, P o) ∧ ∀ o ∈ (foldF s xs).2, P o := by
  induction xs with
  | nil => exact fun s h1 h2 => ⟨h1, h2⟩
  | cons x xs ih =>
    intro s h1 h2
    rw [foldF_cons]
    have hxx := hx x (by simp)
    refine ih (fun y hy => hx y (by simp [hy])) _ ?_ ?_
    · unfold addF
      split
      · exact h1
      · intro o ho
        rcases List.mem_append.mp ho with ho | ho
        · exact h1 o ho
        · simp at ho
          subst ho
          exact hxx
    · unfold addF
      split
      · exact h2
      · intro o ho
        rcases List.mem_append.mp ho with ho | ho
        · exact h2 o ho
        · simp at ho
          subst ho
          exact hxx
theorem cand_len {o : List Nat} {a t : Nat} (ha : a < o.length) : (cand o a t).length = o.length := by
  unfold cand
  simp only [List.length_append, List.length_take, List.length_drop, List.length_eraseIdx, ha, if_true]
  omega
theorem moves_ok {N L : Nat} {o : List Nat} (h : Sm N o ∧ o.length = L) : ∀ x ∈ moves o, Sm N x ∧ x.length = L := by
  intro x hx
  obtain ⟨a, ha, hx⟩ := List.mem_flatMap.mp hx
  obtain ⟨t, ht, rfl⟩ := List.mem_map.mp hx
  exact ⟨sm_cand h.1, (cand_len (by simpa using ha)).trans h.2⟩
theorem lv_ok {N : Nat} {b : List Nat} (hb : Sm N b) : ∀ k, (∀ o ∈ (lv b k).1, Sm N o ∧ o.length = b.length) ∧ ∀ o ∈ (lv b k).2, Sm N o ∧ o.length = b.length
  | 0 => ⟨fun o ho => by simp [lv] at ho; subst ho; exact ⟨hb, rfl⟩, fun o ho => by simp [lv] at ho; subst ho; exact ⟨hb, rfl⟩⟩
  | k + 1 => by
    obtain ⟨h1, h2⟩ := lv_ok hb k
    have := foldF_all (P := fun o => Sm N o ∧ o.length = b.length) (xs := (lv b k).1.flatMap moves) (fun x hx => by
      obtain ⟨o, ho, hx⟩ := List.mem_flatMap.mp hx
      exact moves_ok (h1 o ho) x hx) ((lv b k).2, []) h2 (fun o ho => by cases ho)
    exact ⟨this.2, this.1⟩
end VW

/-! viewwood k93, the plain law: the fewest moves, the walk. -/
namespace VW
open PySem PySem.Spec PyProof.Rows L2
theorem w_fewest {f : Nat → SV} {N K : Nat} {b e0 : List Nat} {m : Mu} {Q : SV → Mu → Prop} (hf : NumL f N) (hb : Sm N b) (he : Sm N e0) (hbl : b.length ≤ 30) (hel : e0.length ≤ 30) (hK : K < 30) (hin : e0 ∈ (lv b K).1) (hno : ∀ j < K, e0 ∉ (lv b j).1) (hlen : ∀ j ≤ K, (lv b j).2.length ≤ 900)
    (q : ∀ m', Pre m m' → Q (.int K) m') : Wp (F_law_fewest [.tup (b.map f), .tup (e0.map f)] m) Q := by
  have pb := pl_tL hf hb
  have pe := pl_tL hf he
  have kb := key_tL hf hb
  have eb : SV.tup (b.map f) = tL f b := rfl
  have ee : SV.tup (e0.map f) = tL f e0 := rfl
  rw [eb, ee]
  simp -implicitDefEqProofs [F_law_fewest, fewest_eq, dDis, kb]
  refine wp_mono (wp_while (Q := fun o m' => ∃ x2 x4 x5 y u v w x, o = .nx [some (tL f b), some (tL f e0), x2, some (.int K), x4, x5, y, u, v, w, x] ∧ Pre m m') (JW f N m b e0 K) (fun r m' I => ?_) (fun c r m' I => ?_) 30 K _ _ hK ⟨0, m.length, m.length + 1, by omega, Nat.le_refl _, by omega, by omega, ?_, ?_, ?_, _, _, _, _, _, _, rfl⟩) fun o m' Io => ?_
  · obtain ⟨k, oi, mi, h1, h2, h3, h4, h5, h6, h7, x5, y, u, v, w, x, rfl⟩ := I
    have hk : k = K := by omega
    subst hk
    have hsm := (lv_ok hb k).1
    have hmem : (tL f e0 ∈ (lv b k).1.map (tL f)) := (mem_tL hf he fun o ho => (hsm o ho).1).mpr hin
    have hpls : pls 40 ((lv b k).1.map (tL f)) = true := by
      rw [pls, List.all_eq_true]
      intro z hz
      obtain ⟨o, ho, rfl⟩ := List.mem_map.mp hz
      exact pl_le (pl_tL hf (hsm o ho).1) (by decide)
    have e1 : fNinS (tL f e0) (.ref oi) m' = some (.bl false, m') := by
      rw [fNinS_pl (ys := (lv b k).1.map (tL f)) (by simp [itemsM, h6]) (pl_le pe (by decide)) hpls]
      simp [hmem]
    simp -implicitDefEqProofs [e1]
    exact h5
  · obtain ⟨k, oi, mi, h1, h2, h3, h4, h5, h6, h7, x5, y, u, v, w, x, rfl⟩ := I
    have hkK : k < K := by omega
    have hsm := (lv_ok hb k).1
    have hsm2 := (lv_ok hb k).2
    have hmem : ¬ (tL f e0 ∈ (lv b k).1.map (tL f)) := fun z => hno k hkK ((mem_tL hf he fun o ho => (hsm o ho).1).mp z)
    have hpls : pls 40 ((lv b k).1.map (tL f)) = true := by
      rw [pls, List.all_eq_true]
      intro z hz
      obtain ⟨o, ho, rfl⟩ := List.mem_map.mp hz
      exact pl_le (pl_tL hf (hsm o ho).1) (by decide)
    have e1 : fNinS (tL f e0) (.ref oi) m' = some (.bl true, m') := by
      rw [fNinS_pl (ys := (lv b k).1.map (tL f)) (by simp [itemsM, h6]) (pl_le pe (by decide)) hpls]
      simp [hmem]
    have ho1 := lt_of_get h6
    have hm1 := lt_of_get h7
    simp -implicitDefEqProofs [e1]
    unfold S_turn
    simp -implicitDefEqProofs
    refine w_ord (m0 := m) (fin := foldF ((lv b k).2, []) ((lv b k).1.flatMap moves)) (orders := (lv b k).1) hf h3 (Nat.le_of_lt (Nat.lt_of_le_of_lt h2 ho1)) (by omega) h4 (by omega) (hlen (k + 1) hkK) (fun o ho => ⟨(hsm o ho).1, by rw [(hsm o ho).2]; exact hbl⟩) ⟨⟨(lv b k).2, [], rfl, Pre.app.get h7, by simp, by simp, fun o ho => (hsm2 o ho).1, fun o ho => by cases ho⟩, Pre.app.get h6, h5.tr .app⟩ fun m2 y u v w x hJ => ?_
    obtain ⟨⟨met, later, a1, a2, a3, a4, a5, a6⟩, a7, a8⟩ := hJ
    have a1 : (met, later) = foldF ((lv b k).2, []) ((lv b k).1.flatMap moves) := a1
    have b1 : met = (lv b (k + 1)).2 := congrArg (fun z : FS => z.1) a1
    have b2 : later = (lv b (k + 1)).1 := congrArg (fun z : FS => z.2) a1
    rw [b1] at a2
    rw [b2] at a3
    simp -implicitDefEqProofs
    exact ⟨k + 1, m'.length, mi, by omega, Nat.le_of_lt (Nat.lt_of_le_of_lt h2 ho1), h3, by omega, a8, a3, a2, some (.ref m'.length), y, u, v, w, x, by simp⟩
  · exact Pre.app.tr (by simp; exact Pre.refl)
  · simp [lv]
  · simp [lv, kvM]
  · obtain ⟨x2, x4, x5, y, u, v, w, x, rfl, hp⟩ := Io
    simp -implicitDefEqProofs
    exact q m' hp
end VW

set_option maxHeartbeats 0
/-! viewwood k93: printed by genk.py: orders of up to five, all gone through. -/
namespace VW
def stepL (s : FS) : FS := ((foldF (s.2, []) (s.1.flatMap moves)).2, (foldF (s.2, []) (s.1.flatMap moves)).1)
theorem lv_succ (b : List Nat) (k : Nat) : lv b (k + 1) = stepL (lv b k) := rfl
def a0_0 : List (List Nat) := [[]]
def m0_0 : List (List Nat) := [[]]
theorem lv0_0 : lv [] 0 = (a0_0, m0_0) := rfl
def a1_0 : List (List Nat) := [[0]]
def m1_0 : List (List Nat) := [[0]]
theorem lv1_0 : lv [0] 0 = (a1_0, m1_0) := rfl
def a2_0 : List (List Nat) := [[0, 1]]
def m2_0 : List (List Nat) := [[0, 1]]
theorem lv2_0 : lv [0, 1] 0 = (a2_0, m2_0) := rfl
def a2_1 : List (List Nat) := [[1, 0]]
def m2_1 : List (List Nat) := [[0, 1], [1, 0]]
theorem lv2_1 : lv [0, 1] 1 = (a2_1, m2_1) := by
  rw [lv_succ, lv2_0]
  decide +kernel
def a3_0 : List (List Nat) := [[0, 1, 2]]
def m3_0 : List (List Nat) := [[0, 1, 2]]
theorem lv3_0 : lv [0, 1, 2] 0 = (a3_0, m3_0) := rfl
def a3_1 : List (List Nat) := [[1, 0, 2], [1, 2, 0], [0, 2, 1], [2, 0, 1]]
def m3_1 : List (List Nat) := [[0, 1, 2], [1, 0, 2], [1, 2, 0], [0, 2, 1], [2, 0, 1]]
theorem lv3_1 : lv [0, 1, 2] 1 = (a3_1, m3_1) := by
  rw [lv_succ, lv3_0]
  decide +kernel
def a3_2 : List (List Nat) := [[2, 1, 0]]
def m3_2 : List (List Nat) := [[0, 1, 2], [1, 0, 2], [1, 2, 0], [0, 2, 1], [2, 0, 1], [2, 1, 0]]
theorem lv3_2 : lv [0, 1, 2] 2 = (a3_2, m3_2) := by
  rw [lv_succ, lv3_1]
  decide +kernel
def a4_0 : List (List Nat) := [[0, 1, 2, 3]]
def m4_0 : List (List Nat) := [[0, 1, 2, 3]]
theorem lv4_0 : lv [0, 1, 2, 3] 0 = (a4_0, m4_0) := rfl
def a4_1 : List (List Nat) := [[1, 0, 2, 3], [1, 2, 0, 3], [1, 2, 3, 0], [0, 2, 1, 3], [0, 2, 3, 1], [2, 0, 1, 3], [0, 1, 3, 2], [3, 0, 1, 2], [0, 3, 1, 2]]
def m4_1 : List (List Nat) := [[0, 1, 2, 3], [1, 0, 2, 3], [1, 2, 0, 3], [1, 2, 3, 0], [0, 2, 1, 3], [0, 2, 3, 1], [2, 0, 1, 3], [0, 1, 3, 2], [3, 0, 1, 2], [0, 3, 1, 2]]
theorem lv4_1 : lv [0, 1, 2, 3] 1 = (a4_1, m4_1) := by
  rw [lv_succ, lv4_0]
  decide +kernel
def a4_2 : List (List Nat) := [[2, 1, 0, 3], [1, 0, 3, 2], [3, 1, 0, 2], [1, 3, 0, 2], [2, 0, 3, 1], [3, 1, 2, 0], [1, 3, 2, 0], [2, 1, 3, 0], [2, 3, 1, 0], [2, 3, 0, 1], [3, 0, 2, 1], [0, 3, 2, 1], [3, 2, 0, 1]]
def m4_2 : List (List Nat) := [[0, 1, 2, 3], [1, 0, 2, 3], [1, 2, 0, 3], [1, 2, 3, 0], [0, 2, 1, 3], [0, 2, 3, 1], [2, 0, 1, 3], [0, 1, 3, 2], [3, 0, 1, 2], [0, 3, 1, 2], [2, 1, 0, 3], [1, 0, 3, 2], [3, 1, 0, 2], [1, 3, 0, 2], [2, 0, 3, 1], [3, 1, 2, 0], [1, 3, 2, 0], [2, 1, 3, 0], [2, 3, 1, 0], [2, 3, 0, 1], [3, 0, 2, 1], [0, 3, 2, 1], [3, 2, 0, 1]]
theorem lv4_2 : lv [0, 1, 2, 3] 2 = (a4_2, m4_2) := by
  rw [lv_succ, lv4_1]
  decide +kernel
def a4_3 : List (List Nat) := [[3, 2, 1, 0]]
def m4_3 : List (List Nat) := [[0, 1, 2, 3], [1, 0, 2, 3], [1, 2, 0, 3], [1, 2, 3, 0], [0, 2, 1, 3], [0, 2, 3, 1], [2, 0, 1, 3], [0, 1, 3, 2], [3, 0, 1, 2], [0, 3, 1, 2], [2, 1, 0, 3], [1, 0, 3, 2], [3, 1, 0, 2], [1, 3, 0, 2], [2, 0, 3, 1], [3, 1, 2, 0], [1, 3, 2, 0], [2, 1, 3, 0], [2, 3, 1, 0], [2, 3, 0, 1], [3, 0, 2, 1], [0, 3, 2, 1], [3, 2, 0, 1], [3, 2, 1, 0]]
theorem lv4_3 : lv [0, 1, 2, 3] 3 = (a4_3, m4_3) := by
  rw [lv_succ, lv4_2]
  decide +kernel
def a5_0 : List (List Nat) := [[0, 1, 2, 3, 4]]
def m5_0 : List (List Nat) := [[0, 1, 2, 3, 4]]
theorem lv5_0 : lv [0, 1, 2, 3, 4] 0 = (a5_0, m5_0) := rfl
def a5_1 : List (List Nat) := [[1, 0, 2, 3, 4], [1, 2, 0, 3, 4], [1, 2, 3, 0, 4], [1, 2, 3, 4, 0], [0, 2, 1, 3, 4], [0, 2, 3, 1, 4], [0, 2, 3, 4, 1], [2, 0, 1, 3, 4], [0, 1, 3, 2, 4], [0, 1, 3, 4, 2], [3, 0, 1, 2, 4], [0, 3, 1, 2, 4], [0, 1, 2, 4, 3], [4, 0, 1, 2, 3], [0, 4, 1, 2, 3], [0, 1, 4, 2, 3]]
def m5_1 : List (List Nat) := [[0, 1, 2, 3, 4], [1, 0, 2, 3, 4], [1, 2, 0, 3, 4], [1, 2, 3, 0, 4], [1, 2, 3, 4, 0], [0, 2, 1, 3, 4], [0, 2, 3, 1, 4], [0, 2, 3, 4, 1], [2, 0, 1, 3, 4], [0, 1, 3, 2, 4], [0, 1, 3, 4, 2], [3, 0, 1, 2, 4], [0, 3, 1, 2, 4], [0, 1, 2, 4, 3], [4, 0, 1, 2, 3], [0, 4, 1, 2, 3], [0, 1, 4, 2, 3]]
theorem lv5_1 : lv [0, 1, 2, 3, 4] 1 = (a5_1, m5_1) := by
  rw [lv_succ, lv5_0]
  decide +kernel
def a5_2 : List (List Nat) := [[2, 1, 0, 3, 4], [1, 0, 3, 2, 4], [1, 0, 3, 4, 2], [3, 1, 0, 2, 4], [1, 3, 0, 2, 4], [1, 0, 2, 4, 3], [4, 1, 0, 2, 3], [1, 4, 0, 2, 3], [1, 0, 4, 2, 3], [2, 0, 3, 1, 4], [2, 0, 3, 4, 1], [3, 1, 2, 0, 4], [1, 3, 2, 0, 4], [1, 2, 0, 4, 3], [4, 1, 2, 0, 3], [1, 4, 2, 0, 3], [1, 2, 4, 0, 3], [2, 1, 3, 0, 4], [2, 3, 1, 0, 4], [2, 3, 0, 1, 4], [2, 3, 0, 4, 1], [1, 3, 0, 4, 2], [4, 1, 2, 3, 0], [1, 4, 2, 3, 0], [1, 2, 4, 3, 0], [2, 1, 3, 4, 0], [2, 3, 1, 4, 0], [2, 3, 4, 1, 0], [2, 3, 4, 0, 1], [1, 3, 2, 4, 0], [1, 3, 4, 2, 0], [1, 3, 4, 0, 2], [3, 1, 2, 4, 0], [3, 0, 2, 1, 4], [0, 3, 2, 1, 4], [0, 2, 1, 4, 3], [4, 0, 2, 1, 3], [0, 4, 2, 1, 3], [0, 2, 4, 1, 3], [0, 3, 1, 4, 2], [4, 0, 2, 3, 1], [0, 4, 2, 3, 1], [0, 2, 4, 3, 1], [0, 3, 2, 4, 1], [0, 3, 4, 2, 1], [0, 3, 4, 1, 2], [3, 0, 2, 4, 1], [3, 2, 0, 1, 4], [2, 0, 1, 4, 3], [4, 2, 0, 1, 3], [2, 4, 0, 1, 3], [2, 0, 4, 1, 3], [4, 0, 1, 3, 2], [0, 4, 1, 3, 2], [0, 1, 4, 3, 2], [3, 0, 1, 4, 2], [4, 3, 0, 1, 2], [3, 4, 0, 1, 2], [3, 0, 4, 1, 2], [4, 0, 3, 1, 2], [0, 4, 3, 1, 2]]
def m5_2 : List (List Nat) := [[0, 1, 2, 3, 4], [1, 0, 2, 3, 4], [1, 2, 0, 3, 4], [1, 2, 3, 0, 4], [1, 2, 3, 4, 0], [0, 2, 1, 3, 4], [0, 2, 3, 1, 4], [0, 2, 3, 4, 1], [2, 0, 1, 3, 4], [0, 1, 3, 2, 4], [0, 1, 3, 4, 2], [3, 0, 1, 2, 4], [0, 3, 1, 2, 4], [0, 1, 2, 4, 3], [4, 0, 1, 2, 3], [0, 4, 1, 2, 3], [0, 1, 4, 2, 3], [2, 1, 0, 3, 4], [1, 0, 3, 2, 4], [1, 0, 3, 4, 2], [3, 1, 0, 2, 4], [1, 3, 0, 2, 4], [1, 0, 2, 4, 3], [4, 1, 0, 2, 3], [1, 4, 0, 2, 3], [1, 0, 4, 2, 3], [2, 0, 3, 1, 4], [2, 0, 3, 4, 1], [3, 1, 2, 0, 4], [1, 3, 2, 0, 4], [1, 2, 0, 4, 3], [4, 1, 2, 0, 3], [1, 4, 2, 0, 3], [1, 2, 4, 0, 3], [2, 1, 3, 0, 4], [2, 3, 1, 0, 4], [2, 3, 0, 1, 4], [2, 3, 0, 4, 1], [1, 3, 0, 4, 2], [4, 1, 2, 3, 0], [1, 4, 2, 3, 0], [1, 2, 4, 3, 0], [2, 1, 3, 4, 0], [2, 3, 1, 4, 0], [2, 3, 4, 1, 0], [2, 3, 4, 0, 1], [1, 3, 2, 4, 0], [1, 3, 4, 2, 0], [1, 3, 4, 0, 2], [3, 1, 2, 4, 0], [3, 0, 2, 1, 4], [0, 3, 2, 1, 4], [0, 2, 1, 4, 3], [4, 0, 2, 1, 3], [0, 4, 2, 1, 3], [0, 2, 4, 1, 3], [0, 3, 1, 4, 2], [4, 0, 2, 3, 1], [0, 4, 2, 3, 1], [0, 2, 4, 3, 1], [0, 3, 2, 4, 1], [0, 3, 4, 2, 1], [0, 3, 4, 1, 2], [3, 0, 2, 4, 1], [3, 2, 0, 1, 4], [2, 0, 1, 4, 3], [4, 2, 0, 1, 3], [2, 4, 0, 1, 3], [2, 0, 4, 1, 3], [4, 0, 1, 3, 2], [0, 4, 1, 3, 2], [0, 1, 4, 3, 2], [3, 0, 1, 4, 2], [4, 3, 0, 1, 2], [3, 4, 0, 1, 2], [3, 0, 4, 1, 2], [4, 0, 3, 1, 2], [0, 4, 3, 1, 2]]
theorem lv5_2 : lv [0, 1, 2, 3, 4] 2 = (a5_2, m5_2) := by
  rw [lv_succ, lv5_1]
  decide +kernel
def a5_3 : List (List Nat) := [[3, 2, 1, 0, 4], [2, 1, 0, 4, 3], [4, 2, 1, 0, 3], [2, 4, 1, 0, 3], [2, 1, 4, 0, 3], [4, 1, 0, 3, 2], [1, 4, 0, 3, 2], [1, 0, 4, 3, 2], [3, 1, 0, 4, 2], [4, 3, 1, 0, 2], [3, 4, 1, 0, 2], [3, 1, 4, 0, 2], [4, 1, 3, 0, 2], [1, 4, 3, 0, 2], [4, 2, 0, 3, 1], [2, 4, 0, 3, 1], [2, 0, 4, 3, 1], [3, 2, 0, 4, 1], [4, 3, 1, 2, 0], [3, 4, 1, 2, 0], [3, 1, 4, 2, 0], [4, 1, 3, 2, 0], [1, 4, 3, 2, 0], [4, 2, 1, 3, 0], [2, 4, 1, 3, 0], [2, 1, 4, 3, 0], [4, 2, 3, 1, 0], [2, 4, 3, 1, 0], [4, 2, 3, 0, 1], [2, 4, 3, 0, 1], [3, 0, 4, 2, 1], [3, 2, 1, 4, 0], [3, 2, 4, 1, 0], [3, 4, 2, 1, 0], [3, 2, 4, 0, 1], [3, 4, 2, 0, 1], [3, 4, 0, 2, 1], [4, 3, 0, 2, 1], [4, 0, 3, 2, 1], [0, 4, 3, 2, 1], [4, 3, 2, 0, 1]]
def m5_3 : List (List Nat) := [[0, 1, 2, 3, 4], [1, 0, 2, 3, 4], [1, 2, 0, 3, 4], [1, 2, 3, 0, 4], [1, 2, 3, 4, 0], [0, 2, 1, 3, 4], [0, 2, 3, 1, 4], [0, 2, 3, 4, 1], [2, 0, 1, 3, 4], [0, 1, 3, 2, 4], [0, 1, 3, 4, 2], [3, 0, 1, 2, 4], [0, 3, 1, 2, 4], [0, 1, 2, 4, 3], [4, 0, 1, 2, 3], [0, 4, 1, 2, 3], [0, 1, 4, 2, 3], [2, 1, 0, 3, 4], [1, 0, 3, 2, 4], [1, 0, 3, 4, 2], [3, 1, 0, 2, 4], [1, 3, 0, 2, 4], [1, 0, 2, 4, 3], [4, 1, 0, 2, 3], [1, 4, 0, 2, 3], [1, 0, 4, 2, 3], [2, 0, 3, 1, 4], [2, 0, 3, 4, 1], [3, 1, 2, 0, 4], [1, 3, 2, 0, 4], [1, 2, 0, 4, 3], [4, 1, 2, 0, 3], [1, 4, 2, 0, 3], [1, 2, 4, 0, 3], [2, 1, 3, 0, 4], [2, 3, 1, 0, 4], [2, 3, 0, 1, 4], [2, 3, 0, 4, 1], [1, 3, 0, 4, 2], [4, 1, 2, 3, 0], [1, 4, 2, 3, 0], [1, 2, 4, 3, 0], [2, 1, 3, 4, 0], [2, 3, 1, 4, 0], [2, 3, 4, 1, 0], [2, 3, 4, 0, 1], [1, 3, 2, 4, 0], [1, 3, 4, 2, 0], [1, 3, 4, 0, 2], [3, 1, 2, 4, 0], [3, 0, 2, 1, 4], [0, 3, 2, 1, 4], [0, 2, 1, 4, 3], [4, 0, 2, 1, 3], [0, 4, 2, 1, 3], [0, 2, 4, 1, 3], [0, 3, 1, 4, 2], [4, 0, 2, 3, 1], [0, 4, 2, 3, 1], [0, 2, 4, 3, 1], [0, 3, 2, 4, 1], [0, 3, 4, 2, 1], [0, 3, 4, 1, 2], [3, 0, 2, 4, 1], [3, 2, 0, 1, 4], [2, 0, 1, 4, 3], [4, 2, 0, 1, 3], [2, 4, 0, 1, 3], [2, 0, 4, 1, 3], [4, 0, 1, 3, 2], [0, 4, 1, 3, 2], [0, 1, 4, 3, 2], [3, 0, 1, 4, 2], [4, 3, 0, 1, 2], [3, 4, 0, 1, 2], [3, 0, 4, 1, 2], [4, 0, 3, 1, 2], [0, 4, 3, 1, 2], [3, 2, 1, 0, 4], [2, 1, 0, 4, 3], [4, 2, 1, 0, 3], [2, 4, 1, 0, 3], [2, 1, 4, 0, 3], [4, 1, 0, 3, 2], [1, 4, 0, 3, 2], [1, 0, 4, 3, 2], [3, 1, 0, 4, 2], [4, 3, 1, 0, 2], [3, 4, 1, 0, 2], [3, 1, 4, 0, 2], [4, 1, 3, 0, 2], [1, 4, 3, 0, 2], [4, 2, 0, 3, 1], [2, 4, 0, 3, 1], [2, 0, 4, 3, 1], [3, 2, 0, 4, 1], [4, 3, 1, 2, 0], [3, 4, 1, 2, 0], [3, 1, 4, 2, 0], [4, 1, 3, 2, 0], [1, 4, 3, 2, 0], [4, 2, 1, 3, 0], [2, 4, 1, 3, 0], [2, 1, 4, 3, 0], [4, 2, 3, 1, 0], [2, 4, 3, 1, 0], [4, 2, 3, 0, 1], [2, 4, 3, 0, 1], [3, 0, 4, 2, 1], [3, 2, 1, 4, 0], [3, 2, 4, 1, 0], [3, 4, 2, 1, 0], [3, 2, 4, 0, 1], [3, 4, 2, 0, 1], [3, 4, 0, 2, 1], [4, 3, 0, 2, 1], [4, 0, 3, 2, 1], [0, 4, 3, 2, 1], [4, 3, 2, 0, 1]]
theorem lv5_3 : lv [0, 1, 2, 3, 4] 3 = (a5_3, m5_3) := by
  rw [lv_succ, lv5_2]
  decide +kernel
def a5_4 : List (List Nat) := [[4, 3, 2, 1, 0]]
def m5_4 : List (List Nat) := [[0, 1, 2, 3, 4], [1, 0, 2, 3, 4], [1, 2, 0, 3, 4], [1, 2, 3, 0, 4], [1, 2, 3, 4, 0], [0, 2, 1, 3, 4], [0, 2, 3, 1, 4], [0, 2, 3, 4, 1], [2, 0, 1, 3, 4], [0, 1, 3, 2, 4], [0, 1, 3, 4, 2], [3, 0, 1, 2, 4], [0, 3, 1, 2, 4], [0, 1, 2, 4, 3], [4, 0, 1, 2, 3], [0, 4, 1, 2, 3], [0, 1, 4, 2, 3], [2, 1, 0, 3, 4], [1, 0, 3, 2, 4], [1, 0, 3, 4, 2], [3, 1, 0, 2, 4], [1, 3, 0, 2, 4], [1, 0, 2, 4, 3], [4, 1, 0, 2, 3], [1, 4, 0, 2, 3], [1, 0, 4, 2, 3], [2, 0, 3, 1, 4], [2, 0, 3, 4, 1], [3, 1, 2, 0, 4], [1, 3, 2, 0, 4], [1, 2, 0, 4, 3], [4, 1, 2, 0, 3], [1, 4, 2, 0, 3], [1, 2, 4, 0, 3], [2, 1, 3, 0, 4], [2, 3, 1, 0, 4], [2, 3, 0, 1, 4], [2, 3, 0, 4, 1], [1, 3, 0, 4, 2], [4, 1, 2, 3, 0], [1, 4, 2, 3, 0], [1, 2, 4, 3, 0], [2, 1, 3, 4, 0], [2, 3, 1, 4, 0], [2, 3, 4, 1, 0], [2, 3, 4, 0, 1], [1, 3, 2, 4, 0], [1, 3, 4, 2, 0], [1, 3, 4, 0, 2], [3, 1, 2, 4, 0], [3, 0, 2, 1, 4], [0, 3, 2, 1, 4], [0, 2, 1, 4, 3], [4, 0, 2, 1, 3], [0, 4, 2, 1, 3], [0, 2, 4, 1, 3], [0, 3, 1, 4, 2], [4, 0, 2, 3, 1], [0, 4, 2, 3, 1], [0, 2, 4, 3, 1], [0, 3, 2, 4, 1], [0, 3, 4, 2, 1], [0, 3, 4, 1, 2], [3, 0, 2, 4, 1], [3, 2, 0, 1, 4], [2, 0, 1, 4, 3], [4, 2, 0, 1, 3], [2, 4, 0, 1, 3], [2, 0, 4, 1, 3], [4, 0, 1, 3, 2], [0, 4, 1, 3, 2], [0, 1, 4, 3, 2], [3, 0, 1, 4, 2], [4, 3, 0, 1, 2], [3, 4, 0, 1, 2], [3, 0, 4, 1, 2], [4, 0, 3, 1, 2], [0, 4, 3, 1, 2], [3, 2, 1, 0, 4], [2, 1, 0, 4, 3], [4, 2, 1, 0, 3], [2, 4, 1, 0, 3], [2, 1, 4, 0, 3], [4, 1, 0, 3, 2], [1, 4, 0, 3, 2], [1, 0, 4, 3, 2], [3, 1, 0, 4, 2], [4, 3, 1, 0, 2], [3, 4, 1, 0, 2], [3, 1, 4, 0, 2], [4, 1, 3, 0, 2], [1, 4, 3, 0, 2], [4, 2, 0, 3, 1], [2, 4, 0, 3, 1], [2, 0, 4, 3, 1], [3, 2, 0, 4, 1], [4, 3, 1, 2, 0], [3, 4, 1, 2, 0], [3, 1, 4, 2, 0], [4, 1, 3, 2, 0], [1, 4, 3, 2, 0], [4, 2, 1, 3, 0], [2, 4, 1, 3, 0], [2, 1, 4, 3, 0], [4, 2, 3, 1, 0], [2, 4, 3, 1, 0], [4, 2, 3, 0, 1], [2, 4, 3, 0, 1], [3, 0, 4, 2, 1], [3, 2, 1, 4, 0], [3, 2, 4, 1, 0], [3, 4, 2, 1, 0], [3, 2, 4, 0, 1], [3, 4, 2, 0, 1], [3, 4, 0, 2, 1], [4, 3, 0, 2, 1], [4, 0, 3, 2, 1], [0, 4, 3, 2, 1], [4, 3, 2, 0, 1], [4, 3, 2, 1, 0]]
theorem lv5_4 : lv [0, 1, 2, 3, 4] 4 = (a5_4, m5_4) := by
  rw [lv_succ, lv5_3]
  decide +kernel
end VW

set_option maxHeartbeats 0
/-! viewwood k93, the plain law: each order of up to five. -/
namespace VW
def goN (A B : List Nat) (fal : Bool) : List Nat → Bool
  | x :: y :: r => decide (posN A x < posN A y) && (if fal = true then decide (posN B y < posN B x) else decide (posN B x < posN B y)) && goN A B fal (y :: r)
  | _ => true
def inN (A B xs : List Nat) : Bool := xs.all fun x => A.contains x && B.contains x
def condN (A B st : List Nat) (fl : List (List Nat)) : Bool :=
  inN A B st && (decide (st.length = fl.length) && (goN A B false st && (fl.all (fun p => !p.isEmpty && (decide (p.length ≤ 50) && (inN A B p && goN A B true p))) && (decide fl.flatten.Nodup && (decide (fl.flatten.length = A.length) && (decide (st.length ≤ A.length) && (decide (A.filter (fun x => decide (x ∈ st)) = st) && decide (B.filter (fun x => decide (x ∈ st)) = st))))))))
def chk (n : Nat) (p : List Nat) (ls : List (List (List Nat))) : Bool := match rowN (List.range n) p with
  | some (st, fl) => condN (List.range n) p st fl && ((match ls[n - st.length]? with
    | some l => l.contains p
    | none => false) && (ls.take (n - st.length)).all fun l => !l.contains p)
  | none => false
def seqs (n : Nat) : Nat → List (List Nat)
  | 0 => [[]]
  | k + 1 => (seqs n k).flatMap fun s => (List.range n).map fun x => x :: s
theorem mem_seqs {n : Nat} : ∀ {s : List Nat}, (∀ x ∈ s, x < n) → s ∈ seqs n s.length
  | [], _ => by simp [seqs]
  | x :: s, h => by
    simp only [seqs, List.length_cons]
    exact List.mem_flatMap.mpr ⟨s, mem_seqs fun y hy => h y (by simp [hy]), List.mem_map.mpr ⟨x, by simpa using h x (by simp), rfl⟩⟩
def chks (n : Nat) (ls : List (List (List Nat))) : Bool := (seqs n n).all fun p => !decide p.Nodup || chk n p ls
theorem chk0 : chks 0 [a0_0] = true := by decide +kernel
theorem chk1 : chks 1 [a1_0] = true := by decide +kernel
theorem chk2 : chks 2 [a2_0, a2_1] = true := by decide +kernel
theorem chk3 : chks 3 [a3_0, a3_1, a3_2] = true := by decide +kernel
theorem chk4 : chks 4 [a4_0, a4_1, a4_2, a4_3] = true := by decide +kernel
theorem chk5 : chks 5 [a5_0, a5_1, a5_2, a5_3, a5_4] = true := by decide +kernel
/-- what is asked of the paper of the orders (0 .. n-1), p -/
structure Pap (n : Nat) (p st : List Nat) (fl : List (List Nat)) : Prop where
  row : rowN (List.range n) p = some (st, fl)
  cond : condN (List.range n) p st fl = true
  hin : p ∈ (lv (List.range n) (n - st.length)).1
  hno : ∀ j < n - st.length, p ∉ (lv (List.range n) j).1
  len : ∀ j ≤ n - st.length, (lv (List.range n) j).2.length ≤ 900
theorem pap_of {n : Nat} {p : List Nat} {ls : List (List (List Nat))} (hc : chks n ls = true) (hl : ∀ (k : Nat) (l : List (List Nat)), ls[k]? = some l → (lv (List.range n) k).1 = l ∧ (lv (List.range n) k).2.length ≤ 900) (hp : p.length = n) (hlt : ∀ x ∈ p, x < n) (hn : p.Nodup) : ∃ st fl, Pap n p st fl := by
  have h1 := List.all_eq_true.mp hc p (by rw [← hp]; exact mem_seqs (by rw [hp]; exact hlt))
  have h2 : chk n p ls = true := by simpa [hn] using h1
  unfold chk at h2
  split at h2
  · rename_i st fl hr
    rw [Bool.and_eq_true, Bool.and_eq_true] at h2
    obtain ⟨h3, h4, h5⟩ := h2
    split at h4
    · rename_i l hl0
      have hk := (List.getElem?_eq_some_iff.mp hl0).1
      refine ⟨st, fl, hr, h3, ?_, fun j hj => ?_, fun j hj => ?_⟩
      · rw [(hl _ l hl0).1]
        simpa using h4
      · have hjl : ls[j]? = some ls[j] := List.getElem?_eq_getElem (by omega)
        have h6 := List.all_eq_true.mp h5 ls[j] (by
          rw [List.mem_take_iff_getElem]
          exact ⟨j, by omega, rfl⟩)
        rw [(hl j _ hjl).1]
        simpa using h6
      · exact (hl j _ (List.getElem?_eq_getElem (by omega))).2
    · cases h4
  · cases h2
theorem pap_any {n : Nat} {p : List Nat} (h5 : n ≤ 5) (hp : p.length = n) (hlt : ∀ x ∈ p, x < n) (hn : p.Nodup) : ∃ st fl, Pap n p st fl := by
  match n, h5 with
  | 0, _ => exact pap_of chk0 (fun k l h => by
      match k, h with
      | 0, h => cases h; rw [show List.range 0 = [] from rfl, lv0_0]; exact ⟨rfl, by decide +kernel⟩) hp hlt hn
  | 1, _ => exact pap_of chk1 (fun k l h => by
      match k, h with
      | 0, h => cases h; rw [show List.range 1 = [0] from rfl, lv1_0]; exact ⟨rfl, by decide +kernel⟩) hp hlt hn
  | 2, _ => exact pap_of chk2 (fun k l h => by
      match k, h with
      | 0, h => cases h; rw [show List.range 2 = [0, 1] from rfl, lv2_0]; exact ⟨rfl, by decide +kernel⟩
      | 1, h => cases h; rw [show List.range 2 = [0, 1] from rfl, lv2_1]; exact ⟨rfl, by decide +kernel⟩) hp hlt hn
  | 3, _ => exact pap_of chk3 (fun k l h => by
      match k, h with
      | 0, h => cases h; rw [show List.range 3 = [0, 1, 2] from rfl, lv3_0]; exact ⟨rfl, by decide +kernel⟩
      | 1, h => cases h; rw [show List.range 3 = [0, 1, 2] from rfl, lv3_1]; exact ⟨rfl, by decide +kernel⟩
      | 2, h => cases h; rw [show List.range 3 = [0, 1, 2] from rfl, lv3_2]; exact ⟨rfl, by decide +kernel⟩) hp hlt hn
  | 4, _ => exact pap_of chk4 (fun k l h => by
      match k, h with
      | 0, h => cases h; rw [show List.range 4 = [0, 1, 2, 3] from rfl, lv4_0]; exact ⟨rfl, by decide +kernel⟩
      | 1, h => cases h; rw [show List.range 4 = [0, 1, 2, 3] from rfl, lv4_1]; exact ⟨rfl, by decide +kernel⟩
      | 2, h => cases h; rw [show List.range 4 = [0, 1, 2, 3] from rfl, lv4_2]; exact ⟨rfl, by decide +kernel⟩
      | 3, h => cases h; rw [show List.range 4 = [0, 1, 2, 3] from rfl, lv4_3]; exact ⟨rfl, by decide +kernel⟩) hp hlt hn
  | 5, _ => exact pap_of chk5 (fun k l h => by
      match k, h with
      | 0, h => cases h; rw [show List.range 5 = [0, 1, 2, 3, 4] from rfl, lv5_0]; exact ⟨rfl, by decide +kernel⟩
      | 1, h => cases h; rw [show List.range 5 = [0, 1, 2, 3, 4] from rfl, lv5_1]; exact ⟨rfl, by decide +kernel⟩
      | 2, h => cases h; rw [show List.range 5 = [0, 1, 2, 3, 4] from rfl, lv5_2]; exact ⟨rfl, by decide +kernel⟩
      | 3, h => cases h; rw [show List.range 5 = [0, 1, 2, 3, 4] from rfl, lv5_3]; exact ⟨rfl, by decide +kernel⟩
      | 4, h => cases h; rw [show List.range 5 = [0, 1, 2, 3, 4] from rfl, lv5_4]; exact ⟨rfl, by decide +kernel⟩) hp hlt hn
end VW

/-! viewwood k93, the plain law: the paper of any five labels in two orders. -/
namespace VW
open PySem PySem.Spec PyProof.Rows L2
theorem nodup_len {α : Type} [DecidableEq α] : ∀ {xs ys : List α}, xs.Nodup → (∀ x ∈ xs, x ∈ ys) → xs.length ≤ ys.length
  | [], ys, _, _ => Nat.zero_le _
  | x :: xs, ys, hn, h => by
    have hx := h x (by simp)
    rw [List.nodup_cons] at hn
    have := nodup_len (xs := xs) (ys := ys.erase x) hn.2 fun y hy => by
      rw [List.mem_erase_of_ne]
      · exact h y (by simp [hy])
      · intro e
        subst e
        exact hn.1 hy
    rw [List.length_erase_of_mem hx] at this
    have hp := List.length_pos_of_mem hx
    simp
    omega
theorem goN_ok {f : Nat → SV} {N : Nat} {A B : List Nat} {fal : Bool} (hf : NumL f N) (hA : Sm N A) (hB : Sm N B) : ∀ {xs : List Nat}, Sm N xs → goN A B fal xs = true → Goes (A.map f) (B.map f) (xs.map f) fal
  | [], _, _ => fun k x y h => by cases h
  | [x], _, _ => fun k a b h1 h2 => by
    have := (List.getElem?_eq_some_iff.mp h2).1
    simp at this
  | x :: y :: r, hx, h => fun k a b h1 h2 => by
    rw [goN, Bool.and_eq_true, Bool.and_eq_true] at h
    obtain ⟨⟨h3, h4⟩, h5⟩ := h
    cases k with
    | zero =>
      simp at h1 h2
      subst h1 h2
      have hxN := hx x (by simp)
      have hyN := hx y (by simp)
      rw [hf.pos hA hxN, hf.pos hA hyN, hf.pos hB hxN, hf.pos hB hyN]
      refine ⟨of_decide_eq_true h3, ?_⟩
      cases fal <;> simpa using h4
    | succ k => exact goN_ok hf hA hB (xs := y :: r) (fun z hz => hx z (by simp at hz ⊢; exact .inr hz)) h5 k a b (by simpa using h1) (by simpa using h2)
theorem filt_map {f : Nat → SV} {N : Nat} (hf : NumL f N) {xs st : List Nat} (hx : Sm N xs) (hs : Sm N st) : (xs.map f).filter (fun z => decide (z ∈ st.map f)) = (xs.filter fun x => decide (x ∈ st)).map f := by
  induction xs with
  | nil => rfl
  | cons x xs ih =>
    have ih := ih fun y hy => hx y (by simp [hy])
    have e : decide (f x ∈ st.map f) = decide (x ∈ st) := by simp only [hf.mem hs (hx x (by simp))]
    rw [List.map_cons, List.filter_cons, List.filter_cons, ih, e]
    split <;> simp
structure PapL (A B st : List SV) (fl : List (List SV)) : Prop where
  row : ∀ (m : Mu) (Q : SV → Mu → Prop), (∀ m', Pre m m' → Q (.tup [.tup st, .tup (fl.map SV.tup)]) m') → Wp (F_row_paper [.tup A, .tup B] m) Q
  lr : LR A B st fl
  few : ∀ (m : Mu) (Q : SV → Mu → Prop), (∀ m', Pre m m' → Q (.int ((A.length - st.length : Nat) : Int)) m') → Wp (F_law_fewest [.tup A, .tup B] m) Q
  le : st.length ≤ A.length
  fA : A.filter (fun x => decide (x ∈ st)) = st
  fB : B.filter (fun x => decide (x ∈ st)) = st
theorem papL_of {A B : List SV} (hA : Labs A) (nA : A.Nodup) (nB : B.Nodup) (h5 : A.length ≤ 5) (hAB : ∀ x ∈ A, x ∈ B) (hBA : ∀ x ∈ B, x ∈ A) : ∃ st fl, PapL A B st fl := by
  let f : Nat → SV := fun i => A.getD i .non
  have fA : ∀ (i : Nat) (h : i < A.length), f i = A[i] := fun i h => by simp [f, h]
  have hf : NumL f A.length := ⟨fun x y hx hy e => by
      rw [fA x hx, fA y hy] at e
      rcases Nat.lt_trichotomy x y with z | z | z
      · exact absurd e (List.pairwise_iff_getElem.mp nA x y hx hy z)
      · exact z
      · exact absurd e.symm (List.pairwise_iff_getElem.mp nA y x hy hx z), fun x hx => by
      rw [fA x hx]
      exact hA _ (List.getElem_mem hx)⟩
  have eA : A = (List.range A.length).map f := by
    apply List.ext_getElem
    · simp
    · intro i h1 h2
      simp [fA i h1]
  have lenB : B.length = A.length := Nat.le_antisymm (nodup_len nB hBA) (nodup_len nA hAB)
  have fp : ∀ x ∈ B, pIx A x < A.length ∧ f (pIx A x) = x := fun x hx => by
    have h1 := pIx_lt (hBA x hx)
    refine ⟨h1, ?_⟩
    have h2 := (pIx_of (hBA x hx)).2
    rw [List.getElem?_eq_getElem h1] at h2
    rw [fA _ h1]
    exact Option.some.inj h2
  have eB : B = (B.map (pIx A)).map f := by
    rw [List.map_map]
    conv => lhs; rw [← List.map_id B]
    exact List.map_congr_left fun x hx => (fp x hx).2.symm
  have hp : Sm A.length (B.map (pIx A)) := fun x hx => by
    obtain ⟨y, hy, rfl⟩ := List.mem_map.mp hx
    exact (fp y hy).1
  have hr : Sm A.length (List.range A.length) := fun x hx => by simpa using hx
  have np : (B.map (pIx A)).Nodup := by
    rw [List.Nodup, List.pairwise_map]
    exact List.Pairwise.imp_of_mem (fun {a b} ha hb hab e => hab (by rw [← (fp a ha).2, ← (fp b hb).2, e])) nB
  generalize hpB : B.map (pIx A) = p at *
  have hpl : p.length = A.length := by rw [← hpB, List.length_map]; exact lenB
  clear fA
  clear_value f
  generalize hn : A.length = n at *
  obtain ⟨st, fl, hP⟩ := pap_any h5 hpl hp np
  have hc := hP.cond
  unfold condN at hc
  simp only [Bool.and_eq_true, decide_eq_true_eq] at hc
  obtain ⟨c1, c2, c3, c4, c5, c6, c7, c8, c9⟩ := hc
  have mem_in : ∀ xs : List Nat, inN (List.range n) p xs = true → Sm n xs ∧ ∀ x ∈ xs, x ∈ List.range n ∧ x ∈ p := fun xs h => by
    have h := List.all_eq_true.mp h
    have h2 : ∀ x ∈ xs, x ∈ List.range n ∧ x ∈ p := fun x hx => by simpa using h x hx
    exact ⟨fun x hx => hr x (h2 x hx).1, h2⟩
  obtain ⟨s1, s2⟩ := mem_in st c1
  have hfl : ∀ q ∈ fl, q ≠ [] ∧ q.length ≤ 50 ∧ inN (List.range n) p q = true ∧ goN (List.range n) p true q = true := fun q hq => by
    have := List.all_eq_true.mp c4 q hq
    simp only [Bool.and_eq_true, decide_eq_true_eq] at this
    exact ⟨by simpa using this.1, this.2.1, this.2.2.1, this.2.2.2⟩
  have nr : (List.range n).Nodup := List.nodup_range
  have sub : ∀ x ∈ List.range n, x ∈ p := fun x hx => by
    have hx' := hr x hx
    have h1 : f x ∈ A := by
      rw [eA]
      exact List.mem_map.mpr ⟨x, hx, rfl⟩
    have h2 := hAB _ h1
    rw [eB] at h2
    exact (hf.mem hp hx').mp h2
  have smf : Sm n fl.flatten := fun x hx => by
    obtain ⟨q, hq, hxq⟩ := List.mem_flatten.mp hx
    exact (mem_in q (hfl q hq).2.2.1).1 x hxq
  have e1 : (fl.map fun q => q.map f).flatten = fl.flatten.map f := by rw [List.map_flatten]
  refine ⟨st.map f, fl.map fun q => q.map f, ?_, ?_, ?_, ?_, ?_, ?_⟩
  · intro m Q q
    rw [eA, eB]
    refine w_row_paper hf hr hp nr np sub (by simp; omega) (by omega) hP.row fun m' p' => ?_
    have := q m' p'
    rw [List.map_map] at this
    exact this
  · rw [eA, eB]
    refine ⟨hf.labs hr, hf.labs hp, hf.nodup hr nr, hf.nodup hp np, by simp; omega, by rw [List.length_map]; omega, ?_, ?_, ?_, goN_ok hf hr hp s1 c3, ?_, ?_, ?_⟩
    · rw [List.length_map]
      simp at c7
      omega
    · intro x hx
      obtain ⟨y, hy, rfl⟩ := List.mem_map.mp hx
      obtain ⟨a, b⟩ := s2 y hy
      exact ⟨List.mem_map.mpr ⟨y, a, rfl⟩, List.mem_map.mpr ⟨y, b, rfl⟩⟩
    · simpa using c2
    · intro q' hq'
      obtain ⟨q, hq, rfl⟩ := List.mem_map.mp hq'
      obtain ⟨h1, h2, h3, h4⟩ := hfl q hq
      obtain ⟨t1, t2⟩ := mem_in q h3
      refine ⟨by simpa using h1, by rw [List.length_map]; exact h2, fun x hx => ?_, goN_ok hf hr hp t1 h4⟩
      obtain ⟨y, hy, rfl⟩ := List.mem_map.mp hx
      obtain ⟨a, b⟩ := t2 y hy
      exact ⟨List.mem_map.mpr ⟨y, a, rfl⟩, List.mem_map.mpr ⟨y, b, rfl⟩⟩
    · rw [e1]
      exact hf.nodup smf c5
    · rw [e1, filt_map hf hr hp, List.length_map, List.length_map, c6]
      rw [List.filter_eq_self.mpr fun x hx => by simpa using sub x hx]
  · intro m Q q
    rw [eA, eB]
    have hst : st.length ≤ n := by simpa using c7
    refine w_fewest (K := n - st.length) hf hr hp (by simp; omega) (by omega) (by omega) hP.hin hP.hno hP.len fun m' p' => ?_
    have := q m' p'
    rw [List.length_map, hn] at this
    exact this
  · rw [List.length_map, hn]
    simpa using c7
  · rw [eA, filt_map hf hr s1, c8]
  · rw [eB, filt_map hf hp s1, c9]
end VW

/-! viewwood k93, the plain law: the paper of two trees. -/
namespace VW
open PySem PySem.Spec PyProof.Rows L2
structure RowOk (r : Row) : Prop where
  lab : LabR r
  len : r.length ≤ 5
  nd : (r.map (·.1)).Nodup
theorem rowOk_inn (b : Bool) : RowOk (innR b) := ⟨labR_inn b, by have := innR_len b; omega, by cases b <;> simp [innR]⟩
noncomputable section
open Classical in
def papC (A B : List SV) : List SV × List (List SV) := if h : ∃ p : List SV × List (List SV), PapL A B p.1 p.2 then Classical.choose h else ([], [])
theorem papC_ok {A B : List SV} (h : ∃ st fl, PapL A B st fl) : PapL A B (papC A B).1 (papC A B).2 := by
  have h' : ∃ p : List SV × List (List SV), PapL A B p.1 p.2 := by
    obtain ⟨st, fl, h⟩ := h
    exact ⟨(st, fl), h⟩
  unfold papC
  rw [dif_pos h']
  exact Classical.choose_spec h'
theorem bAt_in {r : Row} {l : SV} {b : Bx} (h : bAt r l = some b) : l ∈ r.map (·.1) := by
  obtain ⟨k, _, e⟩ := plc_of_bAt h
  exact List.mem_map.mpr ⟨_, List.mem_of_getElem? e, rfl⟩
theorem isK_in {o n : Row} {l : SV} (h : isK o n l = true) : l ∈ o.map (·.1) ∧ l ∈ n.map (·.1) := by
  obtain ⟨a, b, h1, h2, _⟩ := isK_some h
  exact ⟨bAt_in h1, bAt_in h2⟩
theorem mem_keptL' {r o n : Row} {l : SV} : l ∈ keptL r o n ↔ l ∈ r.map (·.1) ∧ isK o n l = true := by simp [keptL]
theorem kept_len {r o n : Row} : (keptL r o n).length ≤ r.length := by
  have := List.length_filter_le (isK o n) (r.map (·.1))
  simpa [keptL] using this
theorem kept_pap {o n : Row} (ho : RowOk o) (hn : RowOk n) : PapL (keptL o o n) (keptL n o n) (papC (keptL o o n) (keptL n o n)).1 (papC (keptL o o n) (keptL n o n)).2 := by
  refine papC_ok (papL_of (labs_keptL ho.lab) (List.Pairwise.filter _ ho.nd) (List.Pairwise.filter _ hn.nd) (Nat.le_trans kept_len ho.len) (fun x hx => ?_) fun x hx => ?_)
  · have h := (mem_keptL'.mp hx).2
    exact mem_keptL'.mpr ⟨(isK_in h).2, h⟩
  · have h := (mem_keptL'.mp hx).2
    exact mem_keptL'.mpr ⟨(isK_in h).1, h⟩
/-- the paper of a row -/
def pR (ad : List SV) (o n : Row) : SV := .tup [.tup ad, .tup (papC (keptL o o n) (keptL n o n)).1, .tup ((papC (keptL o o n) (keptL n o n)).2.map SV.tup)]
/-- the deeds that put a row in order -/
def oD (ad : List SV) (o n : Row) : List Dd := takeD ad (keptL o o n) o ++ ordL (keptL o o n) (papC (keptL o o n) (keptL n o n)).1 ad none n (keptL o o n)
def rdD : Nat → List SV → Row → Row → List Dd
  | 0, ad, o, n => oD ad o n
  | d + 1, ad, o, n => oD ad o n ++ (keptL o o n).flatMap fun l => boxD (ad ++ [l]) (bO o l) (bO n l) ++ rdD d (ad ++ [l]) (innR (bO o l).inn) (innR (bO n l).inn)
def rdR : Nat → List SV → Row → Row → List SV
  | 0, ad, o, n => [pR ad o n]
  | d + 1, ad, o, n => pR ad o n :: (keptL o o n).flatMap fun l => rdR d (ad ++ [l]) (innR (bO o l).inn) (innR (bO n l).inn)
def RD (F : DF) (ad : List SV) (o n : Row) (D : List Dd) (R : List SV) : Prop := ∀ (m : Mu) (i j : Nat) (ds rs : List SV) (Q : SV → Mu → Prop), i ≠ j → m[i]? = some (.lst ds) → m[j]? = some (.lst rs) → ds.length + D.length ≤ 900 → rs.length + R.length ≤ 900 →
  (∀ m', Fr [i, j] m m' → m'[i]? = some (.lst (ds ++ D.map dV)) → m'[j]? = some (.lst (rs ++ R)) → Q .non m') → Wp (F [.ref i, .ref j, .tup ad, rowV o, rowV n] m) Q
def RL (i j : Nat) (ad : List SV) (o n : Row) (m1 : Mu) (ds rs : List SV) (mine : List SV) (gD : SV → List Dd) (gR : SV → List SV) (mi : Nat) (x7 x8 : Option SV) (k : Nat) (e : En) (m' : Mu) : Prop := Fr [i, j] m1 m' ∧ m'[mi]? = some (.lst mine) ∧ m'[i]? = some (.lst (ds ++ ((mine.take k).flatMap gD).map dV)) ∧ m'[j]? = some (.lst (rs ++ (mine.take k).flatMap gR)) ∧
  ∃ y u v, e = [some (.ref i), some (.ref j), some (.tup ad), some (rowV o), some (rowV n), some (.ref mi), y, x7, x8, u, v]
theorem w_row_step {self : DF} {ad : List SV} {o n : Row} {Dl : SV → List Dd} {Rl : SV → List SV} (ho : RowOk o) (hn : RowOk n) (had : ad.length ≤ 100) (hself : ∀ l ∈ keptL o o n, RD self (ad ++ [l]) (innR (bO o l).inn) (innR (bO n l).inn) (Dl l) (Rl l)) :
    RD (dFn 5 11 (S_row_deeds self)) ad o n (oD ad o n ++ (keptL o o n).flatMap fun l => boxD (ad ++ [l]) (bO o l) (bO n l) ++ Dl l) (pR ad o n :: (keptL o o n).flatMap Rl) := by
  intro m i j ds rs Q hij hi hj hD hR q
  have hP := kept_pap ho hn
  have hol := ho.len
  have hnl := hn.len
  have hkl : (keptL o o n).length ≤ 5 := Nat.le_trans kept_len hol
  have hknl : (keptL n o n).length ≤ 5 := Nat.le_trans kept_len hnl
  have hLst : Labs (papC (keptL o o n) (keptL n o n)).1 := fun x hx => labs_keptL ho.lab x (hP.lr.st_ x hx).1
  have oDe : oD ad o n = takeD ad (keptL o o n) o ++ ordL (keptL o o n) (papC (keptL o o n) (keptL n o n)).1 ad none n (keptL o o n) := rfl
  have pRe : pR ad o n = .tup [.tup ad, .tup (papC (keptL o o n) (keptL n o n)).1, .tup ((papC (keptL o o n) (keptL n o n)).2.map SV.tup)] := rfl
  rw [pRe] at q
  generalize hst : (papC (keptL o o n) (keptL n o n)).1 = st at *
  generalize hfl : (papC (keptL o o n) (keptL n o n)).2 = fl at *
  let gD : SV → List Dd := fun l => boxD (ad ++ [l]) (bO o l) (bO n l) ++ Dl l
  have hD : ds.length + ((oD ad o n).length + ((keptL o o n).flatMap gD).length) ≤ 900 := by
    rw [← List.length_append]
    exact hD
  have hR : rs.length + (1 + ((keptL o o n).flatMap Rl).length) ≤ 900 := by
    rw [List.length_cons] at hR
    omega
  have hil := lt_of_get hi
  have hjl := lt_of_get hj
  simp -implicitDefEqProofs [S_row_deeds]
  refine w_kept_labels ho.lab ho.lab hn.lab (by omega) (by omega) (by omega) fun m1 p1 g1 => ?_
  simp -implicitDefEqProofs [q_tupleL g1]
  refine w_kept_labels hn.lab ho.lab hn.lab (by omega) (by omega) (by omega) fun m2 p2 g2 => ?_
  rw [q_tupleL g2]
  simp -implicitDefEqProofs
  refine hP.row m2 _ fun m3 p3 => ?_
  have p03 := (p1.tr p2).tr p3
  have gj3 := p03.get hj
  simp -implicitDefEqProofs [q_isLst gj3]
  rw [q_app1 gj3 (by omega)]
  simp -implicitDefEqProofs only [wp_some]
  have gi4 : (m3.set j (.lst (rs ++ [.tup [.tup ad, .tup st, .tup (fl.map SV.tup)]])))[i]? = some (.lst ds) := by
    rw [List.getElem?_set_ne (fun z => hij z.symm)]
    exact p03.get hi
  have hoD : (oD ad o n).length = (takeD ad (keptL o o n) o).length + (ordL (keptL o o n) st ad none n (keptL o o n)).length := by
    rw [oDe, List.length_append]
  refine w_order gi4 ho.lab hn.lab (by omega) (by omega) hLst (by omega) hn.nd (by omega) fun m5 f5 g5 => ?_
  rw [← oDe] at g5
  have gm3 : m3[m.length]? = some (.lst (keptL o o n)) := p3.get (p2.get g1)
  have gm5 : m5[m.length]? = some (.lst (keptL o o n)) := f5.get (by rw [List.getElem?_set_ne (by omega)]; exact gm3) (by simp; omega)
  have gj5 : m5[j]? = some (.lst (rs ++ [.tup [.tup ad, .tup st, .tup (fl.map SV.tup)]])) := f5.get (set_get gj3) (by simpa using fun z => hij z.symm)
  have f05 : Fr [i, j] m m5 := ((Fr.of_pre p03).tr (.set (by simp))).tr (f5.mono (by simp))
  simp -implicitDefEqProofs [gm5]
  refine wp_forL (RL i j ad o n m5 (ds ++ (oD ad o n).map dV) (rs ++ [.tup [.tup ad, .tup st, .tup (fl.map SV.tup)]]) (keptL o o n) gD Rl m.length (some (.tup st)) (some (.tup (fl.map SV.tup)))) (fun k e m' I => I.2.1) ⟨.refl, gm5, by simpa using g5, by simpa using gj5, _, _, _, rfl⟩ (fun k x e m' hx I => ?_) fun e m' I => ?_
  · obtain ⟨hF, gm, gi, gj, y, u, v, rfl⟩ := I
    have hxm := List.mem_of_getElem? hx
    obtain ⟨hm, hk⟩ := mem_keptL hxm
    have hlx : Lab x := labR_mem ho.lab hm
    obtain ⟨a, b, e1, e2, _⟩ := isK_some hk
    obtain ⟨ka, e3, e4⟩ := plc_of_bAt e1
    obtain ⟨kb, e5, e6⟩ := plc_of_bAt e2
    have hs := hself x hxm
    rw [bO_of e1, bO_of e2] at hs
    have hgD : gD x = boxD (ad ++ [x]) a b ++ Dl x := by
      show boxD (ad ++ [x]) (bO o x) (bO n x) ++ Dl x = _
      rw [bO_of e1, bO_of e2]
    have hfl1 := flat_len gD hx
    have hfl2 := flat_len Rl hx
    rw [hgD, List.length_append] at hfl1
    refine ⟨_, rfl, ?_⟩
    have eo : rowV o = .tup (o.map cellV) := rfl
    have en : rowV n = .tup (n.map cellV) := rfl
    simp -implicitDefEqProofs
    refine w_place_of ho.lab hlx (by omega) ?_
    rw [e3]
    simp -implicitDefEqProofs [oI]
    rw [eo]
    simp -implicitDefEqProofs [rowV_get e4, cellV]
    rw [← eo]
    refine w_place_of hn.lab hlx (by omega) ?_
    rw [e5]
    simp -implicitDefEqProofs [oI]
    rw [en]
    simp -implicitDefEqProofs [rowV_get e6, cellV]
    rw [← en]
    rw [if_pos (by omega)]
    simp -implicitDefEqProofs
    refine w_box gi (by simp only [List.length_append, List.length_map]; omega) fun m6 f6 g6 => ?_
    rw [if_pos (by omega)]
    simp -implicitDefEqProofs
    have ebo : ∀ c : Bx, boxV c = .tup [.str (tagS c.tag), setsV c.sets, .tup [], inV c.inn] := fun _ => rfl
    rw [ebo a, ebo b]
    simp -implicitDefEqProofs
    rw [inV_row, inV_row]
    have gj6 := f6.get gj (by simpa using fun z => hij z.symm)
    have gm6 := f6.get gm (by simp; omega)
    refine hs m6 i j _ _ _ hij g6 gj6 (by simp only [List.length_append, List.length_map]; omega) (by simp only [List.length_append, List.length_singleton]; omega) fun m7 f7 gi7 gj7 => ?_
    refine ⟨(hF.tr (f6.mono (by simp))).tr f7, f7.get gm6 (by simp; omega), ?_, ?_, _, _, _, rfl⟩
    · rw [gi7, flat_take gD hx, hgD]
      simp
    · rw [gj7, flat_take Rl hx]
      simp
  · obtain ⟨hF, gm, gi, gj, y, u, v, rfl⟩ := I
    rw [List.take_of_length_le (Nat.le_refl _)] at gi gj
    simp -implicitDefEqProofs
    refine q m' (f05.tr hF) ?_ ?_
    · rw [gi]
      simp [gD]
    · rw [gj]
      simp
theorem w_row_deeds : ∀ (d : Nat) (ad : List SV) (o n : Row), Dp d o → RowOk o → RowOk n → ad.length + d ≤ 100 → RD (F_row_deeds (d + 1)) ad o n (rdD d ad o n) (rdR d ad o n)
  | 0, ad, o, n, hd, ho, hn, had => by
    cases hd
    have := w_row_step (self := F_row_deeds 0) (Dl := fun _ => []) (Rl := fun _ => []) ho hn (by omega) (fun l hl => by simp [keptL] at hl)
    have e : keptL [] [] n = [] := rfl
    rw [e] at this
    have e2 : F_row_deeds (0 + 1) = dFn 5 11 (S_row_deeds (F_row_deeds 0)) := rfl
    rw [e2]
    simpa [rdD, rdR] using this
  | d + 1, ad, o, n, hd, ho, hn, had => by
    refine w_row_step (self := F_row_deeds (d + 1)) ho hn (by omega) fun l hl => ?_
    obtain ⟨a, b, e1, e2, _⟩ := isK_some (mem_keptL hl).2
    obtain ⟨ka, e3, e4⟩ := plc_of_bAt e1
    refine w_row_deeds d (ad ++ [l]) _ _ ?_ (rowOk_inn _) (rowOk_inn _) (by simp; omega)
    rw [bO_of e1]
    exact hd (l, a) (List.mem_of_getElem? e4)
theorem dp3 (r : Row) : Dp 3 r := fun p _ => fun p' hp' => by
  have := dp_inn _ p' hp'
  rw [show innR p'.2.inn = [] from this]
  intro p hp
  cases hp
theorem w_paper_of {o n : Row} {m : Mu} {Q : SV → Mu → Prop} (ho : RowOk o) (hn : RowOk n) (hD : (rdD 3 [] o n).length ≤ 900) (hR : (rdR 3 [] o n).length ≤ 900) (q : ∀ m', Pre m m' → Q (.tup [.tup ((rdD 3 [] o n).map dV), .tup (rdR 3 [] o n)]) m') : Wp (F_paper_of [rowV o, rowV n] m) Q := by
  simp -implicitDefEqProofs [F_paper_of, S_paper_of]
  refine w_row_deeds 3 [] o n (dp3 o) ho hn (by simp) _ m.length (m.length + 1) [] [] _ (by omega) (by simp) (by simp) (by simpa using hD) (by simpa using hR) fun m' f gi gj => ?_
  simp -implicitDefEqProofs [q_tupleL gi, q_tupleL gj]
  refine q m' ?_
  have f0 : Fr [m.length, m.length + 1] m m' := Fr.app.tr f
  exact Fr.pre ((f0.new (Nat.le_refl _)).new (by omega))
end
end VW

/-! viewwood k93, the plain law: what a deed is, what marks it, what fits. -/
namespace VW
open PySem PySem.Spec PyProof.Rows L2
@[simp] theorem n_put {m : Mu} : fNinL (.str "put") m = some (.bl false, m) := by
  have e : lookL "put" = some 5 := by decide +kernel
  simp [fNinL, e]
@[simp] theorem x_put {m : Mu} : fIxL (.str "put") m = some (.int 5, m) := by
  have e : lookL "put" = some 5 := by decide +kernel
  simp [fIxL, e]
@[simp] theorem n_take {m : Mu} : fNinL (.str "take") m = some (.bl false, m) := by
  have e : lookL "take" = some 3 := by decide +kernel
  simp [fNinL, e]
@[simp] theorem x_take {m : Mu} : fIxL (.str "take") m = some (.int 3, m) := by
  have e : lookL "take" = some 3 := by decide +kernel
  simp [fIxL, e]
@[simp] theorem n_move {m : Mu} : fNinL (.str "move") m = some (.bl false, m) := by
  have e : lookL "move" = some 4 := by decide +kernel
  simp [fNinL, e]
@[simp] theorem x_move {m : Mu} : fIxL (.str "move") m = some (.int 4, m) := by
  have e : lookL "move" = some 4 := by decide +kernel
  simp [fIxL, e]
@[simp] theorem n_set {m : Mu} : fNinL (.str "set") m = some (.bl false, m) := by
  have e : lookL "set" = some 4 := by decide +kernel
  simp [fNinL, e]
@[simp] theorem x_set {m : Mu} : fIxL (.str "set") m = some (.int 4, m) := by
  have e : lookL "set" = some 4 := by decide +kernel
  simp [fIxL, e]
@[simp] theorem n_unset {m : Mu} : fNinL (.str "unset") m = some (.bl false, m) := by
  have e : lookL "unset" = some 3 := by decide +kernel
  simp [fNinL, e]
@[simp] theorem x_unset {m : Mu} : fIxL (.str "unset") m = some (.int 3, m) := by
  have e : lookL "unset" = some 3 := by decide +kernel
  simp [fIxL, e]
def NumOk (n : Int) : Prop := 0 ≤ n ∧ n ≤ 1000000
def AdOk (ad : List SV) : Prop := Labs ad ∧ ad.length ≤ 100
def DOk : Dd → Prop
  | .take ad l => AdOk ad ∧ Lab l
  | .put ad k l _ => AdOk ad ∧ Lab l ∧ k ≤ 1000000
  | .move ad l k => AdOk ad ∧ Lab l ∧ k ≤ 1000000
  | .set ad n => AdOk ad ∧ NumOk n
  | .unset ad => AdOk ad
theorem w_is_deed {d : Dd} {m : Mu} {Q : SV → Mu → Prop} (h : DOk d) (q : ∀ m', Pre m m' → Q (.bl true) m') : Wp (F_is_deed [dV d] m) Q := by
  cases d with
  | take ad l =>
    obtain ⟨⟨h1, h2⟩, h3⟩ := h
    simp -implicitDefEqProofs [F_is_deed, S_is_deed, dV]
    refine w_is_address (by omega) h1 fun m1 p1 => ?_
    simp -implicitDefEqProofs
    exact w_is_label h3 fun m2 p2 => q m2 (p1.tr p2)
  | put ad k l t =>
    obtain ⟨⟨h1, h2⟩, h3, h4⟩ := h
    simp -implicitDefEqProofs [F_is_deed, S_is_deed, dV]
    refine w_is_address (by omega) h1 fun m1 p1 => ?_
    simp -implicitDefEqProofs
    refine w_is_number (by omega) (by omega) ?_
    simp -implicitDefEqProofs
    refine w_is_label h3 fun m2 p2 => ?_
    simp -implicitDefEqProofs
    refine w_is_name ?_ fun m3 p3 => q m3 ((p1.tr p2).tr p3)
    cases t
    · exact name_b
    · exact name_a
  | move ad l k =>
    obtain ⟨⟨h1, h2⟩, h3, h4⟩ := h
    simp -implicitDefEqProofs [F_is_deed, S_is_deed, dV]
    refine w_is_address (by omega) h1 fun m1 p1 => ?_
    simp -implicitDefEqProofs
    refine w_is_label h3 fun m2 p2 => ?_
    simp -implicitDefEqProofs
    exact w_is_number (by omega) (by omega) (q m2 (p1.tr p2))
  | set ad n =>
    obtain ⟨⟨h1, h2⟩, h3⟩ := h
    simp -implicitDefEqProofs [F_is_deed, S_is_deed, dV]
    refine w_is_address (by omega) h1 fun m1 p1 => ?_
    simp -implicitDefEqProofs
    refine w_is_name name_ab fun m2 p2 => ?_
    simp -implicitDefEqProofs
    exact w_is_number (by have := h3.1; omega) (by have := h3.2; omega) (q m2 (p1.tr p2))
  | unset ad =>
    obtain ⟨h1, h2⟩ := h
    simp -implicitDefEqProofs [F_is_deed, S_is_deed, dV]
    refine w_is_address (by omega) h1 fun m1 p1 => ?_
    simp -implicitDefEqProofs
    refine w_is_name name_ab fun m2 p2 => ?_
    simp -implicitDefEqProofs
    exact q m2 (p1.tr p2)
def RpOk (x : SV) : Prop := ∃ ad a b, x = .tup [.tup ad, a, b] ∧ AdOk ad
theorem w_is_row_paper {x : SV} {m : Mu} {Q : SV → Mu → Prop} (h : RpOk x) (q : ∀ m', Pre m m' → Q (.bl true) m') : Wp (F_is_row_paper [x] m) Q := by
  obtain ⟨ad, a, b, rfl, h1, h2⟩ := h
  simp -implicitDefEqProofs [F_is_row_paper, S_is_row_paper]
  exact w_is_address (by omega) h1 q
theorem w_is_paper {ds : List Dd} {rs : List SV} {m : Mu} {Q : SV → Mu → Prop} (hd : ∀ d ∈ ds, DOk d) (hr : ∀ x ∈ rs, RpOk x) (l1 : ds.length ≤ 900) (l2 : rs.length ≤ 900) (q : ∀ m', Pre m m' → Q (.bl true) m') : Wp (F_is_paper [.tup [.tup (ds.map dV), .tup rs]] m) Q := by
  simp -implicitDefEqProofs [F_is_paper, S_is_paper]
  refine wp_lcT (fun _ => true) (fun _ => .bl true) (by simpa using l1) (fun x hx m1 p1 => ⟨_, rfl, ?_⟩) fun m1 p1 g1 => ?_
  · obtain ⟨d, hd', rfl⟩ := List.mem_map.mp hx
    simp -implicitDefEqProofs [wipeE]
    exact w_is_deed (hd d hd') fun m' p' => ⟨rfl, p'⟩
  · refine wp_allT (xs := ds.map dV) (by simpa using g1) ?_
    simp -implicitDefEqProofs
    refine wp_lcT (fun _ => true) (fun _ => .bl true) l2 (fun x hx m2 p2 => ⟨_, rfl, ?_⟩) fun m2 p2 g2 => ?_
    · simp -implicitDefEqProofs [wipeE]
      exact w_is_row_paper (hr x hx) fun m' p' => ⟨rfl, p'⟩
    · exact wp_allT (xs := rs) (by simpa using g2) (q m2 (p1.tr p2))

/-! ### marks -/
def adD : Dd → List SV
  | .take ad _ => ad
  | .put ad _ _ _ => ad
  | .move ad _ _ => ad
  | .set ad _ => ad
  | .unset ad => ad
def mk : Dd → SV
  | .take ad l => .tup [.str "take", .tup ad, l]
  | .put ad _ l _ => .tup [.str "put", .tup ad, l]
  | .move ad l _ => .tup [.str "move", .tup ad, l]
  | .set ad _ => .tup [.str "set", .tup ad, .str "ab"]
  | .unset ad => .tup [.str "set", .tup ad, .str "ab"]
theorem w_mark_of {d : Dd} {m : Mu} {Q : SV → Mu → Prop} (q : Q (mk d) m) : Wp (F_mark_of [dV d] m) Q := by
  cases d <;> simpa -implicitDefEqProofs [F_mark_of, S_mark_of, dV, mk] using q
theorem so_w : PyData.strOk "put" = true ∧ PyData.strOk "take" = true ∧ PyData.strOk "move" = true ∧ PyData.strOk "set" = true ∧ PyData.strOk "unset" = true := by decide +kernel
theorem pl_ad {ad : List SV} (h : Labs ad) : pl 3 (.tup ad) = true := by
  rw [pl_tup, List.all_eq_true]
  exact fun x hx => pl_lab (h x hx)
theorem key_ad {ad : List SV} (h : Labs ad) : isKey (.tup ad) = true := pl_le (pl_ad h) (by decide)
theorem key_mk {d : Dd} (h : DOk d) : isKey (mk d) = true := by
  have s := so_w
  cases d with
  | take ad l => simp [mk, isKey, pl_tup, pl, pl_le (pl_ad h.1.1) (show 3 ≤ 7 by decide), pl_labN 7 h.2, s, -List.all_eq_true, List.all_cons]; simpa [pl_tup] using pl_le (pl_ad h.1.1) (show 3 ≤ 7 by decide)
  | put ad k l t => simp [mk, isKey, pl_tup, pl, pl_labN 7 h.2.1, s]; simpa [pl_tup] using pl_le (pl_ad h.1.1) (show 3 ≤ 7 by decide)
  | move ad l k => simp [mk, isKey, pl_tup, pl, pl_labN 7 h.2.1, s]; simpa [pl_tup] using pl_le (pl_ad h.1.1) (show 3 ≤ 7 by decide)
  | set ad n => simp [mk, isKey, pl_tup, pl, so_ab, s]; simpa [pl_tup] using pl_le (pl_ad h.1.1) (show 3 ≤ 7 by decide)
  | unset ad => simp [mk, isKey, pl_tup, pl, so_ab, s]; simpa [pl_tup] using pl_le (pl_ad h.1) (show 3 ≤ 7 by decide)
end VW

/-! viewwood k93, the plain law: deeds that fit. -/
namespace VW
open PySem PySem.Spec PyProof.Rows L2
theorem oI_ne {r : Row} {l : SV} (h : l ∈ r.map (·.1)) : ∃ k : Nat, plc r l = some k := by
  obtain ⟨k, b, e, _⟩ := bAt_mem h
  exact ⟨k, e⟩
section
variable {o n o1 n1 : Row} {ad : List SV} {l : SV} {k : Nat} {t : Bool} {m : Mu} {Q : SV → Mu → Prop} {st : List SV}
theorem wf_put (ho : RowOk o) (hn : RowOk n) (ho1 : RowOk o1) (hn1 : RowOk n1) (had : Labs ad) (e1 : rowAt o ad = some o1) (e2 : rowAt n ad = some n1) (hl : Lab l) (hm : l ∈ n1.map (·.1)) (hk : isK o1 n1 l = false) (q : Q (.bl true) m) : Wp (F_row_deed_fits [rowV o, rowV n, dV (.put ad k l t), .tup st] m) Q := by
  have l1 := ho.len; have l2 := hn.len; have l3 := ho1.len; have l4 := hn1.len
  obtain ⟨j, ej⟩ := oI_ne hm
  simp -implicitDefEqProofs [F_row_deed_fits, S_row_deed_fits, dV]
  refine w_row_found ho.lab (by omega) had ?_
  rw [e1]
  refine w_row_found hn.lab (by omega) had ?_
  rw [e2]
  simp -implicitDefEqProofs [oR]
  refine w_place_of hn1.lab hl (by omega) ?_
  rw [ej]
  simp -implicitDefEqProofs [oI]
  refine w_is_kept ho1.lab hn1.lab (by omega) (by omega) hl ?_
  rw [hk]
  simpa -implicitDefEqProofs using q
theorem wf_take (ho : RowOk o) (hn : RowOk n) (ho1 : RowOk o1) (hn1 : RowOk n1) (had : Labs ad) (e1 : rowAt o ad = some o1) (e2 : rowAt n ad = some n1) (hl : Lab l) (hm : l ∈ o1.map (·.1)) (hk : isK o1 n1 l = false) (q : Q (.bl true) m) : Wp (F_row_deed_fits [rowV o, rowV n, dV (.take ad l), .tup st] m) Q := by
  have l1 := ho.len; have l2 := hn.len; have l3 := ho1.len; have l4 := hn1.len
  obtain ⟨j, ej⟩ := oI_ne hm
  simp -implicitDefEqProofs [F_row_deed_fits, S_row_deed_fits, dV]
  refine w_row_found ho.lab (by omega) had ?_
  rw [e1]
  refine w_row_found hn.lab (by omega) had ?_
  rw [e2]
  simp -implicitDefEqProofs [oR]
  refine w_place_of ho1.lab hl (by omega) ?_
  rw [ej]
  simp -implicitDefEqProofs [oI]
  refine w_is_kept ho1.lab hn1.lab (by omega) (by omega) hl ?_
  rw [hk]
  simpa -implicitDefEqProofs using q
theorem wf_move (ho : RowOk o) (hn : RowOk n) (ho1 : RowOk o1) (hn1 : RowOk n1) (had : Labs ad) (e1 : rowAt o ad = some o1) (e2 : rowAt n ad = some n1) (hl : Lab l) (hk : isK o1 n1 l = true) (hst : Labs st) (hs : l ∉ st) (q : Q (.bl true) m) : Wp (F_row_deed_fits [rowV o, rowV n, dV (.move ad l k), .tup st] m) Q := by
  have l1 := ho.len; have l2 := hn.len; have l3 := ho1.len; have l4 := hn1.len
  simp -implicitDefEqProofs [F_row_deed_fits, S_row_deed_fits, dV]
  refine w_row_found ho.lab (by omega) had ?_
  rw [e1]
  refine w_row_found hn.lab (by omega) had ?_
  rw [e2]
  simp -implicitDefEqProofs [oR]
  refine w_is_kept ho1.lab hn1.lab (by omega) (by omega) hl ?_
  rw [hk]
  simp -implicitDefEqProofs
  rw [fNinS_pl (ys := st) rfl (pl_labN 40 hl) (pls_labs hst)]
  simpa -implicitDefEqProofs [hs] using q
theorem wl_put {b : Bx} (hn : RowOk n) (had : Labs ad) (e : boxAt n ad = some b) (hl : Lab l) (hm : l ∈ (innR b.inn).map (·.1)) (q : Q (.bl true) m) : Wp (F_fill_deed_fits [rowV n, dV (.put ad k l t)] m) Q := by
  have l2 := hn.len
  obtain ⟨j, ej⟩ := oI_ne hm
  simp -implicitDefEqProofs [F_fill_deed_fits, S_fill_deed_fits, dV]
  refine w_box_found hn.lab (by omega) had ?_
  rw [e]
  simp -implicitDefEqProofs [oB]
  simp -implicitDefEqProofs [boxV]
  rw [inV_row]
  refine w_place_of (labR_inn _) hl (by have := innR_len b.inn; omega) ?_
  rw [ej]
  simpa -implicitDefEqProofs [oI] using q
theorem wl_set {b : Bx} {x y : Int} (hn : RowOk n) (had : Labs ad) (e : boxAt n ad = some b) (hs : b.sets = some y) (q : ∀ m', Pre m m' → Q (.bl true) m') : Wp (F_fill_deed_fits [rowV n, dV (.set ad x)] m) Q := by
  have l2 := hn.len
  simp -implicitDefEqProofs [F_fill_deed_fits, S_fill_deed_fits, dV]
  refine w_box_found hn.lab (by omega) had ?_
  rw [e]
  simp -implicitDefEqProofs [oB]
  simp -implicitDefEqProofs [boxV, hs, setsV]
  refine wp_lcT (fun _ => true) (fun _ => .str "ab") (by simp) (fun z hz m1 p1 => ?_) fun m1 p1 g1 => ?_
  · simp at hz
    subst hz
    refine ⟨_, rfl, ?_⟩
    simp -implicitDefEqProofs [wipeE]
  · have g2 : m1[m.length]? = some (.lst [.str "ab"]) := by simpa using g1
    rw [fInS_pl (ys := [.str "ab"]) (by simp [itemsM, g2]) (by simpa [pl] using so_ab) (by simp [pls, pl, so_ab])]
    simpa -implicitDefEqProofs using q m1 p1
theorem wb_unset {a b : Bx} (ho : RowOk o) (hn : RowOk n) (had : Labs ad) (e1 : boxAt o ad = some a) (e2 : boxAt n ad = some b) (hb : b.sets = none) (q : ∀ m', Pre m m' → Q (.bl true) m') : Wp (F_box_deed_fits [rowV o, rowV n, dV (.unset ad)] m) Q := by
  have l1 := ho.len; have l2 := hn.len
  simp -implicitDefEqProofs [F_box_deed_fits, S_box_deed_fits, dV]
  refine w_box_found ho.lab (by omega) had ?_
  rw [e1]
  refine w_box_found hn.lab (by omega) had ?_
  rw [e2]
  obtain ⟨ta, sa, ia⟩ := a
  obtain ⟨tb, sb, ib⟩ := b
  cases hb
  cases sa <;> (simp -implicitDefEqProofs [oB, boxV, setsV, fDict, fNinD, dsAt, lookS]; exact q _ .app)
theorem wb_set {a b : Bx} {y : Int} (ho : RowOk o) (hn : RowOk n) (had : Labs ad) (e1 : boxAt o ad = some a) (e2 : boxAt n ad = some b) (hb : b.sets = some y) (hne : a.sets ≠ some y) (q : ∀ m', Pre m m' → Q (.bl true) m') : Wp (F_box_deed_fits [rowV o, rowV n, dV (.set ad y)] m) Q := by
  have l1 := ho.len; have l2 := hn.len
  simp -implicitDefEqProofs [F_box_deed_fits, S_box_deed_fits, dV]
  refine w_box_found ho.lab (by omega) had ?_
  rw [e1]
  refine w_box_found hn.lab (by omega) had ?_
  rw [e2]
  obtain ⟨ta, sa, ia⟩ := a
  obtain ⟨tb, sb, ib⟩ := b
  cases hb
  cases sa with
  | none =>
    simp -implicitDefEqProofs [oB, boxV, setsV, fDict, fNinD, dsAt, lookS]
    exact q _ .app
  | some x =>
    have hxy : ¬ x = y := fun z => hne (by rw [z])
    simp -implicitDefEqProofs [oB, boxV, setsV, fDict, fNinD, fIxD, dsAt, lookS, hxy]
    exact q _ .app
end
end VW

/-! viewwood k93, the plain law: the rows of a paper fit. -/
namespace VW
open PySem PySem.Spec PyProof.Rows L2
abbrev Tr := List SV × Row × Row
def rdT : Nat → List SV → Row → Row → List Tr
  | 0, ad, o, n => [(ad, o, n)]
  | d + 1, ad, o, n => (ad, o, n) :: (keptL o o n).flatMap fun l => rdT d (ad ++ [l]) (innR (bO o l).inn) (innR (bO n l).inn)
noncomputable section
def pT (t : Tr) : SV := pR t.1 t.2.1 t.2.2
theorem rdR_T : ∀ (d : Nat) (ad : List SV) (o n : Row), rdR d ad o n = (rdT d ad o n).map pT
  | 0, ad, o, n => rfl
  | d + 1, ad, o, n => by
    simp only [rdR, rdT, List.map_cons, List.map_flatMap]
    congr 1
    congr 1
    funext l
    exact rdR_T d _ _ _
theorem keptB_T : ∀ (d : Nat) (ad : List SV) (o n : Row), keptB d o n ad = (rdT d ad o n).map fun t => SV.tup t.1
  | 0, ad, o, n => rfl
  | d + 1, ad, o, n => by
    simp only [keptB, rdT, List.map_cons, List.map_flatMap]
    congr 1
    congr 1
    funext l
    exact keptB_T d _ _ _
structure TOk (o n : Row) (t : Tr) : Prop where
  ad : AdOk t.1
  ro : RowOk t.2.1
  rn : RowOk t.2.2
  ao : rowAt o t.1 = some t.2.1
  an : rowAt n t.1 = some t.2.2
def hdS : SV → SV
  | .tup (x :: _) => x
  | _ => .non
def RF (o n : Row) (RS A : SV) (m1 : Mu) (a : Nat) (k : Nat) (e : En) (m' : Mu) : Prop := Pre m1 m' ∧ ∃ u v w x y z, e = [some (rowV o), some (rowV n), some RS, some (.ref a), u, v, w, x, y, z, none]
theorem w_rows_fit {o n : Row} {ts : List Tr} {m : Mu} {Q : SV → Mu → Prop} (ho : RowOk o) (hn : RowOk n) (ht : ∀ t ∈ ts, TOk o n t) (hk : (ts.map fun t => SV.tup t.1) = keptB 3 o n []) (hnd : (ts.map fun t => t.1).Nodup) (hl : ts.length < 60) (q : ∀ m', Pre m m' → Q (.bl true) m') : Wp (F_rows_fit [rowV o, rowV n, .tup (ts.map pT)] m) Q := by
  have l1 := ho.len
  have l2 := hn.len
  simp -implicitDefEqProofs [F_rows_fit, S_rows_fit]
  refine wp_lcT (fun _ => true) hdS (by simp; omega) (fun x hx m1 p1 => ⟨_, rfl, ?_⟩) fun m1 p1 g1 => ?_
  · obtain ⟨t, ht', rfl⟩ := List.mem_map.mp hx
    simp -implicitDefEqProofs [wipeE, pT, pR, hdS]
  · have g1 : m1[m.length]? = some (.lst (ts.map fun t => SV.tup t.1)) := by
      rw [g1]
      simp only [filt_true, List.map_map]
      rfl
    have hkeys : keysOk (ts.map fun t => SV.tup t.1) = true := by
      unfold keysOk
      simp only [Bool.and_eq_true, decide_eq_true_eq, List.length_map]
      refine ⟨⟨⟨hl, ?_⟩, ?_⟩, ?_⟩
      · rw [List.all_eq_true]
        intro x hx
        obtain ⟨t, ht', rfl⟩ := List.mem_map.mp hx
        exact key_ad (ht t ht').ad.1
      · have : (ts.map fun t => SV.tup t.1) = (ts.map fun t => t.1).map SV.tup := by rw [List.map_map]; rfl
        rw [this, List.Nodup, List.pairwise_map]
        exact List.Pairwise.imp (fun hab e => hab (by injection e)) hnd
      · rw [List.all_eq_true]
        intro x hx
        obtain ⟨t, ht', rfl⟩ := List.mem_map.mp hx
        rw [nt, List.all_eq_true]
        exact fun y hy => nt_lab 5 ((ht t ht').ad.1 y hy)
    have e1 : fLenSet (.ref m.length) m1 = some (.int ts.length, m1) := by
      simp only [fLenSet, lstAt_of g1, Option.bind_some, hkeys, if_true, List.length_map]
    simp -implicitDefEqProofs [e1, q_lenL g1]
    have e2 : ∀ {Q' : SV → Mu → Prop}, (∀ m', Pre m1 m' → Q' (.bl false) m') → Wp (dSetNe (dVar 3) (dApp F_kept (dCons (dVar 0) (dCons (dVar 1) dNil))) [some (rowV o), some (rowV n), some (.tup (ts.map pT)), some (.ref m.length), none, none, none, none, none, none, none] m1) Q' := by
      intro Q' q'
      obtain ⟨v, m2, e3, e4⟩ := w_kept (m := m1) (Q := fun v m2 => Pre m1 m2 ∧ ∃ i, v = .ref i ∧ m2[i]? = some (.lst (keptB 3 o n []))) ho.lab hn.lab (by omega) (by omega) (by rw [← hk, List.length_map]; omega) fun m' i p g => ⟨p, i, rfl, g⟩
      obtain ⟨p2, i, rfl, g2⟩ := e4
      refine ⟨.bl false, m2, ?_, q' m2 p2⟩
      simp only [dSetNe, q_var, List.getElem?_cons_succ, List.getElem?_cons_zero, Option.bind_some, lstAt_of g1, q_app, q_cons, q_nil, e3, lstAt_of g2]
      rw [if_pos ⟨hkeys, hk⟩]
    refine e2 fun m2 p2 => ?_
    simp -implicitDefEqProofs
    refine wp_for (RF o n (.tup (ts.map pT)) .non m2 m.length) ⟨.refl, _, _, _, _, _, _, rfl⟩ (fun k x e m' hx I => ?_) fun e m' I => ?_
    · obtain ⟨p3, u, v, w, x', y, z, rfl⟩ := I
      rw [List.getElem?_map] at hx
      obtain ⟨t, ht1, rfl⟩ := Option.map_eq_some_iff.mp hx
      have ok := ht t (List.mem_of_getElem? ht1)
      obtain ⟨ad, o1, n1⟩ := t
      have hP := kept_pap ok.ro ok.rn
      obtain ⟨had, ro1, rn1, e4, e5⟩ := ok
      dsimp only at had ro1 rn1 e4 e5
      have l3 := ro1.len
      have l4 := rn1.len
      have hk3 : (keptL o1 o1 n1).length ≤ 5 := Nat.le_trans kept_len l3
      have hk4 : (keptL n1 o1 n1).length ≤ 5 := Nat.le_trans kept_len l4
      refine ⟨_, rfl, ?_⟩
      simp -implicitDefEqProofs
      refine w_row_found ho.lab (by omega) had.1 ?_
      rw [e4]
      refine w_row_found hn.lab (by omega) had.1 ?_
      rw [e5]
      simp -implicitDefEqProofs [oR]
      refine w_kept_labels ro1.lab ro1.lab rn1.lab (by omega) (by omega) (by omega) fun m4 p4 g4 => ?_
      rw [q_tupleL g4]
      simp -implicitDefEqProofs
      refine w_kept_labels rn1.lab ro1.lab rn1.lab (by omega) (by omega) (by omega) fun m5 p5 g5 => ?_
      rw [q_tupleL g5]
      simp -implicitDefEqProofs
      refine w_lets_row hP.lr fun m6 p6 => ?_
      simp -implicitDefEqProofs
      exact ⟨((p3.tr p4).tr p5).tr p6, _, _, _, _, _, _, rfl⟩
    · obtain ⟨p3, u, v, w, x', y, z, rfl⟩ := I
      simp -implicitDefEqProofs
      exact q m' ((p1.tr p2).tr p3)
end
end VW

/-! viewwood k93, the plain law: a paper is let by. -/
namespace VW
open PySem PySem.Spec PyProof.Rows L2
noncomputable section
def stT (t : Tr) : List SV := (papC (keptL t.2.1 t.2.1 t.2.2) (keptL t.2.2 t.2.1 t.2.2)).1
def kvT (ts : List Tr) : List (SV × SV) := ts.map fun t => (.tup t.1, .tup (stT t))
def isRow : Dd → Bool
  | .take _ _ => true
  | .put _ _ _ _ => true
  | .move _ _ _ => true
  | _ => false
def FitsD (o n : Row) (ts : List Tr) (d : Dd) : Prop :=
  ((∀ t ∈ ts, t.1 ≠ adD d) ∧ ∀ (m : Mu) (Q : SV → Mu → Prop), (∀ m', Pre m m' → Q (.bl true) m') → Wp (F_fill_deed_fits [rowV n, dV d] m) Q) ∨
  (∃ t ∈ ts, t.1 = adD d ∧ ((isRow d = true ∧ ∀ (m : Mu) (Q : SV → Mu → Prop), (∀ m', Pre m m' → Q (.bl true) m') → Wp (F_row_deed_fits [rowV o, rowV n, dV d, .tup (stT t)] m) Q) ∨
    (isRow d = false ∧ ∀ (m : Mu) (Q : SV → Mu → Prop), (∀ m', Pre m m' → Q (.bl true) m') → Wp (F_box_deed_fits [rowV o, rowV n, dV d] m) Q)))
theorem kvT_keys (ts : List Tr) : (kvT ts).map (·.1) = ts.map fun t => SV.tup t.1 := by
  unfold kvT
  rw [List.map_map]
  rfl
theorem look_kvT {ts : List Tr} {t : Tr} (hn : (ts.map fun t => t.1).Nodup) (h : t ∈ ts) : look (kvT ts) (.tup t.1) = some (.tup (stT t)) := by
  induction ts with
  | nil => cases h
  | cons u ts ih =>
    rw [List.map_cons, List.nodup_cons] at hn
    show look ((.tup u.1, .tup (stT u)) :: kvT ts) _ = _
    rw [look_cons]
    rcases List.mem_cons.mp h with e | h
    · subst e
      simp
    · have : ¬ (SV.tup u.1 = SV.tup t.1) := fun e => by
        injection e with e
        exact hn.1 (List.mem_map.mpr ⟨t, h, e.symm⟩)
      rw [if_neg this]
      exact ih hn.2 h
theorem look_kvT_none {ts : List Tr} {ad : List SV} (h : ∀ t ∈ ts, t.1 ≠ ad) : look (kvT ts) (.tup ad) = none := by
  rw [look_none, kvT_keys]
  intro hm
  obtain ⟨t, ht, e⟩ := List.mem_map.mp hm
  injection e with e
  exact h t ht e
theorem nodup_take_not {α : Type} {xs : List α} {k : Nat} {x : α} (hn : xs.Nodup) (h : xs[k]? = some x) : x ∉ xs.take k := by
  intro hm
  obtain ⟨j, hj, e⟩ := List.getElem_of_mem hm
  rw [List.getElem_take] at e
  rw [List.length_take] at hj
  obtain ⟨hk, e2⟩ := List.getElem?_eq_some_iff.mp h
  exact List.pairwise_iff_getElem.mp hn j k (by omega) hk (by omega) (e.trans e2.symm)
def kvS (ds : List Dd) : List (SV × SV) := ds.map fun d => (mk d, .bl true)
def LB1 (o n : Row) (P : SV) (ts : List Tr) (m1 : Mu) (a k : Nat) (e : En) (m' : Mu) : Prop := Pre m1 m' ∧ m'[a]? = some (.dN (kvT (ts.take k))) ∧ ∃ u, e = [some (rowV o), some (rowV n), some P, some (.ref a), u, none, none, none]
def LB2 (o n : Row) (P : SV) (ts : List Tr) (ds : List Dd) (m1 : Mu) (a b : Nat) (u : Option SV) (k : Nat) (e : En) (m' : Mu) : Prop := Pre m1 m' ∧ m'[a]? = some (.dN (kvT ts)) ∧ m'[b]? = some (.dN (kvS (ds.take k))) ∧ ∃ x y, e = [some (rowV o), some (rowV n), some P, some (.ref a), u, some (.ref b), x, y]
theorem dV_1 (d : Dd) : ∃ w rest, dV d = .tup (.str w :: .tup (adD d) :: rest) := by
  cases d <;> exact ⟨_, _, rfl⟩
theorem dV_row {d : Dd} {m : Mu} : ∃ w rest, dV d = .tup (.str w :: .tup (adD d) :: rest) ∧ fInS (.str w) (.tup [.str "put", .str "take", .str "move"]) m = some (.bl (isRow d), m) := by
  cases d
  · exact ⟨_, _, rfl, i_take⟩
  · exact ⟨_, _, rfl, i_put⟩
  · exact ⟨_, _, rfl, i_move⟩
  · exact ⟨_, _, rfl, i_set⟩
  · exact ⟨_, _, rfl, i_unset⟩
theorem w_lets_by {o n : Row} {ts : List Tr} {ds : List Dd} {m : Mu} {Q : SV → Mu → Prop} (ho : RowOk o) (hn : RowOk n) (hd : ∀ d ∈ ds, DOk d) (hdl : ds.length ≤ 900) (hled : Leds o ds n) (ht : ∀ t ∈ ts, TOk o n t) (hk : (ts.map fun t => SV.tup t.1) = keptB 3 o n []) (hnd : (ts.map fun t => t.1).Nodup) (hl : ts.length < 60)
    (hmk : (ds.map mk).Nodup) (hfit : ∀ d ∈ ds, FitsD o n ts d) (q : ∀ m', Pre m m' → Q (.bl true) m') : Wp (F_lets_by [rowV o, rowV n, .tup [.tup (ds.map dV), .tup (ts.map pT)]] m) Q := by
  have hRp : ∀ x ∈ ts.map pT, RpOk x := fun x hx => by
    obtain ⟨t, ht1, rfl⟩ := List.mem_map.mp hx
    exact ⟨t.1, _, _, rfl, (ht t ht1).ad⟩
  simp -implicitDefEqProofs [F_lets_by, S_lets_by]
  refine w_is_paper hd hRp hdl (by simp; omega) fun m1 p1 => ?_
  simp -implicitDefEqProofs
  refine w_leads hled hn.lab hdl fun m2 p2 => ?_
  simp -implicitDefEqProofs
  refine w_rows_fit ho hn ht hk hnd hl fun m3 p3 => ?_
  simp -implicitDefEqProofs
  have p03 := (p1.tr p2).tr p3
  refine wp_for (LB1 o n (.tup [.tup (ds.map dV), .tup (ts.map pT)]) ts m3 m3.length) ⟨.app, by simp [kvT], _, rfl⟩ (fun k x e m' hx I => ?_) fun e m' I => ?_
  · obtain ⟨p4, g4, u, rfl⟩ := I
    rw [List.getElem?_map] at hx
    obtain ⟨t, ht1, rfl⟩ := Option.map_eq_some_iff.mp hx
    have hkey := key_ad (ht t (List.mem_of_getElem? ht1)).ad.1
    have htk : ts[k]? = some t := ht1
    have hno : look (kvT (ts.take k)) (.tup t.1) = none := look_kvT_none fun v hv e => by
      have h1 : (ts.map fun t => t.1)[k]? = some t.1 := by rw [List.getElem?_map, htk]; rfl
      exact nodup_take_not hnd h1 (by rw [← List.map_take]; exact List.mem_map.mpr ⟨v, hv, e⟩)
    have hlen : (kvT (ts.take k)).length ≤ 1000 := by
      unfold kvT
      rw [List.length_map, List.length_take]
      omega
    have hput : putN (kvT (ts.take k)) (.tup t.1) (.tup (stT t)) = kvT (ts.take (k + 1)) := by
      rw [take_snoc htk, putN, hno]
      simp [kvT]
    have e1 : fPutN (.ref m3.length) (.tup t.1) (.tup (stT t)) m' = some (m'.set m3.length (.dN (kvT (ts.take (k + 1))))) := by
      simp only [fPutN, dnAt, g4, Option.bind_some, hkey, true_and]
      rw [if_pos hlen, hput]
    refine ⟨_, rfl, ?_⟩
    have e2 : pT t = .tup [.tup t.1, .tup (stT t), .tup ((papC (keptL t.2.1 t.2.1 t.2.2) (keptL t.2.2 t.2.1 t.2.2)).2.map SV.tup)] := rfl
    rw [e2]
    simp -implicitDefEqProofs
    rw [e1]
    simp -implicitDefEqProofs only [Option.bind_some, wp_some]
    exact ⟨pre_set p4 (Nat.le_refl _), set_get g4, _, rfl⟩
  · obtain ⟨p4, g4, u, rfl⟩ := I
    rw [List.length_map, List.take_of_length_le (Nat.le_refl _)] at g4
    have h3m := lt_of_get g4
    simp -implicitDefEqProofs
    refine wp_for (LB2 o n (.tup [.tup (ds.map dV), .tup (ts.map pT)]) ts ds m3 m3.length m'.length u) ⟨p4.tr .app, Pre.app.get g4, by simp [kvS], _, _, rfl⟩ (fun k x e m' hx I => ?_) fun e m' I => ?_
    · rename_i m4
      obtain ⟨p5, g5, g6, x', y, rfl⟩ := I
      rw [List.getElem?_map] at hx
      obtain ⟨d, hd1, rfl⟩ := Option.map_eq_some_iff.mp hx
      have hdk : ds[k]? = some d := hd1
      have hdm := List.mem_of_getElem? hdk
      have hkey := key_mk (hd d hdm)
      have hno : look (kvS (ds.take k)) (mk d) = none := by
        rw [look_none]
        have : (kvS (ds.take k)).map (·.1) = (ds.map mk).take k := by
          unfold kvS
          rw [List.map_map, ← List.map_take]
          rfl
        rw [this]
        exact nodup_take_not hmk (by rw [List.getElem?_map, hdk]; rfl)
      have hlen : (kvS (ds.take k)).length ≤ 1000 := by
        unfold kvS
        rw [List.length_map, List.length_take]
        omega
      have hput : putN (kvS (ds.take k)) (mk d) (.bl true) = kvS (ds.take (k + 1)) := by
        rw [take_snoc hdk, putN, hno]
        simp [kvS]
      have e1 : fPutN (.ref m4.length) (mk d) (.bl true) m' = some (m'.set m4.length (.dN (kvS (ds.take (k + 1))))) := by
        simp only [fPutN, dnAt, g6, Option.bind_some, hkey, true_and]
        rw [if_pos hlen, hput]
      refine ⟨_, rfl, ?_⟩
      simp -implicitDefEqProofs
      refine w_mark_of ?_
      simp -implicitDefEqProofs [fInN, dnAt, g6, hkey, hno]
      refine w_mark_of ?_
      rw [e1]
      simp -implicitDefEqProofs only [Option.bind_some, wp_some]
      have p6 : Pre m3 (m'.set m4.length (.dN (kvS (ds.take (k + 1))))) := pre_set p5 (by omega)
      have g7 : (m'.set m4.length (.dN (kvS (ds.take (k + 1)))))[m3.length]? = some (.dN (kvT ts)) := by
        rw [List.getElem?_set_ne (by omega)]
        exact g5
      have g8 : (m'.set m4.length (.dN (kvS (ds.take (k + 1)))))[m4.length]? = some (.dN (kvS (ds.take (k + 1)))) := set_get g6
      generalize m'.set m4.length (.dN (kvS (ds.take (k + 1)))) = m6 at p6 g7 g8 ⊢
      obtain ⟨w, rest, e3, e4⟩ := dV_row (d := d) (m := m6)
      have hkad : isKey (.tup (adD d)) = true := key_ad (by
        have := hd d hdm
        cases d <;> first | exact this.1.1 | exact this.1)
      rcases hfit d hdm with ⟨f1, f2⟩ | ⟨t, ht1, f1, ⟨f2, f3⟩ | ⟨f2, f3⟩⟩
      · have hl1 := look_kvT_none (ts := ts) f1
        rw [e3] at f2 ⊢
        simp -implicitDefEqProofs [fNinN, dnAt, g7, hkad, hl1]
        refine f2 m6 _ fun m7 p7 => ?_
        simp -implicitDefEqProofs
        exact ⟨p6.tr p7, p7.get g7, p7.get g8, _, _, rfl⟩
      · have hl1 := look_kvT hnd ht1
        rw [f1] at hl1
        rw [f2] at e4
        rw [e3] at f3 ⊢
        simp -implicitDefEqProofs [fNinN, fIxN, dnAt, g7, hkad, hl1, e4]
        refine f3 m6 _ fun m7 p7 => ?_
        simp -implicitDefEqProofs
        exact ⟨p6.tr p7, p7.get g7, p7.get g8, _, _, rfl⟩
      · have hl1 := look_kvT hnd ht1
        rw [f1] at hl1
        rw [f2] at e4
        rw [e3] at f3 ⊢
        simp -implicitDefEqProofs [fNinN, fIxN, dnAt, g7, hkad, hl1, e4]
        refine f3 m6 _ fun m7 p7 => ?_
        simp -implicitDefEqProofs
        exact ⟨p6.tr p7, p7.get g7, p7.get g8, _, _, rfl⟩
    · obtain ⟨p5, g5, g6, x', y, rfl⟩ := I
      simp -implicitDefEqProofs
      exact q m' (p03.tr p5)
end
end VW

/-! viewwood k93, the plain law: the deeds lead the old row to the new one. -/
namespace VW
open PySem PySem.Spec PyProof.Rows L2
def mkR (now : List SV) (B : SV → Bx) : Row := now.map fun l => (l, B l)
def upd' (B : SV → Bx) (l : SV) (b : Bx) : SV → Bx := fun x => if x = l then b else B x
theorem mkR_labs (now : List SV) (B : SV → Bx) : (mkR now B).map (·.1) = now := by
  unfold mkR
  rw [List.map_map]
  exact List.map_id now
theorem mkR_len (now : List SV) (B : SV → Bx) : (mkR now B).length = now.length := by simp [mkR]
theorem mkR_labR {now : List SV} {B : SV → Bx} (h : Labs now) : LabR (mkR now B) := fun p hp => by
  obtain ⟨l, hl, rfl⟩ := List.mem_map.mp hp
  exact h l hl
theorem mkR_congr {now : List SV} {B C : SV → Bx} (h : ∀ x ∈ now, B x = C x) : mkR now B = mkR now C := List.map_congr_left fun x hx => by rw [h x hx]
theorem plc_mkR {now : List SV} {B : SV → Bx} {l : SV} : plc (mkR now B) l = now.findIdx? fun y => decide (y = l) := by
  unfold plc mkR
  rw [List.findIdx?_map]
  rfl
theorem plc_in {now : List SV} {B : SV → Bx} {l : SV} (h : l ∈ now) : plc (mkR now B) l = some (pIx now l) ∧ (mkR now B)[pIx now l]? = some (l, B l) := by
  rw [plc_mkR]
  refine ⟨(pIx_of h).1, ?_⟩
  unfold mkR
  rw [List.getElem?_map, (pIx_of h).2]
  rfl
theorem plc_out {now : List SV} {B : SV → Bx} {l : SV} (h : l ∉ now) : plc (mkR now B) l = none := plc_none.mpr (by rw [mkR_labs]; exact h)
theorem row_mkR {r : Row} (h : RowOk r) : r = mkR (r.map (·.1)) (bO r) := by
  apply List.ext_getElem?
  intro i
  unfold mkR
  rw [List.getElem?_map, List.getElem?_map]
  cases e : r[i]? with
  | none => rfl
  | some p =>
    have hm : p.1 ∈ r.map (·.1) := List.mem_map.mpr ⟨p, List.mem_of_getElem? e, rfl⟩
    obtain ⟨k, b, h1, h2, h3⟩ := bAt_mem hm
    have hk : k = i := by
      obtain ⟨a1, b1⟩ := List.getElem?_eq_some_iff.mp (show (r.map (·.1))[k]? = some p.1 by rw [List.getElem?_map, h2]; rfl)
      obtain ⟨a2, b2⟩ := List.getElem?_eq_some_iff.mp (show (r.map (·.1))[i]? = some p.1 by rw [List.getElem?_map, e]; rfl)
      rcases Nat.lt_trichotomy k i with z | z | z
      · exact absurd (b1.trans b2.symm) (List.pairwise_iff_getElem.mp h.nd k i a1 a2 z)
      · exact z
      · exact absurd (b2.trans b1.symm) (List.pairwise_iff_getElem.mp h.nd i k a2 a1 z)
    subst hk
    rw [h2] at e
    have e' := Option.some.inj e
    show some p = some (p.1, bO r p.1)
    rw [bO_of h3, e']
theorem split_at {now : List SV} {l : SV} (h : l ∈ now) : now = now.take (pIx now l) ++ l :: now.drop (pIx now l + 1) := by
  have := drop_cons (pIx_of h).2
  rw [← this, List.take_append_drop]
theorem not_take {now : List SV} {l : SV} (h : l ∈ now) (hn : now.Nodup) : l ∉ now.take (pIx now l) ∧ l ∉ now.drop (pIx now l + 1) := by
  refine ⟨nodup_take_not hn (pIx_of h).2, fun hm => ?_⟩
  rw [split_at h, List.nodup_append] at hn
  exact (List.nodup_cons.mp hn.2.1).1 hm
theorem upd_out {B : SV → Bx} {l x : SV} {b : Bx} {xs : List SV} (hx : x ∈ xs) (h : l ∉ xs) : upd' B l b x = B x := by
  unfold upd'
  rw [if_neg fun z => h (by rw [← z]; exact hx)]
theorem setB_mkR {now : List SV} {B : SV → Bx} {l : SV} {b : Bx} (h : l ∈ now) (hn : now.Nodup) : setB (mkR now B) (pIx now l) l b = mkR now (upd' B l b) := by
  obtain ⟨n1, n2⟩ := not_take h hn
  have e := split_at h
  unfold setB
  have e1 : mkR now (upd' B l b) = mkR (now.take (pIx now l)) (upd' B l b) ++ (l, b) :: mkR (now.drop (pIx now l + 1)) (upd' B l b) := by
    conv => lhs; rw [e]
    simp [mkR, upd']
  rw [e1, mkR_congr (B := upd' B l b) (C := B) (fun x hx => upd_out hx n1), mkR_congr (now := now.drop (pIx now l + 1)) (B := upd' B l b) (C := B) (fun x hx => upd_out hx n2)]
  simp [mkR, List.map_take, List.map_drop]
section
variable {now : List SV} {B : SV → Bx} {l : SV}
theorem L_take (hL : Labs now) (h9 : now.length ≤ 900) (h : l ∈ now) : Led (mkR now B) (.take [] l) (mkR (now.eraseIdx (pIx now l)) B) := by
  have := led_take (r := mkR now B) (mkR_labR hL) (by rw [mkR_len]; exact h9) (hL l h) (plc_in h).1
  have e : (mkR now B).eraseIdx (pIx now l) = mkR (now.eraseIdx (pIx now l)) B := by
    simp [mkR, List.eraseIdx_eq_take_drop_succ, List.map_take, List.map_drop]
  rw [e] at this
  exact this
theorem L_put {k : Nat} {t : Bool} (hL : Labs now) (h9 : now.length ≤ 900) (hl : Lab l) (h : l ∉ now) (hk : k ≤ now.length) : Led (mkR now B) (.put [] k l t) (mkR (insA now k l) (upd' B l ⟨t, none, false⟩)) := by
  have := led_put (r := mkR now B) (t := t) (mkR_labR hL) (by rw [mkR_len]; exact h9) hl (plc_out h) (by rw [mkR_len]; exact hk)
  have e : mkR (insA now k l) (upd' B l ⟨t, none, false⟩) = (mkR now B).take k ++ (l, ⟨t, none, false⟩) :: (mkR now B).drop k := by
    have e1 : mkR now B = mkR now (upd' B l ⟨t, none, false⟩) := mkR_congr fun x hx => (upd_out hx h).symm
    rw [e1]
    simp [mkR, insA, upd', List.map_take, List.map_drop]
  rw [← e] at this
  exact this
theorem L_move {k : Nat} (hL : Labs now) (h9 : now.length ≤ 900) (h : l ∈ now) (hk : k < now.length) : Led (mkR now B) (.move [] l k) (mkR (insA (now.eraseIdx (pIx now l)) k l) B) := by
  have := led_move (r := mkR now B) (mkR_labR hL) (by rw [mkR_len]; exact h9) (hL l h) (plc_in h).1 (plc_in h).2 (by rw [mkR_len]; exact hk)
  have e : mkR (insA (now.eraseIdx (pIx now l)) k l) B = ((mkR now B).eraseIdx (pIx now l)).take k ++ (l, B l) :: ((mkR now B).eraseIdx (pIx now l)).drop k := by
    have e1 : (mkR now B).eraseIdx (pIx now l) = mkR (now.eraseIdx (pIx now l)) B := by
      simp [mkR, List.eraseIdx_eq_take_drop_succ, List.map_take, List.map_drop]
    rw [e1]
    simp [mkR, insA, List.map_take, List.map_drop]
  rw [← e] at this
  exact this
theorem L_set {n : Int} (hL : Labs now) (h9 : now.length ≤ 900) (hn : now.Nodup) (h : l ∈ now) : Led (mkR now B) (.set [l] n) (mkR now (upd' B l { B l with sets := some n })) := by
  have := led_set (n := n) (mkR_labR (B := B) hL) (by rw [mkR_len]; exact h9) (hL l h) (plc_in h).1 (plc_in h).2
  rw [setB_mkR h hn] at this
  exact this
theorem L_unset (hL : Labs now) (h9 : now.length ≤ 900) (hn : now.Nodup) (h : l ∈ now) (hs : (B l).sets ≠ none) : Led (mkR now B) (.unset [l]) (mkR now (upd' B l { B l with sets := none })) := by
  have := led_unset (mkR_labR (B := B) hL) (by rw [mkR_len]; exact h9) (hL l h) (plc_in h).1 (plc_in h).2 hs
  rw [setB_mkR h hn] at this
  exact this
theorem L_iput (hL : Labs now) (h9 : now.length ≤ 900) (hn : now.Nodup) (h : l ∈ now) (hs : (B l).inn = false) : Led (mkR now B) (.put [l] 0 lab0 false) (mkR now (upd' B l { B l with inn := true })) := by
  have := led_iput (mkR_labR (B := B) hL) (by rw [mkR_len]; exact h9) (hL l h) (plc_in h).1 (plc_in h).2 hs
  rw [setB_mkR h hn] at this
  exact this
theorem L_itake (hL : Labs now) (h9 : now.length ≤ 900) (hn : now.Nodup) (h : l ∈ now) (hs : (B l).inn = true) : Led (mkR now B) (.take [l] lab0) (mkR now (upd' B l { B l with inn := false })) := by
  have := led_itake (mkR_labR (B := B) hL) (by rw [mkR_len]; exact h9) (hL l h) (plc_in h).1 (plc_in h).2 hs
  rw [setB_mkR h hn] at this
  exact this
end
theorem upd_upd (B : SV → Bx) (l : SV) (b c : Bx) : upd' (upd' B l b) l c = upd' B l c := by
  funext x
  unfold upd'
  split <;> rfl
theorem upd_at (B : SV → Bx) (l : SV) (b : Bx) : upd' B l b l = b := by simp [upd']
theorem upd_self (B : SV → Bx) (l : SV) : upd' B l (B l) = B := by
  funext x
  unfold upd'
  split
  · rename_i e
    rw [e]
  · rfl
/-- an empty box is filled -/
theorem leds_fill {now : List SV} {B : SV → Bx} {l : SV} {b : Bx} (hL : Labs now) (h9 : now.length ≤ 900) (hn : now.Nodup) (h : l ∈ now) : Leds (mkR now (upd' B l ⟨b.tag, none, false⟩)) (fillD [l] b) (mkR now (upd' B l b)) := by
  obtain ⟨t, s, i⟩ := b
  have s1 : ∀ (c : Bx) (n : Int), Led (mkR now (upd' B l c)) (.set [l] n) (mkR now (upd' B l { c with sets := some n })) := fun c n => by
    have := L_set (B := upd' B l c) (n := n) hL h9 hn h
    rw [upd_at, upd_upd] at this
    exact this
  have s2 : ∀ c : Bx, c.inn = false → Led (mkR now (upd' B l c)) (.put [l] 0 lab0 false) (mkR now (upd' B l { c with inn := true })) := fun c hc => by
    have := L_iput (B := upd' B l c) hL h9 hn h (by rw [upd_at]; exact hc)
    rw [upd_at, upd_upd] at this
    exact this
  cases s <;> cases i
  · exact .nil
  · exact .cons (s2 _ rfl) .nil
  · exact .cons (s1 _ _) .nil
  · exact .cons (s1 _ _) (.cons (s2 _ rfl) .nil)
def innD (ad : List SV) (i j : Bool) : List Dd := if i = true then (if j = true then [] else [.take ad lab0]) else (if j = true then [.put ad 0 lab0 false] else [])
/-- a kept box is changed -/
theorem leds_box {now : List SV} {B : SV → Bx} {l : SV} {a b : Bx} (hL : Labs now) (h9 : now.length ≤ 900) (hn : now.Nodup) (h : l ∈ now) (ht : a.tag = b.tag) : Leds (mkR now (upd' B l a)) (boxD [l] a b ++ innD [l] a.inn b.inn) (mkR now (upd' B l b)) := by
  obtain ⟨t, s, i⟩ := a
  obtain ⟨t', s', i'⟩ := b
  cases ht
  have s1 : ∀ (c : Bx) (n : Int), Led (mkR now (upd' B l c)) (.set [l] n) (mkR now (upd' B l { c with sets := some n })) := fun c n => by
    have := L_set (B := upd' B l c) (n := n) hL h9 hn h
    rw [upd_at, upd_upd] at this
    exact this
  have s0 : ∀ (c : Bx), c.sets ≠ none → Led (mkR now (upd' B l c)) (.unset [l]) (mkR now (upd' B l { c with sets := none })) := fun c hc => by
    have := L_unset (B := upd' B l c) hL h9 hn h (by rw [upd_at]; exact hc)
    rw [upd_at, upd_upd] at this
    exact this
  have s2 : ∀ c : Bx, c.inn = false → Led (mkR now (upd' B l c)) (.put [l] 0 lab0 false) (mkR now (upd' B l { c with inn := true })) := fun c hc => by
    have := L_iput (B := upd' B l c) hL h9 hn h (by rw [upd_at]; exact hc)
    rw [upd_at, upd_upd] at this
    exact this
  have s3 : ∀ c : Bx, c.inn = true → Led (mkR now (upd' B l c)) (.take [l] lab0) (mkR now (upd' B l { c with inn := false })) := fun c hc => by
    have := L_itake (B := upd' B l c) hL h9 hn h (by rw [upd_at]; exact hc)
    rw [upd_at, upd_upd] at this
    exact this
  have a1 : Leds (mkR now (upd' B l ⟨t, s, i⟩)) (boxD [l] ⟨t, s, i⟩ ⟨t, s', i'⟩) (mkR now (upd' B l ⟨t, s', i⟩)) := by
    cases s with
    | none =>
      cases s' with
      | none => exact .nil
      | some n => exact .cons (s1 _ _) .nil
    | some k =>
      cases s' with
      | none => exact .cons (s0 _ (by simp)) .nil
      | some n =>
        by_cases e : k = n
        · subst e
          simp [boxD]
          exact .nil
        · simp [boxD, e]
          exact .cons (s1 _ _) .nil
  refine a1.append ?_
  cases i <;> cases i'
  · exact .nil
  · exact .cons (s2 _ rfl) .nil
  · exact .cons (s3 _ rfl) .nil
  · exact .nil
end VW

/-! viewwood k93, the plain law: taking, ordering, changing. -/
namespace VW
open PySem PySem.Spec PyProof.Rows L2
theorem pIx_mid {P R : List SV} {x : SV} (h : x ∉ P) : pIx (P ++ x :: R) x = P.length := by
  unfold pIx
  have : (P ++ x :: R).findIdx? (fun y => decide (y = x)) = some P.length := by
    rw [List.findIdx?_append]
    have e : P.findIdx? (fun y => decide (y = x)) = none := by
      rw [List.findIdx?_eq_none_iff]
      intro y hy
      simp
      intro e
      exact h (e ▸ hy)
    rw [e]
    simp [List.findIdx?_cons]
  rw [this]
  rfl
theorem erase_mid {P R : List SV} {x : SV} : (P ++ x :: R).eraseIdx P.length = P ++ R := by
  rw [List.eraseIdx_append_of_length_le (Nat.le_refl _)]
  simp
theorem leds_take {B : SV → Bx} {mine : List SV} : ∀ (R P : List SV), Labs (P ++ R) → (P ++ R).length ≤ 900 → (P ++ R).Nodup →
    Leds (mkR (P ++ R) B) ((R.filter fun l => !decide (l ∈ mine)).map (Dd.take [])) (mkR (P ++ R.filter fun l => decide (l ∈ mine)) B)
  | [], P, _, _, _ => by simpa using Leds.nil
  | x :: R, P, hL, h9, hn => by
    by_cases e : x ∈ mine
    · have := leds_take (B := B) (mine := mine) R (P ++ [x]) (by simpa using hL) (by simpa using h9) (by simpa using hn)
      simpa [e] using this
    · have hx : x ∉ P := by
        rw [List.nodup_append] at hn
        exact fun h => hn.2.2 x h x (by simp) rfl
      have h1 := L_take (B := B) hL h9 (l := x) (by simp)
      rw [pIx_mid hx, erase_mid] at h1
      have hsub : List.Sublist (P ++ R) (P ++ x :: R) := List.Sublist.append_left (List.sublist_cons_self x R) P
      have := leds_take (B := B) (mine := mine) R P (fun y hy => hL y (hsub.subset hy)) (Nat.le_trans hsub.length_le h9) (hn.sublist hsub)
      have e2 : (x :: R).filter (fun l => !decide (l ∈ mine)) = x :: R.filter fun l => !decide (l ∈ mine) := by simp [e]
      have e3 : (x :: R).filter (fun l => decide (l ∈ mine)) = R.filter fun l => decide (l ∈ mine) := by simp [e]
      rw [e2, e3]
      exact .cons h1 this
/-! ### one more in its place -/
theorem split_eq {α : Type} {X X' Y Y' : List α} {p : α} (e : X ++ p :: Y = X' ++ p :: Y') (h : p ∉ X) (h' : p ∉ X') : X = X' ∧ Y = Y' := by
  induction X generalizing X' with
  | nil =>
    cases X' with
    | nil => exact ⟨rfl, by injection e⟩
    | cons x X' =>
      injection e with e1 e2
      exact absurd (by simp [e1]) h'
  | cons x X ih =>
    cases X' with
    | nil =>
      injection e with e1 e2
      exact absurd (by simp [e1]) h
    | cons x' X' =>
      injection e with e1 e2
      obtain ⟨a, b⟩ := ih e2 (fun z => h (by simp [z])) (fun z => h' (by simp [z]))
      exact ⟨by rw [e1, a], b⟩
theorem filt_ne {xs : List SV} {s : SV → Bool} {l : SV} (h : l ∉ xs) : xs.filter (fun x => s x || decide (x = l)) = xs.filter s := by
  refine List.filter_congr fun x hx => ?_
  have : ¬ x = l := fun e => h (e ▸ hx)
  simp [this]
theorem put_in {w T R : List SV} {l : SV} {s : SV → Bool} (hw : w.Nodup) (hl : l ∉ w) (hn : (T ++ l :: R).Nodup) (hs : s l = false) (hT : ∀ x ∈ T, s x = true ∧ x ∈ w) (e : w.filter s = (T ++ l :: R).filter s) :
    (insA w (pBh w T.getLast?) l).filter (fun x => s x || decide (x = l)) = (T ++ l :: R).filter (fun x => s x || decide (x = l)) := by
  have hn2 := hn
  rw [List.nodup_append] at hn
  obtain ⟨nT, nR, nTR⟩ := hn
  have hlT : l ∉ T := fun h => nTR l h l (by simp) rfl
  have hlR : l ∉ R := (List.nodup_cons.mp nR).1
  rw [List.filter_append, List.filter_cons_of_neg (by simp [hs])] at e
  have er : (T ++ l :: R).filter (fun x => s x || decide (x = l)) = T.filter s ++ l :: R.filter s := by
    rw [List.filter_append, List.filter_cons_of_pos (by simp), filt_ne hlT, filt_ne hlR]
  rw [er]
  rcases List.eq_nil_or_concat T with rfl | ⟨T0, p, rfl⟩
  · simp [pBh, insA]
    rw [filt_ne hl, e]
    simp
  · rw [List.concat_eq_append] at *
    have hp := hT p (by simp)
    have e1 : (T0 ++ [p]).getLast? = some p := by simp
    rw [e1]
    have hsp := split_at hp.2
    obtain ⟨n1, n2⟩ := not_take hp.2 hw
    have hpT0 : p ∉ T0 := by
      rw [List.nodup_append] at nT
      exact fun h => nT.2.2 p h p (by simp) rfl
    have ei : insA w (pIx w p + 1) l = w.take (pIx w p) ++ p :: l :: w.drop (pIx w p + 1) := by
      unfold insA
      rw [take_snoc (pIx_of hp.2).2]
      simp
    simp only [pBh]
    rw [ei]
    have hl1 : l ∉ w.take (pIx w p) := fun h => hl (List.mem_of_mem_take h)
    have hl2 : l ∉ w.drop (pIx w p + 1) := fun h => hl (List.mem_of_mem_drop h)
    rw [List.filter_append, List.filter_cons_of_pos (by simp [hp.1]), List.filter_cons_of_pos (by simp), filt_ne hl1, filt_ne hl2]
    have e2 : (w.take (pIx w p)).filter s ++ p :: (w.drop (pIx w p + 1)).filter s = T0.filter s ++ p :: R.filter s := by
      have : w.filter s = (w.take (pIx w p)).filter s ++ p :: (w.drop (pIx w p + 1)).filter s := by
        conv => lhs; rw [hsp]
        rw [List.filter_append, List.filter_cons_of_pos hp.1]
      rw [← this, e, List.filter_append, List.filter_cons_of_pos hp.1]
      simp
    obtain ⟨a1, a2⟩ := split_eq e2 (fun h => n1 (List.mem_filter.mp h).1) (fun h => hpT0 (List.mem_filter.mp h).1)
    rw [a1, a2, List.filter_append, List.filter_cons_of_pos hp.1]
    simp
theorem nodup_insA {w : List SV} {k : Nat} {l : SV} (hw : w.Nodup) (hl : l ∉ w) : (insA w k l).Nodup := by
  unfold insA
  have h := hw
  rw [← List.take_append_drop k w, List.nodup_append] at h
  rw [List.nodup_append]
  refine ⟨h.1, List.nodup_cons.mpr ⟨fun z => hl (List.mem_of_mem_drop z), h.2.1⟩, fun a ha b hb e => ?_⟩
  rcases List.mem_cons.mp hb with rfl | hb
  · subst e
    exact hl (List.mem_of_mem_take ha)
  · exact h.2.2 a ha b hb e
theorem pBh_le {w : List SV} {T : List SV} (h : ∀ x ∈ T, x ∈ w) : pBh w T.getLast? ≤ w.length := by
  cases e : T.getLast? with
  | none => simp [pBh]
  | some p =>
    have := pIx_lt (h p (List.mem_of_getLast? e))
    simp only [pBh]
    omega
theorem erase_of {w : List SV} {l : SV} (h : l ∈ w) (hw : w.Nodup) : w.eraseIdx (pIx w l) = w.filter fun x => !decide (x = l) := by
  obtain ⟨n1, n2⟩ := not_take h hw
  have e := split_at h
  rw [List.eraseIdx_eq_take_drop_succ]
  conv => rhs; rw [e]
  rw [List.filter_append, List.filter_cons_of_neg (by simp), List.filter_eq_self.mpr, List.filter_eq_self.mpr]
  · intro x hx
    simp
    exact fun z => n2 (z ▸ hx)
  · intro x hx
    simp
    exact fun z => n1 (z ▸ hx)
/-- the order stage -/
theorem leds_ord {B : SV → Bx} {mine st nl : List SV} (hnl : nl.Nodup) (hLn : Labs nl) (hmn : ∀ x ∈ mine, x ∈ nl) (hsm : ∀ x ∈ st, x ∈ mine) (h9 : nl.length ≤ 900) : ∀ (rest : Row) (T now : List SV), nl = T ++ rest.map (·.1) → (∀ p ∈ rest, p.1 ∉ mine → B p.1 = p.2) → now.Nodup → (∀ x, x ∈ now ↔ x ∈ mine ∨ x ∈ T) →
    now.filter (fun x => decide (x ∈ T) || decide (x ∈ st)) = nl.filter (fun x => decide (x ∈ T) || decide (x ∈ st)) → Leds (mkR now B) (ordL mine st [] T.getLast? rest now) (mkR nl B)
  | [], T, now, eT, hB, hw, hm, hf => by
    rw [List.map_nil, List.append_nil] at eT
    have a1 : now.filter (fun x => decide (x ∈ T) || decide (x ∈ st)) = now := List.filter_eq_self.mpr fun x hx => by
      rcases (hm x).mp hx with h | h
      · have := hmn x h
        rw [eT] at this
        simp [this]
      · simp [h]
    have a2 : nl.filter (fun x => decide (x ∈ T) || decide (x ∈ st)) = nl := List.filter_eq_self.mpr fun x hx => by
      rw [eT] at hx
      simp [hx]
    rw [a1, a2] at hf
    rw [hf]
    exact .nil
  | (l, b) :: rest, T, now, eT, hB, hw, hm, hf => by
    have eT2 : nl = (T ++ [l]) ++ rest.map (·.1) := by rw [eT]; simp
    have eT3 : nl = T ++ l :: rest.map (·.1) := by rw [eT]; simp
    have hlT : l ∉ T := by
      rw [eT3, List.nodup_append] at hnl
      exact fun h => hnl.2.2 l h l (by simp) rfl
    have hln : l ∈ nl := by rw [eT3]; simp
    have hTn : ∀ x ∈ T, x ∈ now := fun x hx => (hm x).mpr (.inr hx)
    have gl : (T ++ [l]).getLast? = some l := by simp
    have hsub : ∀ x ∈ now, x ∈ nl := fun x hx => by
      rcases (hm x).mp hx with h | h
      · exact hmn x h
      · rw [eT3]
        simp [h]
    have hLw : Labs now := fun x hx => hLn x (hsub x hx)
    have hlen : now.length ≤ nl.length := nodup_len hw hsub
    have cong : ∀ xs : List SV, xs.filter (fun x => decide (x ∈ T ++ [l]) || decide (x ∈ st)) = xs.filter (fun x => (decide (x ∈ T) || decide (x ∈ st)) || decide (x = l)) := fun xs => List.filter_congr fun x _ => by
      simp only [List.mem_append, List.mem_singleton]
      by_cases h1 : x ∈ T <;> by_cases h2 : x ∈ st <;> by_cases h3 : x = l <;> simp [h1, h2, h3]
    have go := fun now' h1 h2 h3 => leds_ord (B := B) (st := st) hnl hLn hmn hsm h9 rest (T ++ [l]) now' eT2 (fun p hp => hB p (by simp [hp])) h1 h2 h3
    rw [gl] at go
    by_cases hmi : l ∈ mine
    · by_cases hs : l ∈ st
      · simp only [ordL, hmi, hs, if_true]
        refine go now hw (fun x => ?_) ?_
        · rw [hm x]
          simp only [List.mem_append, List.mem_singleton]
          constructor
          · rintro (h | h) <;> simp [h]
          · rintro (h | h | h)
            · exact .inl h
            · exact .inr h
            · exact .inl (h ▸ hmi)
        · have c2 : ∀ xs : List SV, xs.filter (fun x => (decide (x ∈ T) || decide (x ∈ st)) || decide (x = l)) = xs.filter (fun x => decide (x ∈ T) || decide (x ∈ st)) := fun xs => List.filter_congr fun x _ => by
            by_cases h : x = l
            · subst h
              simp [hs]
            · simp [h]
          rw [cong, cong, c2, c2]
          exact hf
      · have hlw : l ∈ now := (hm l).mpr (.inl hmi)
        have hjn := pIx_lt hlw
        have he := erase_of hlw hw
        have hle : l ∉ now.eraseIdx (pIx now l) := by
          rw [he]
          simp
        have hwe : (now.eraseIdx (pIx now l)).Nodup := by
          rw [he]
          exact List.Pairwise.filter _ hw
        have hTe : ∀ x ∈ T, x ∈ now.eraseIdx (pIx now l) := fun x hx => mem_er hlw (hTn x hx) (fun e => hlT (e ▸ hx))
        have hsl : (decide (l ∈ T) || decide (l ∈ st)) = false := by simp [hlT, hs]
        have hfe : (now.eraseIdx (pIx now l)).filter (fun x => decide (x ∈ T) || decide (x ∈ st)) = (T ++ l :: rest.map (·.1)).filter (fun x => decide (x ∈ T) || decide (x ∈ st)) := by
          rw [← eT3, ← hf, he, List.filter_filter]
          refine List.filter_congr fun x _ => ?_
          by_cases h : x = l
          · subst h
            simp [hlT, hs]
          · simp [h]
        have hput := put_in hwe hle (by rw [← eT3]; exact hnl) hsl (fun x hx => ⟨by simp [hx], hTe x hx⟩) hfe
        have hkle := pBh_le hTe
        rw [List.length_eraseIdx, if_pos hjn] at hkle
        simp only [ordL, hmi, hs, if_true, if_false]
        refine .cons (L_move hLw (by omega) hlw (by omega)) (go _ (nodup_insA hwe hle) (fun x => ?_) ?_)
        · rw [mem_insA, he, List.mem_filter, hm x]
          simp only [List.mem_append, List.mem_singleton]
          by_cases h : x = l
          · simp [h]
          · simp [h]
        · rw [cong, cong, hput, ← eT3]
    · have hlw : l ∉ now := fun h => by
        rcases (hm l).mp h with h | h
        · exact hmi h
        · exact hlT h
      have hBl : B l = b := hB (l, b) (by simp) hmi
      simp only [ordL, hmi, if_false]
      have hkle := pBh_le hTn
      have hwi := nodup_insA (k := pBh now T.getLast?) hw hlw
      have hmi2 : ∀ x, x ∈ insA now (pBh now T.getLast?) l ↔ x ∈ mine ∨ x ∈ T ++ [l] := fun x => by
        rw [mem_insA, hm x]
        simp only [List.mem_append, List.mem_singleton]
        by_cases h : x = l <;> simp [h]
      have hLi : Labs (insA now (pBh now T.getLast?) l) := fun x hx => by
        rcases mem_insA.mp hx with h | h
        · exact h ▸ hLn l hln
        · exact hLw x h
      have hsi : ∀ x ∈ insA now (pBh now T.getLast?) l, x ∈ nl := fun x hx => by
        rcases mem_insA.mp hx with h | h
        · exact h ▸ hln
        · exact hsub x h
      have hli := nodup_len hwi hsi
      have p1 := L_put (B := B) (t := b.tag) hLw (by omega) (hLn l hln) hlw hkle
      have p2 := leds_fill (B := B) (b := b) hLi (by omega) hwi (mem_insA.mpr (.inl rfl))
      rw [show upd' B l b = B by rw [← hBl]; exact upd_self B l] at p2
      refine .cons p1 (p2.append (go _ hwi hmi2 ?_))
      rw [cong, cong, eT3]
      by_cases hs : l ∈ st
      · exact absurd (hsm l hs) hmi
      · have hsl : (decide (l ∈ T) || decide (l ∈ st)) = false := by simp [hlT, hs]
        exact put_in hw hlw (by rw [← eT3]; exact hnl) hsl (fun x hx => ⟨by simp [hx], hTn x hx⟩) (by rw [← eT3]; exact hf)
/-- the change stage -/
theorem leds_mine {o n : Row} {nl : List SV} (hL : Labs nl) (hn : nl.Nodup) (h9 : nl.length ≤ 900) : ∀ (ms : List SV), ms.Nodup → (∀ x ∈ ms, x ∈ nl ∧ (bO o x).tag = (bO n x).tag) →
    Leds (mkR nl fun x => if x ∈ ms then bO o x else bO n x) (ms.flatMap fun l => boxD [l] (bO o l) (bO n l) ++ innD [l] (bO o l).inn (bO n l).inn) (mkR nl (bO n))
  | [], _, _ => by
    simp
    exact .nil
  | x :: ms, hm, h => by
    have hx := h x (by simp)
    rw [List.nodup_cons] at hm
    have ih := leds_mine (o := o) (n := n) hL hn h9 ms hm.2 fun y hy => h y (by simp [hy])
    have h1 := leds_box (B := fun y => if y ∈ ms then bO o y else bO n y) (a := bO o x) (b := bO n x) hL h9 hn hx.1 hx.2
    have e1 : upd' (fun y => if y ∈ ms then bO o y else bO n y) x (bO o x) = fun y => if y ∈ x :: ms then bO o y else bO n y := by
      funext y
      unfold upd'
      by_cases h : y = x
      · subst h
        simp
      · simp [h]
    have e2 : upd' (fun y => if y ∈ ms then bO o y else bO n y) x (bO n x) = fun y => if y ∈ ms then bO o y else bO n y := by
      funext y
      unfold upd'
      by_cases h : y = x
      · subst h
        simp [hm.1]
      · simp [h]
    rw [e1, e2] at h1
    rw [List.flatMap_cons]
    exact h1.append ih
noncomputable section
theorem oD_nil {ad : List SV} : oD ad [] [] = [] := rfl
theorem keptL_nil {n : Row} : keptL [] [] n = [] := rfl
theorem kept_nil2 {o : Row} : keptL o o [] = [] := by
  rw [keptL, List.filter_eq_nil_iff]
  intro x _
  have : bAt ([] : Row) x = none := rfl
  unfold isK
  rw [this]
  cases bAt o x <;> simp
theorem kept_tt : keptL (innR true) (innR true) (innR true) = [lab0] := by
  have h1 : bAt (innR true) lab0 = some ⟨false, none, false⟩ := by simp [bAt, plc, innR]
  have h2 : isK (innR true) (innR true) lab0 = true := by simp [isK, h1]
  simp [keptL, innR] at h2 ⊢
  exact h2
theorem st_tt : (papC [lab0] [lab0]).1 = [lab0] := by
  have h := kept_pap (rowOk_inn true) (rowOk_inn true)
  rw [kept_tt] at h
  generalize hs : (papC [lab0] [lab0]).1 = st at h
  generalize (papC [lab0] [lab0]).2 = fl at h
  have h1 := h.fA
  have h2 := h.lr.len
  have h3 := h.lr.fln
  by_cases e : lab0 ∈ st
  · simp [e] at h1
    exact h1.symm
  · simp [e] at h1
    subst h1
    have h4 : fl = [] := List.length_eq_zero_iff.mp h2.symm
    subst h4
    simp at h3
theorem bO_tt : bO (innR true) lab0 = ⟨false, none, false⟩ := by
  have h1 : bAt (innR true) lab0 = some ⟨false, none, false⟩ := by simp [bAt, plc, innR]
  exact bO_of h1
theorem rd_inn (ad : List SV) (i j : Bool) : rdD 2 ad (innR i) (innR j) = innD ad i j := by
  cases i <;> cases j
  · rfl
  · have e1 : oD ad (innR false) (innR true) = [.put ad 0 lab0 false] := by
      unfold oD
      rw [show keptL (innR false) (innR false) (innR true) = [] from rfl]
      rfl
    show oD ad (innR false) (innR true) ++ _ = _
    rw [e1, show keptL (innR false) (innR false) (innR true) = [] from rfl]
    rfl
  · have k1 : keptL (innR true) (innR true) (innR false) = [] := kept_nil2
    have e1 : oD ad (innR true) (innR false) = [.take ad lab0] := by
      unfold oD
      rw [k1]
      rfl
    show oD ad (innR true) (innR false) ++ _ = _
    rw [e1, k1]
    rfl
  · have e1 : oD ad (innR true) (innR true) = [] := by
      unfold oD
      rw [kept_tt, st_tt]
      simp [takeD, innR, ordL]
    show oD ad (innR true) (innR true) ++ (keptL (innR true) (innR true) (innR true)).flatMap _ = _
    rw [e1, kept_tt]
    simp only [List.nil_append, List.flatMap_cons, List.flatMap_nil, bO_tt]
    rfl
theorem rdD_eq (o n : Row) : rdD 3 [] o n = oD [] o n ++ (keptL o o n).flatMap fun l => boxD [l] (bO o l) (bO n l) ++ innD [l] (bO o l).inn (bO n l).inn := by
  show oD [] o n ++ (keptL o o n).flatMap (fun l => boxD ([] ++ [l]) (bO o l) (bO n l) ++ rdD 2 ([] ++ [l]) (innR (bO o l).inn) (innR (bO n l).inn)) = _
  congr 1
  congr 1
  funext l
  rw [rd_inn]
  rfl
theorem leds_all {o n : Row} (ho : RowOk o) (hn : RowOk n) : Leds o (rdD 3 [] o n) n := by
  have hP := kept_pap ho hn
  have hol := ho.len
  have hnl := hn.len
  rw [rdD_eq]
  unfold oD
  generalize hst : (papC (keptL o o n) (keptL n o n)).1 = st at hP ⊢
  generalize (papC (keptL o o n) (keptL n o n)).2 = fl at hP
  have hLo : Labs (o.map (·.1)) := fun x hx => labR_mem ho.lab hx
  have hLn : Labs (n.map (·.1)) := fun x hx => labR_mem hn.lab hx
  have hmn : ∀ x ∈ keptL o o n, x ∈ n.map (·.1) := fun x hx => (isK_in (mem_keptL hx).2).2
  have hnm : (keptL o o n).Nodup := List.Pairwise.filter _ ho.nd
  -- taking
  have s1 := leds_take (B := bO o) (mine := keptL o o n) (o.map (·.1)) [] (by simpa using hLo) (by simp; omega) (by simpa using ho.nd)
  have e1 : (o.map (·.1)).filter (fun l => decide (l ∈ keptL o o n)) = keptL o o n := by
    refine List.filter_congr fun x hx => ?_
    simp only [mem_keptL', hx, true_and]
    cases isK o n x <;> simp
  rw [e1, List.nil_append, List.nil_append, ← row_mkR ho] at s1
  -- ordering
  let B2 : SV → Bx := fun x => if x ∈ keptL o o n then bO o x else bO n x
  have s2 := leds_ord (B := B2) (mine := keptL o o n) (st := st) hn.nd hLn hmn (fun x hx => (hP.lr.st_ x hx).1) (by simp; omega) n [] (keptL o o n) (by simp) (fun p hp hm => ?_) hnm (fun x => by simp) ?_
  rotate_left
  · show (if p.1 ∈ keptL o o n then _ else bO n p.1) = p.2
    rw [if_neg hm]
    have hr := row_mkR hn
    rw [hr] at hp
    obtain ⟨l, hl, rfl⟩ := List.mem_map.mp hp
    rfl
  · have a1 : (keptL o o n).filter (fun x => decide (x ∈ ([] : List SV)) || decide (x ∈ st)) = st := by
      rw [← hP.fA]
      refine List.filter_congr fun x _ => ?_
      rw [hP.fA]
      simp
    have a2 : (n.map (·.1)).filter (fun x => decide (x ∈ ([] : List SV)) || decide (x ∈ st)) = st := by
      have hB := hP.fB
      rw [keptL, List.filter_filter] at hB
      refine Eq.trans (List.filter_congr fun x hx => ?_) hB
      by_cases h : x ∈ st
      · have := (mem_keptL (hP.lr.st_ x h).1).2
        simp [h, this]
      · simp [h]
    rw [a1, a2]
  have e2 : mkR (keptL o o n) (bO o) = mkR (keptL o o n) B2 := mkR_congr fun x hx => by
    show bO o x = if x ∈ keptL o o n then bO o x else bO n x
    rw [if_pos hx]
  rw [e2] at s1
  -- changing
  have s3 := leds_mine (o := o) (n := n) hLn hn.nd (by simp; omega) (keptL o o n) hnm fun x hx => ⟨hmn x hx, by
    obtain ⟨a, b, h1, h2, h3⟩ := isK_some (mem_keptL hx).2
    rw [bO_of h1, bO_of h2, h3]⟩
  rw [← row_mkR hn] at s3
  exact (s1.append s2).append s3
end
end VW

/-! viewwood k93, the plain law: the told paper is let by. -/
namespace VW
open PySem PySem.Spec PyProof.Rows L2
theorem nodup_fm {α β : Type} {g : α → List β} : ∀ {xs : List α}, xs.Nodup → (∀ x ∈ xs, (g x).Nodup) → (∀ x ∈ xs, ∀ y ∈ xs, x ≠ y → ∀ z ∈ g x, z ∉ g y) → (xs.flatMap g).Nodup
  | [], _, _, _ => by simp
  | x :: xs, hn, h1, h2 => by
    rw [List.nodup_cons] at hn
    rw [List.flatMap_cons, List.nodup_append]
    refine ⟨h1 x (by simp), nodup_fm hn.2 (fun y hy => h1 y (by simp [hy])) fun y hy z hz => h2 y (by simp [hy]) z (by simp [hz]), fun a ha b hb e => ?_⟩
    subst e
    obtain ⟨y, hy, hay⟩ := List.mem_flatMap.mp hb
    exact h2 x (by simp) y (by simp [hy]) (fun e => hn.1 (e ▸ hy)) a ha hay
def OrdM (mine st ad : List SV) (d : Dd) (rest : Row) (N : Nat) : Prop := (∃ l b k, (l, b) ∈ rest ∧ l ∉ mine ∧ d = .put ad k l b.tag ∧ k ≤ N) ∨ (∃ l b, (l, b) ∈ rest ∧ l ∉ mine ∧ d ∈ fillD (ad ++ [l]) b) ∨ (∃ l b k, (l, b) ∈ rest ∧ l ∈ mine ∧ l ∉ st ∧ d = .move ad l k ∧ k ≤ N)
theorem OrdM.lift {mine st ad : List SV} {d : Dd} {rest : Row} {N M : Nat} {p : SV × Bx} (h : OrdM mine st ad d rest N) (hNM : N ≤ M) : OrdM mine st ad d (p :: rest) M := by
  rcases h with ⟨l', b', k, h1, h2, h3, h4⟩ | ⟨l', b', h1, h2, h3⟩ | ⟨l', b', k, h1, h2, h3, h4, h5⟩
  · exact .inl ⟨l', b', k, List.mem_cons_of_mem p h1, h2, h3, Nat.le_trans h4 hNM⟩
  · exact .inr (.inl ⟨l', b', List.mem_cons_of_mem p h1, h2, h3⟩)
  · exact .inr (.inr ⟨l', b', k, List.mem_cons_of_mem p h1, h2, h3, h4, Nat.le_trans h5 hNM⟩)
theorem ord_mem {mine st ad : List SV} {d : Dd} : ∀ (rest : Row) (pv : Option SV) (now : List SV), d ∈ ordL mine st ad pv rest now → OrdM mine st ad d rest (now.length + rest.length + 1)
  | [], _, _, h => by simp [ordL] at h
  | (l, b) :: rest, pv, now, h => by
    have hpb : ∀ w : List SV, pBh w pv ≤ w.length + 1 := fun w => by
      cases pv with
      | none => simp [pBh]
      | some x =>
        simp only [pBh]
        by_cases hx : x ∈ w
        · have := pIx_lt hx
          omega
        · have : pIx w x = 0 := by
            unfold pIx
            rw [List.findIdx?_eq_none_iff.mpr]
            · rfl
            · intro y hy
              simp
              exact fun e => hx (e ▸ hy)
          omega
    have lift : ∀ (pv' : Option SV) (now' : List SV), now'.length ≤ now.length + 1 → d ∈ ordL mine st ad pv' rest now' → OrdM mine st ad d ((l, b) :: rest) (now.length + ((l, b) :: rest).length + 1) := fun pv' now' hl h' => (ord_mem rest pv' now' h').lift (by simp; omega)
    have hel := List.length_eraseIdx_le now (pIx now l)
    simp only [ordL] at h
    split at h
    · rename_i hm
      split at h
      · exact lift _ _ (by omega) h
      · rename_i hs
        rcases List.mem_cons.mp h with e | h
        · refine .inr (.inr ⟨l, b, _, by simp, hm, hs, e, ?_⟩)
          have := hpb (now.eraseIdx (pIx now l))
          simp
          omega
        · exact lift _ _ (by rw [len_insA]; omega) h
    · rename_i hm
      rcases List.mem_cons.mp h with e | h
      · refine .inl ⟨l, b, _, by simp, hm, e, ?_⟩
        have := hpb now
        simp
        omega
      · rcases List.mem_append.mp h with h | h
        · exact .inr (.inl ⟨l, b, by simp, hm, h⟩)
        · exact lift _ _ (by rw [len_insA]; omega) h
theorem fill_mem {ad : List SV} {b : Bx} {d : Dd} (h : d ∈ fillD ad b) : (∃ x, b.sets = some x ∧ d = .set ad x) ∨ (b.inn = true ∧ d = .put ad 0 lab0 false) := by
  obtain ⟨t, s, i⟩ := b
  unfold fillD at h
  rcases List.mem_append.mp h with h | h
  · cases s with
    | none => cases h
    | some x =>
      simp at h
      exact .inl ⟨x, rfl, h⟩
  · cases i with
    | false => cases h
    | true =>
      simp at h
      exact .inr ⟨rfl, h⟩
theorem box_mem {ad : List SV} {a b : Bx} {d : Dd} (h : d ∈ boxD ad a b) : (b.sets = none ∧ d = .unset ad) ∨ ∃ x, b.sets = some x ∧ a.sets ≠ some x ∧ d = .set ad x := by
  obtain ⟨t, s, i⟩ := a
  obtain ⟨t', s', i'⟩ := b
  cases s with
  | none =>
    cases s' with
    | none => cases h
    | some x =>
      simp [boxD] at h
      exact .inr ⟨x, rfl, by simp, h⟩
  | some k =>
    cases s' with
    | none =>
      simp [boxD] at h
      exact .inl ⟨rfl, h⟩
    | some x =>
      by_cases e : k = x
      · subst e
        simp [boxD] at h
      · simp [boxD, e] at h
        exact .inr ⟨x, rfl, by simpa using e, h⟩
theorem inn_mem {ad : List SV} {i j : Bool} {d : Dd} (h : d ∈ innD ad i j) : (i = true ∧ j = false ∧ d = .take ad lab0) ∨ (i = false ∧ j = true ∧ d = .put ad 0 lab0 false) := by
  cases i <;> cases j <;> simp [innD] at h
  · exact .inr ⟨rfl, rfl, h⟩
  · exact .inl ⟨rfl, rfl, h⟩
theorem fill_len {ad : List SV} {b : Bx} : (fillD ad b).length ≤ 2 := by
  obtain ⟨t, s, i⟩ := b
  cases s <;> cases i <;> simp [fillD]
theorem ord_len {mine st ad : List SV} : ∀ (rest : Row) (pv : Option SV) (now : List SV), (ordL mine st ad pv rest now).length ≤ 3 * rest.length
  | [], _, _ => by simp [ordL]
  | (l, b) :: rest, pv, now => by
    simp only [ordL, List.length_cons]
    split
    · split
      · have := ord_len (mine := mine) (st := st) (ad := ad) rest (some l) now
        omega
      · rw [List.length_cons]
        have := ord_len (mine := mine) (st := st) (ad := ad) rest (some l) (insA (now.eraseIdx (pIx now l)) (pBh (now.eraseIdx (pIx now l)) pv) l)
        omega
    · rw [List.length_cons, List.length_append]
      have := ord_len (mine := mine) (st := st) (ad := ad) rest (some l) (insA now (pBh now pv) l)
      have := fill_len (ad := ad ++ [l]) (b := b)
      omega
theorem fm_len {α β : Type} {g : α → List β} {c : Nat} (h : ∀ x, (g x).length ≤ c) : ∀ xs : List α, (xs.flatMap g).length ≤ c * xs.length
  | [] => by simp
  | x :: xs => by
    rw [List.flatMap_cons, List.length_append, List.length_cons]
    have := fm_len h xs
    have := h x
    rw [Nat.mul_add]
    omega
theorem box_len {ad : List SV} {a b : Bx} : (boxD ad a b).length ≤ 1 := by
  obtain ⟨t, s, i⟩ := a
  obtain ⟨t', s', i'⟩ := b
  cases s <;> cases s' <;> simp [boxD]
  split <;> simp
theorem inn_len {ad : List SV} {i j : Bool} : (innD ad i j).length ≤ 1 := by cases i <;> cases j <;> simp [innD]
noncomputable section
theorem rdD_len {o n : Row} (ho : RowOk o) (hn : RowOk n) : (rdD 3 [] o n).length ≤ 900 := by
  have hol := ho.len
  have hnl := hn.len
  have hk : (keptL o o n).length ≤ 5 := Nat.le_trans kept_len hol
  rw [rdD_eq, List.length_append, oD, List.length_append]
  have h1 : (takeD [] (keptL o o n) o).length ≤ 5 := by
    unfold takeD
    rw [List.length_map]
    have := List.length_filter_le (fun l => !decide (l ∈ keptL o o n)) (o.map (·.1))
    rw [List.length_map] at this
    omega
  have h2 := ord_len (mine := keptL o o n) (st := (papC (keptL o o n) (keptL n o n)).1) (ad := []) n none (keptL o o n)
  have h3 := fm_len (g := fun l => boxD [l] (bO o l) (bO n l) ++ innD [l] (bO o l).inn (bO n l).inn) (c := 2) (fun l => by
    rw [List.length_append]
    have := box_len (ad := [l]) (a := bO o l) (b := bO n l)
    have := inn_len (ad := [l]) (i := (bO o l).inn) (j := (bO n l).inn)
    omega) (keptL o o n)
  omega
def exT (l : SV) (i j : Bool) : List Tr := if (i && j) = true then [([l, lab0], [], [])] else []
theorem rdT_inn (l : SV) (i j : Bool) : rdT 2 [l] (innR i) (innR j) = ([l], innR i, innR j) :: exT l i j := by
  cases i <;> cases j
  · rfl
  · show ([l], innR false, innR true) :: (keptL (innR false) (innR false) (innR true)).flatMap _ = _
    rw [show keptL (innR false) (innR false) (innR true) = [] from rfl]
    rfl
  · show ([l], innR true, innR false) :: (keptL (innR true) (innR true) (innR false)).flatMap _ = _
    rw [show keptL (innR true) (innR true) (innR false) = [] from kept_nil2]
    rfl
  · show ([l], innR true, innR true) :: (keptL (innR true) (innR true) (innR true)).flatMap _ = _
    rw [kept_tt]
    simp only [List.flatMap_cons, List.flatMap_nil, bO_tt]
    rfl
theorem rdT_eq (o n : Row) : rdT 3 [] o n = ([], o, n) :: (keptL o o n).flatMap fun l => ([l], innR (bO o l).inn, innR (bO n l).inn) :: exT l (bO o l).inn (bO n l).inn := by
  show ([], o, n) :: (keptL o o n).flatMap (fun l => rdT 2 ([] ++ [l]) (innR (bO o l).inn) (innR (bO n l).inn)) = _
  congr 1
  congr 1
  funext l
  exact rdT_inn l _ _
theorem rdT_len {o n : Row} (ho : RowOk o) : (rdT 3 [] o n).length < 60 := by
  have hk : (keptL o o n).length ≤ 5 := Nat.le_trans kept_len ho.len
  rw [rdT_eq, List.length_cons]
  have h3 := fm_len (g := fun l => (([l], innR (bO o l).inn, innR (bO n l).inn) : Tr) :: exT l (bO o l).inn (bO n l).inn) (c := 2) (fun l => by
    rw [List.length_cons]
    cases (bO o l).inn <;> cases (bO n l).inn <;> simp [exT]) (keptL o o n)
  omega
theorem ex_mem {l : SV} {i j : Bool} {t : Tr} (h : t ∈ exT l i j) : i = true ∧ j = true ∧ t = ([l, lab0], [], []) := by
  cases i <;> cases j <;> simp [exT] at h
  exact ⟨rfl, rfl, h⟩
theorem rdT_nd {o n : Row} (ho : RowOk o) : ((rdT 3 [] o n).map fun t => t.1).Nodup := by
  have hnm : (keptL o o n).Nodup := List.Pairwise.filter _ ho.nd
  rw [rdT_eq, List.map_cons, List.map_flatMap, List.nodup_cons]
  have hin : ∀ l ad, ad ∈ ((([l], innR (bO o l).inn, innR (bO n l).inn) : Tr) :: exT l (bO o l).inn (bO n l).inn).map (fun t => t.1) → ad = [l] ∨ ad = [l, lab0] := fun l ad h => by
    rw [List.map_cons, List.mem_cons] at h
    rcases h with h | h
    · exact .inl h
    · obtain ⟨t, ht, rfl⟩ := List.mem_map.mp h
      exact .inr (by rw [(ex_mem ht).2.2])
  refine ⟨fun h => ?_, nodup_fm hnm (fun l _ => ?_) fun x hx y hy hxy z hz hz2 => ?_⟩
  · obtain ⟨l, _, h⟩ := List.mem_flatMap.mp h
    rcases hin l _ h with h | h <;> cases h
  · cases (bO o l).inn <;> cases (bO n l).inn <;> simp [exT]
  · rcases hin x z hz with h1 | h1 <;> rcases hin y z hz2 with h2 | h2 <;> rw [h1] at h2 <;> injection h2 with h3 h4 <;> exact hxy h3
theorem rowAt_two {o : Row} {l : SV} {a : Bx} (h : bAt o l = some a) (hi : a.inn = true) : rowAt o [l, lab0] = some [] := by
  have h1 : bAt (innR true) lab0 = some ⟨false, none, false⟩ := by simp [bAt, plc, innR]
  have h2 : bAt [(lab0, ⟨false, none, false⟩)] lab0 = some ⟨false, none, false⟩ := h1
  simp [rowAt, boxAt, wk, h, hi, innR, h2]
theorem rdT_ok {o n : Row} (ho : RowOk o) (hn : RowOk n) : ∀ t ∈ rdT 3 [] o n, TOk o n t := by
  intro t ht
  rw [rdT_eq] at ht
  rcases List.mem_cons.mp ht with rfl | ht
  · exact ⟨⟨fun x hx => (by cases hx), by simp⟩, ho, hn, rfl, rfl⟩
  · obtain ⟨l, hl, ht⟩ := List.mem_flatMap.mp ht
    obtain ⟨hm, hk⟩ := mem_keptL hl
    have hlab := labR_mem ho.lab hm
    obtain ⟨a, b, e1, e2, _⟩ := isK_some hk
    rw [bO_of e1, bO_of e2] at ht
    rcases List.mem_cons.mp ht with rfl | ht
    · exact ⟨⟨fun x hx => (by simp at hx; subst hx; exact hlab), by simp⟩, rowOk_inn _, rowOk_inn _, by rw [rowAt_one, e1]; rfl, by rw [rowAt_one, e2]; rfl⟩
    · obtain ⟨h1, h2, rfl⟩ := ex_mem ht
      refine ⟨⟨fun x hx => ?_, by simp⟩, rowOk_inn false, rowOk_inn false, rowAt_two e1 h1, rowAt_two e2 h2⟩
      simp at hx
      rcases hx with rfl | rfl
      · exact hlab
      · exact lab0_lab
end
end VW

/-! viewwood k93, the plain law: every deed is one and fits; no two have one mark. -/
namespace VW
open PySem PySem.Spec PyProof.Rows L2
def SetOk (r : Row) : Prop := ∀ p ∈ r, ∀ x, p.2.sets = some x → NumOk x
noncomputable section
def stO (o n : Row) : List SV := (papC (keptL o o n) (keptL n o n)).1
inductive DM (o n : Row) : Dd → Prop
  | take (l : SV) : l ∈ o.map (·.1) → l ∉ keptL o o n → DM o n (.take [] l)
  | put (l : SV) (b : Bx) (k : Nat) : (l, b) ∈ n → l ∉ keptL o o n → k ≤ 1000 → DM o n (.put [] k l b.tag)
  | fset (l : SV) (b : Bx) (x : Int) : (l, b) ∈ n → l ∉ keptL o o n → b.sets = some x → DM o n (.set [l] x)
  | fput (l : SV) (b : Bx) : (l, b) ∈ n → l ∉ keptL o o n → b.inn = true → DM o n (.put [l] 0 lab0 false)
  | move (l : SV) (k : Nat) : l ∈ keptL o o n → l ∉ stO o n → k ≤ 1000 → DM o n (.move [] l k)
  | unset (l : SV) (a b : Bx) : l ∈ keptL o o n → bAt o l = some a → bAt n l = some b → b.sets = none → DM o n (.unset [l])
  | set (l : SV) (a b : Bx) (x : Int) : l ∈ keptL o o n → bAt o l = some a → bAt n l = some b → b.sets = some x → a.sets ≠ some x → DM o n (.set [l] x)
  | itake (l : SV) (a b : Bx) : l ∈ keptL o o n → bAt o l = some a → bAt n l = some b → a.inn = true → b.inn = false → DM o n (.take [l] lab0)
  | iput (l : SV) (a b : Bx) : l ∈ keptL o o n → bAt o l = some a → bAt n l = some b → a.inn = false → b.inn = true → DM o n (.put [l] 0 lab0 false)
theorem dm_of {o n : Row} (ho : RowOk o) (hn : RowOk n) {d : Dd} (h : d ∈ rdD 3 [] o n) : DM o n d := by
  have hol := ho.len
  have hnl := hn.len
  have hk : (keptL o o n).length ≤ 5 := Nat.le_trans kept_len hol
  rw [rdD_eq] at h
  rcases List.mem_append.mp h with h | h
  · unfold oD at h
    rcases List.mem_append.mp h with h | h
    · unfold takeD at h
      obtain ⟨l, hl, rfl⟩ := List.mem_map.mp h
      rw [List.mem_filter] at hl
      exact .take l hl.1 (by simpa using hl.2)
    · rcases ord_mem n none (keptL o o n) h with ⟨l, b, k, h1, h2, h3, h4⟩ | ⟨l, b, h1, h2, h3⟩ | ⟨l, b, k, h1, h2, h3, h4, h5⟩
      · subst h3
        exact .put l b k h1 h2 (by omega)
      · rcases fill_mem h3 with ⟨x, h4, rfl⟩ | ⟨h4, rfl⟩
        · exact .fset l b x h1 h2 h4
        · exact .fput l b h1 h2 h4
      · subst h4
        exact .move l k h2 h3 (by omega)
  · obtain ⟨l, hl, h⟩ := List.mem_flatMap.mp h
    obtain ⟨a, b, e1, e2, _⟩ := isK_some (mem_keptL hl).2
    rw [bO_of e1, bO_of e2] at h
    rcases List.mem_append.mp h with h | h
    · rcases box_mem h with ⟨h1, rfl⟩ | ⟨x, h1, h2, rfl⟩
      · exact .unset l a b hl e1 e2 h1
      · exact .set l a b x hl e1 e2 h1 h2
    · rcases inn_mem h with ⟨h1, h2, rfl⟩ | ⟨h1, h2, rfl⟩
      · exact .itake l a b hl e1 e2 h1 h2
      · exact .iput l a b hl e1 e2 h1 h2
theorem bAt_of_mem {r : Row} (h : RowOk r) {l : SV} {b : Bx} (hm : (l, b) ∈ r) : bAt r l = some b := by
  have hl : l ∈ r.map (·.1) := List.mem_map.mpr ⟨_, hm, rfl⟩
  obtain ⟨k, c, _, _, e⟩ := bAt_mem hl
  have h2 := row_mkR h
  rw [h2] at hm
  obtain ⟨l', hl', e2⟩ := List.mem_map.mp hm
  injection e2 with e3 e4
  subst e3
  rw [e, ← e4, bO_of e]
theorem adOk_nil : AdOk [] := ⟨fun x hx => (by cases hx), by simp⟩
theorem adOk_one {l : SV} (h : Lab l) : AdOk [l] := ⟨fun x hx => (by simp at hx; subst hx; exact h), by simp⟩
theorem dm_ok {o n : Row} (ho : RowOk o) (hn : RowOk n) (hs : SetOk n) {d : Dd} (h : DM o n d) : DOk d := by
  have kl : ∀ l, l ∈ keptL o o n → Lab l := fun l hl => labs_keptL ho.lab l hl
  have nl : ∀ l b, (l, b) ∈ n → Lab l := fun l b hb => hn.lab _ hb
  have sn : ∀ l b x, bAt n l = some b → b.sets = some x → NumOk x := fun l b x h1 h2 => by
    obtain ⟨k, _, e⟩ := plc_of_bAt h1
    exact hs _ (List.mem_of_getElem? e) x h2
  cases h with
  | take l h1 h2 => exact ⟨adOk_nil, labR_mem ho.lab h1⟩
  | put l b k h1 h2 h3 => exact ⟨adOk_nil, nl l b h1, by omega⟩
  | fset l b x h1 h2 h3 => exact ⟨adOk_one (nl l b h1), hs _ h1 x h3⟩
  | fput l b h1 h2 h3 => exact ⟨adOk_one (nl l b h1), lab0_lab, by omega⟩
  | move l k h1 h2 h3 => exact ⟨adOk_nil, kl l h1, by omega⟩
  | unset l a b h1 h2 h3 h4 => exact adOk_one (kl l h1)
  | set l a b x h1 h2 h3 h4 h5 => exact ⟨adOk_one (kl l h1), sn l b x h3 h4⟩
  | itake l a b h1 h2 h3 h4 h5 => exact ⟨adOk_one (kl l h1), lab0_lab⟩
  | iput l a b h1 h2 h3 h4 h5 => exact ⟨adOk_one (kl l h1), lab0_lab, by omega⟩
theorem top_in (o n : Row) : (([], o, n) : Tr) ∈ rdT 3 [] o n := by rw [rdT_eq]; simp
theorem one_in {o n : Row} {l : SV} {a b : Bx} (hl : l ∈ keptL o o n) (e1 : bAt o l = some a) (e2 : bAt n l = some b) : (([l], innR a.inn, innR b.inn) : Tr) ∈ rdT 3 [] o n := by
  rw [rdT_eq]
  refine List.mem_cons_of_mem _ (List.mem_flatMap.mpr ⟨l, hl, ?_⟩)
  rw [bO_of e1, bO_of e2]
  simp
theorem one_out {o n : Row} {l : SV} (hl : l ∉ keptL o o n) : ∀ t ∈ rdT 3 [] o n, t.1 ≠ [l] := by
  intro t ht e
  rw [rdT_eq] at ht
  rcases List.mem_cons.mp ht with rfl | ht
  · cases e
  · obtain ⟨x, hx, ht⟩ := List.mem_flatMap.mp ht
    rcases List.mem_cons.mp ht with rfl | ht
    · injection e with e
      exact hl (e ▸ hx)
    · rw [(ex_mem ht).2.2] at e
      injection e with e1 e2
      cases e2
theorem not_isK {o n : Row} {l : SV} (h : l ∉ keptL o o n) : isK o n l = false := by
  cases e : isK o n l with
  | false => rfl
  | true => exact absurd (mem_keptL'.mpr ⟨(isK_in e).1, e⟩) h
theorem isK_inn {i j : Bool} (h : i = false ∨ j = false) : isK (innR i) (innR j) lab0 = false := by
  rcases h with rfl | rfl
  · have : bAt (innR false) lab0 = none := rfl
    unfold isK
    rw [this]
  · have : bAt (innR false) lab0 = none := rfl
    unfold isK
    rw [this]
    cases bAt (innR i) lab0 <;> rfl
theorem dm_fits {o n : Row} (ho : RowOk o) (hn : RowOk n) {d : Dd} (h : DM o n d) : FitsD o n (rdT 3 [] o n) d := by
  have kl : ∀ l, l ∈ keptL o o n → Lab l := fun l hl => labs_keptL ho.lab l hl
  have nl : ∀ l b, (l, b) ∈ n → Lab l := fun l b hb => hn.lab _ hb
  have hP := kept_pap ho hn
  cases h with
  | take l h1 h2 => exact .inr ⟨([], o, n), top_in o n, rfl, .inl ⟨rfl, fun m Q q => wf_take ho hn ho hn adOk_nil.1 rfl rfl (labR_mem ho.lab h1) h1 (not_isK h2) (q m .refl)⟩⟩
  | put l b k h1 h2 h3 => exact .inr ⟨([], o, n), top_in o n, rfl, .inl ⟨rfl, fun m Q q => wf_put ho hn ho hn adOk_nil.1 rfl rfl (nl l b h1) (List.mem_map.mpr ⟨_, h1, rfl⟩) (not_isK h2) (q m .refl)⟩⟩
  | fset l b x h1 h2 h3 => exact .inl ⟨one_out h2, fun m Q q => wl_set hn (adOk_one (nl l b h1)).1 (by rw [boxAt_one]; exact bAt_of_mem hn h1) h3 q⟩
  | fput l b h1 h2 h3 => exact .inl ⟨one_out h2, fun m Q q => wl_put hn (adOk_one (nl l b h1)).1 (by rw [boxAt_one]; exact bAt_of_mem hn h1) lab0_lab (by rw [h3]; simp [innR]) (q m .refl)⟩
  | move l k h1 h2 h3 =>
    refine .inr ⟨([], o, n), top_in o n, rfl, .inl ⟨rfl, fun m Q q => ?_⟩⟩
    exact wf_move ho hn ho hn adOk_nil.1 rfl rfl (kl l h1) (mem_keptL h1).2 (fun x hx => labs_keptL ho.lab x (hP.lr.st_ x hx).1) h2 (q m .refl)
  | unset l a b h1 h2 h3 h4 => exact .inr ⟨_, one_in h1 h2 h3, rfl, .inr ⟨rfl, fun m Q q => wb_unset ho hn (adOk_one (kl l h1)).1 (by rw [boxAt_one]; exact h2) (by rw [boxAt_one]; exact h3) h4 q⟩⟩
  | set l a b x h1 h2 h3 h4 h5 => exact .inr ⟨_, one_in h1 h2 h3, rfl, .inr ⟨rfl, fun m Q q => wb_set ho hn (adOk_one (kl l h1)).1 (by rw [boxAt_one]; exact h2) (by rw [boxAt_one]; exact h3) h4 h5 q⟩⟩
  | itake l a b h1 h2 h3 h4 h5 =>
    refine .inr ⟨_, one_in h1 h2 h3, rfl, .inl ⟨rfl, fun m Q q => ?_⟩⟩
    exact wf_take ho hn (rowOk_inn a.inn) (rowOk_inn b.inn) (adOk_one (kl l h1)).1 (by rw [rowAt_one, h2]; rfl) (by rw [rowAt_one, h3]; rfl) lab0_lab (by rw [h4]; simp [innR]) (isK_inn (.inr h5)) (q m .refl)
  | iput l a b h1 h2 h3 h4 h5 =>
    refine .inr ⟨_, one_in h1 h2 h3, rfl, .inl ⟨rfl, fun m Q q => ?_⟩⟩
    exact wf_put ho hn (rowOk_inn a.inn) (rowOk_inn b.inn) (adOk_one (kl l h1)).1 (by rw [rowAt_one, h2]; rfl) (by rw [rowAt_one, h3]; rfl) lab0_lab (by rw [h5]; simp [innR]) (isK_inn (.inl h4)) (q m .refl)

/-! ### the marks -/
def cellM (mine st : List SV) (p : SV × Bx) : List SV := if p.1 ∈ mine then (if p.1 ∈ st then [] else [.tup [.str "move", .tup [], p.1]]) else .tup [.str "put", .tup [], p.1] :: (fillD [p.1] p.2).map mk
theorem ord_marks {mine st : List SV} : ∀ (rest : Row) (pv : Option SV) (now : List SV), (ordL mine st [] pv rest now).map mk = rest.flatMap (cellM mine st)
  | [], _, _ => rfl
  | (l, b) :: rest, pv, now => by
    rw [List.flatMap_cons]
    simp only [ordL, cellM]
    split
    · split
      · rw [ord_marks rest]
        rfl
      · rw [List.map_cons, ord_marks rest]
        rfl
    · rw [List.map_cons, List.map_append, ord_marks rest]
      rfl
theorem w_ne : (SV.str "move" ≠ SV.str "put") ∧ (SV.str "take" ≠ SV.str "put") ∧ (SV.str "take" ≠ SV.str "move") ∧ (SV.str "set" ≠ SV.str "put") ∧ (SV.str "set" ≠ SV.str "take") := by decide +kernel
/-- (the word, the address, the label): of a mark -/
def inM (w : SV) (ad : List SV) (l : SV) : SV := .tup [w, .tup ad, l]
theorem inM_inj {w w' : SV} {ad ad' : List SV} {l l' : SV} (h : inM w ad l = inM w' ad' l') : w = w' ∧ ad = ad' ∧ l = l' := by
  simp [inM] at h
  exact ⟨h.1, h.2.1, h.2.2⟩
theorem fill_marks {l : SV} {b : Bx} : ∀ z ∈ (fillD [l] b).map mk, ∃ w x, z = inM w [l] x := fun z hz => by
  obtain ⟨d, hd, rfl⟩ := List.mem_map.mp hz
  rcases fill_mem hd with ⟨x, _, rfl⟩ | ⟨_, rfl⟩
  · exact ⟨_, _, rfl⟩
  · exact ⟨_, _, rfl⟩
theorem cell_marks {mine st : List SV} {p : SV × Bx} : ∀ z ∈ cellM mine st p, (∃ w, z = inM w [] p.1 ∧ w ≠ .str "take") ∨ (p.1 ∉ mine ∧ ∃ w x, z = inM w [p.1] x) := fun z hz => by
  unfold cellM at hz
  split at hz
  · split at hz
    · cases hz
    · simp at hz
      exact .inl ⟨.str "move", hz, fun e => w_ne.2.2.1 e.symm⟩
  · rename_i hm
    rcases List.mem_cons.mp hz with h | h
    · exact .inl ⟨.str "put", h, fun e => w_ne.2.1 e.symm⟩
    · exact .inr ⟨hm, fill_marks z h⟩
def boxM (o n : Row) (l : SV) : List SV := (boxD [l] (bO o l) (bO n l) ++ innD [l] (bO o l).inn (bO n l).inn).map mk
theorem box_marks {o n : Row} {l : SV} : ∀ z ∈ boxM o n l, ∃ w x, z = inM w [l] x := fun z hz => by
  obtain ⟨d, hd, rfl⟩ := List.mem_map.mp hz
  rcases List.mem_append.mp hd with hd | hd
  · rcases box_mem hd with ⟨_, rfl⟩ | ⟨x, _, _, rfl⟩ <;> exact ⟨_, _, rfl⟩
  · rcases inn_mem hd with ⟨_, _, rfl⟩ | ⟨_, _, rfl⟩ <;> exact ⟨_, _, rfl⟩
theorem box_nd {o n : Row} {l : SV} : (boxM o n l).Nodup := by
  unfold boxM
  generalize bO o l = a
  generalize bO n l = b
  obtain ⟨t, s, i⟩ := a
  obtain ⟨t', s', i'⟩ := b
  have c : ∀ ds : List Dd, ds = boxD [l] ⟨t, s, i⟩ ⟨t', s', i'⟩ → ds.map mk = [] ∨ ds.map mk = [SV.tup [.str "set", .tup [l], .str "ab"]] := fun ds e => by
    subst e
    cases s <;> cases s'
    · exact .inl rfl
    · exact .inr rfl
    · exact .inr rfl
    · simp only [boxD]
      split
      · exact .inl rfl
      · exact .inr rfl
  rw [List.map_append]
  rcases c _ rfl with e | e <;> rw [e] <;> cases i <;> cases i' <;> simp [innD, mk, lab0]
theorem fill_nd {l : SV} {b : Bx} : ((fillD [l] b).map mk).Nodup := by
  obtain ⟨t, s, i⟩ := b
  cases s <;> cases i <;> simp [fillD, mk, lab0]
theorem marks_nd {o n : Row} (ho : RowOk o) (hn : RowOk n) : ((rdD 3 [] o n).map mk).Nodup := by
  have hnm : (keptL o o n).Nodup := List.Pairwise.filter _ ho.nd
  have hnn : n.Nodup := by
    have := hn.nd
    rw [List.Nodup, List.pairwise_map] at this
    exact List.Pairwise.imp (fun h e => h (by rw [e])) this
  rw [rdD_eq, List.map_append, List.map_flatMap, oD, List.map_append, ord_marks]
  have hbm : (keptL o o n).flatMap (fun a => (boxD [a] (bO o a) (bO n a) ++ innD [a] (bO o a).inn (bO n a).inn).map mk) = (keptL o o n).flatMap (boxM o n) := rfl
  rw [hbm]
  have tk : ∀ z ∈ (takeD [] (keptL o o n) o).map mk, ∃ l, z = inM (.str "take") [] l := fun z hz => by
    obtain ⟨d, hd, rfl⟩ := List.mem_map.mp hz
    unfold takeD at hd
    obtain ⟨l, _, rfl⟩ := List.mem_map.mp hd
    exact ⟨l, rfl⟩
  rw [List.nodup_append, List.nodup_append]
  refine ⟨⟨?_, ?_, ?_⟩, ?_, ?_⟩
  · unfold takeD
    rw [List.map_map, List.Nodup, List.pairwise_map]
    exact List.Pairwise.imp (fun h e => h (inM_inj (w := .str "take") (w' := .str "take") (ad := []) (ad' := []) e).2.2) (List.Pairwise.filter _ ho.nd)
  · refine nodup_fm hnn (fun p _ => ?_) fun p hp p' hp' hne z hz hz' => ?_
    · unfold cellM
      split
      · split <;> simp
      · rw [List.nodup_cons]
        refine ⟨fun h => ?_, fill_nd⟩
        obtain ⟨w, x, e⟩ := fill_marks _ h
        have := (inM_inj (w := .str "put") (ad := []) e).2.1
        cases this
    · have hl : p.1 = p'.1 := by
        rcases cell_marks z hz with ⟨w, e, _⟩ | ⟨_, w, x, e⟩ <;> rcases cell_marks z hz' with ⟨w', e', _⟩ | ⟨_, w', x', e'⟩
        · exact (inM_inj (e.symm.trans e')).2.2
        · have := (inM_inj (e.symm.trans e')).2.1
          cases this
        · have := (inM_inj (e.symm.trans e')).2.1
          cases this
        · have := (inM_inj (e.symm.trans e')).2.1
          injection this
      have e1 := bAt_of_mem hn (show (p.1, p.2) ∈ n from hp)
      have e2 := bAt_of_mem hn (show (p'.1, p'.2) ∈ n from hp')
      rw [hl, e2] at e1
      exact hne (Prod.ext hl (Option.some.inj e1).symm)
  · intro a ha b hb e
    subst e
    obtain ⟨l, e1⟩ := tk a ha
    obtain ⟨p, _, hp⟩ := List.mem_flatMap.mp hb
    rcases cell_marks a hp with ⟨w, e2, h2⟩ | ⟨_, w, x, e2⟩
    · exact h2 (inM_inj (e1.symm.trans e2)).1.symm
    · have := (inM_inj (e1.symm.trans e2)).2.1
      cases this
  · refine nodup_fm hnm (fun l _ => box_nd) fun x _ y _ hne z hz hz' => ?_
    obtain ⟨w, u, e1⟩ := box_marks z hz
    obtain ⟨w', u', e2⟩ := box_marks z hz'
    have := (inM_inj (e1.symm.trans e2)).2.1
    injection this with this
    exact hne this
  · intro a ha b hb e
    subst e
    obtain ⟨l, hl, hb⟩ := List.mem_flatMap.mp hb
    obtain ⟨w', u', e2⟩ := box_marks a hb
    rcases List.mem_append.mp ha with ha | ha
    · obtain ⟨l', e1⟩ := tk a ha
      have := (inM_inj (e1.symm.trans e2)).2.1
      cases this
    · obtain ⟨p, _, hp⟩ := List.mem_flatMap.mp ha
      rcases cell_marks a hp with ⟨w, e1, h2⟩ | ⟨h1, w, x, e1⟩
      · have := (inM_inj (e1.symm.trans e2)).2.1
        cases this
      · have := (inM_inj (e1.symm.trans e2)).2.1
        injection this with this
        exact h1 (this ▸ hl)
theorem rdR_len {o n : Row} (ho : RowOk o) : (rdR 3 [] o n).length ≤ 900 := by
  rw [rdR_T, List.length_map]
  have := rdT_len (n := n) ho
  omega
theorem w_lets {o n : Row} {m : Mu} {Q : SV → Mu → Prop} (ho : RowOk o) (hn : RowOk n) (hs : SetOk n) (q : ∀ m', Pre m m' → Q (.bl true) m') : Wp (F_lets_by [rowV o, rowV n, .tup [.tup ((rdD 3 [] o n).map dV), .tup (rdR 3 [] o n)]] m) Q := by
  rw [rdR_T]
  exact w_lets_by ho hn (fun d hd => dm_ok ho hn hs (dm_of ho hn hd)) (rdD_len ho hn) (leds_all ho hn) (rdT_ok ho hn) (keptB_T 3 [] o n).symm (rdT_nd ho) (rdT_len ho) (marks_nd ho hn) (fun d hd => dm_fits ho hn (dm_of ho hn hd)) q
end
end VW

/-! viewwood k93, the plain law: the tape, a draw. -/
namespace VW
open PySem PySem.Spec PyProof.Rows L2
theorem q_mul {a b : Int} {m : Mu} (h1 : -4000000000 ≤ a) (h2 : a ≤ 4000000000) : fMul (.int a) (.int b) m = some (.int (a * b), m) := by
  unfold fMul fIIc
  simp only
  rw [if_pos (by unfold cMul; omega)]
theorem q_mod {a b : Int} {m : Mu} (h : 0 < b) : fMod (.int a) (.int b) m = some (.int (a % b), m) := by
  unfold fMod fIIc
  simp only
  rw [if_pos h]
theorem q_div {a b : Int} {m : Mu} (h : 0 < b) (h2 : b ≤ 2000000000000000000) : fDiv (.int a) (.int b) m = some (.int (a / b), m) := by
  unfold fDiv fIIc
  simp only
  rw [if_pos (by unfold cDiv; omega)]
theorem q_pow {a b : Int} {m : Mu} (h : 0 ≤ a) (h2 : a ≤ 100) (h3 : 0 ≤ b) (h4 : b ≤ 100) : fPow (.int a) (.int b) m = some (.int (a ^ b.toNat), m) := by
  unfold fPow fIIc
  simp only
  rw [if_pos (by unfold cPow; omega)]
def Tape (ns : List Int) (N : Int) (t : Nat) (m : Mu) : Prop := ∃ a b c : Int, m[t]? = some (.lst [.scr ns, .int a, .int b, .int c]) ∧ 0 ≤ a ∧ a ≤ N ∧ 0 ≤ b ∧ 0 ≤ c
theorem q_putL {m : Mu} {i n : Nat} {j : Int} {z : SV} {xs : List SV} (h : m[i]? = some (.lst xs)) (hj : ixN xs.length j = some n) : fPutL (.ref i) (.int j) z m = some (m.set i (.lst (xs.set n z))) := by
  simp [fPutL, lstAt, h, hj]
def S_d1 : DS := (dIf (dAndT (dTr (dBin fEq (dBin fIx (dVar 0) (dC (.int 2))) (dC (.int 0)))) (dTr (dBin fLt (dBin fIx (dVar 0) (dC (.int 3))) (dApp fLen (dCons (dVar 2) dNil))))) (dSeq (dPut fPutL (dVar 0) (dC (.int 2)) (dBin fDiv (dApp fAbs (dCons (dBin fIx (dVar 2) (dBin fIx (dVar 0) (dC (.int 3)))) dNil)) (dBin fPow (dC (.int 10)) (dC (.int 18)))))
    (dPut fPutL (dVar 0) (dC (.int 3)) (dBin fAdd (dBin fIx (dVar 0) (dC (.int 3))) (dC (.int 1))))) dNext)
def S_d2 : DS := (dSeq (dIf (dTr (dBin fGt (dBin fIx (dVar 0) (dC (.int 2))) (dC (.int 0)))) (dSeq (dAsg (bName 5) (dBin fMod (dBin fIx (dVar 0) (dC (.int 2))) (dVar 1)))
    (dSeq (dPut fPutL (dVar 0) (dC (.int 2)) (dBin fDiv (dBin fIx (dVar 0) (dC (.int 2))) (dVar 1)))
    (dRet (dVar 5)))) dNext)
    (dSeq (dAsg (bName 3) (dC (.int 0)))
    (dSeq (dIf (dTr (dBin fGt (dApp fLen (dCons (dVar 2) dNil)) (dC (.int 0)))) (dAsg (bName 3) (dBin fIx (dVar 2) (dBin fMod (dBin fIx (dVar 0) (dC (.int 1))) (dApp fLen (dCons (dVar 2) dNil))))) dNext)
    (dSeq (dAsg (bName 4) (dBin fMod (dBin fAdd (dBin fAdd (dBin fMul (dBin fMod (dVar 3) (dC (.int 2147483647))) (dC (.int 48271))) (dBin fMul (dBin fIx (dVar 0) (dC (.int 1))) (dC (.int 7919)))) (dC (.int 12345))) (dC (.int 2147483629))))
    (dSeq (dAsg (bName 4) (dBin fMod (dBin fMul (dVar 4) (dBin fAdd (dVar 4) (dC (.int 40692)))) (dC (.int 2147483587))))
    (dRet (dBin fMod (dBin fMod (dBin fMul (dVar 4) (dC (.int 16807))) (dC (.int 2147483563))) (dVar 1))))))))
theorem draw_eq : S_law_draw = (dSeq (dAsg (bName 2) (dBin fIx (dVar 0) (dC (.int 0)))) (dSeq (dPut fPutL (dVar 0) (dC (.int 1)) (dBin fAdd (dBin fIx (dVar 0) (dC (.int 1))) (dC (.int 1)))) (dSeq S_d1 S_d2))) := rfl
section
variable {ns : List Int} {t : Nat} {m : Mu} {a b c k : Int}
theorem w_d1 (hg : m[t]? = some (.lst [.scr ns, .int a, .int b, .int c])) (hb : 0 ≤ b) (hc : 0 ≤ c) {x y z : Option SV} : Wp (S_d1 [some (.ref t), some (.int k), some (.scr ns), x, y, z] m) fun o m' => o = .nx [some (.ref t), some (.int k), some (.scr ns), x, y, z] ∧ ∃ b' c', m' = m.set t (.lst [.scr ns, .int a, .int b', .int c']) ∧ 0 ≤ b' ∧ 0 ≤ c' := by
  have hs : ∀ o, (m.set t o)[t]? = some o := fun o => set_get hg
  have i2 : ixN 4 2 = some 2 := by decide
  have i3 : ixN 4 3 = some 3 := by decide
  unfold S_d1
  by_cases h1 : b = 0
  · by_cases h2 : c < ns.length
    · have e1 : ns[c.toNat]? = some ns[c.toNat] := List.getElem?_eq_getElem (by omega)
      have e2 : atI ns c = some ns[c.toNat] := by
        have := atI_nat e1
        rwa [Int.toNat_of_nonneg hc] at this
      generalize ns[c.toNat] = v at e2
      have hw : ∀ w : Int, fPutL (.ref t) (.int 2) (.int w) m = some (m.set t (.lst [.scr ns, .int a, .int w, .int c])) := fun w => q_putL hg i2
      have hw2 : ∀ w : Int, fPutL (.ref t) (.int 3) (.int (c + 1)) (m.set t (.lst [.scr ns, .int a, .int w, .int c])) = some (m.set t (.lst [.scr ns, .int a, .int w, .int (c + 1)])) := fun w => by
        rw [q_putL (xs := [.scr ns, .int a, .int w, .int c]) (n := 3) (hs _) i3, set_set']
        rfl
      have hab : fAbs [.int v] m = some (.int (if v < 0 then -v else v), m) := rfl
      have hv : (0 : Int) ≤ (if v < 0 then -v else v) := by split <;> omega
      have hpw : fPow (.int 10) (.int 18) m = some (.int (10 ^ 18), m) := q_pow (by omega) (by omega) (by omega) (by omega)
      have hdv : fDiv (.int (if v < 0 then -v else v)) (.int (10 ^ 18)) m = some (.int ((if v < 0 then -v else v) / 10 ^ 18), m) := q_div (by decide) (by decide)
      generalize (if v < 0 then -v else v) = u at *
      have hu : (0 : Int) ≤ u / 10 ^ 18 := Int.ediv_nonneg hv (by decide)
      generalize (10 : Int) ^ 18 = T at *
      generalize u / T = d at *
      subst h1
      simp -implicitDefEqProofs [q_ixL hg, h2, e2, hab, hpw, hdv]
      rw [hw]
      simp -implicitDefEqProofs [q_ixL (hs _)]
      rw [hw2]
      simp -implicitDefEqProofs only [Option.bind_some, wp_some]
      exact ⟨trivial, _, _, rfl, hu, by omega⟩
    · subst h1
      simp -implicitDefEqProofs [q_ixL hg, h2]
      exact ⟨0, c, (set_same hg).symm, by omega, hc⟩
  · simp -implicitDefEqProofs [q_ixL hg, h1]
    exact ⟨b, c, (set_same hg).symm, hb, hc⟩
theorem w_d2 {Q : Out → Mu → Prop} (hg : m[t]? = some (.lst [.scr ns, .int a, .int b, .int c])) (ha : 0 ≤ a) (ha2 : a ≤ 100000) (hb : 0 ≤ b) (hk : 0 < k) (hk2 : k ≤ 1000) {x y z : Option SV} (q : ∀ (v b' : Int), 0 ≤ v → v < k → 0 ≤ b' → Q (.rt (.int v)) (m.set t (.lst [.scr ns, .int a, .int b', .int c]))) : Wp (S_d2 [some (.ref t), some (.int k), some (.scr ns), x, y, z] m) Q := by
  have hs : ∀ o, (m.set t o)[t]? = some o := fun o => set_get hg
  have i2 : ixN 4 2 = some 2 := by decide
  unfold S_d2
  by_cases h1 : 0 < b
  · have hw : fPutL (.ref t) (.int 2) (.int (b / k)) m = some (m.set t (.lst [.scr ns, .int a, .int (b / k), .int c])) := q_putL hg i2
    simp -implicitDefEqProofs [q_ixL hg, h1, q_mod hk, q_div hk (by omega : k ≤ 2000000000000000000)]
    rw [hw]
    simp -implicitDefEqProofs
    exact q _ _ (Int.emod_nonneg _ (by omega)) (Int.emod_lt_of_pos _ hk) (Int.ediv_nonneg hb (by omega))
  · have fin : ∀ v, 0 ≤ v → v < k → Q (.rt (.int v)) m := fun v h2 h3 => by
      have := q v b h2 h3 hb
      rwa [set_same hg] at this
    have tail : ∀ cell : Int, Wp ((dSeq (dAsg (bName 4) (dBin fMod (dBin fAdd (dBin fAdd (dBin fMul (dBin fMod (dVar 3) (dC (.int 2147483647))) (dC (.int 48271))) (dBin fMul (dBin fIx (dVar 0) (dC (.int 1))) (dC (.int 7919)))) (dC (.int 12345))) (dC (.int 2147483629))))
        (dSeq (dAsg (bName 4) (dBin fMod (dBin fMul (dVar 4) (dBin fAdd (dVar 4) (dC (.int 40692)))) (dC (.int 2147483587))))
        (dRet (dBin fMod (dBin fMod (dBin fMul (dVar 4) (dC (.int 16807))) (dC (.int 2147483563))) (dVar 1))))) [some (.ref t), some (.int k), some (.scr ns), some (.int cell), y, z] m) Q := fun cell => by
      have b1 : (0 : Int) ≤ cell % 2147483647 := Int.emod_nonneg _ (by omega)
      have b2 : cell % 2147483647 < 2147483647 := Int.emod_lt_of_pos _ (by omega)
      simp -implicitDefEqProofs [q_ixL hg, q_mod (show (0 : Int) < 2147483647 by omega), q_mod (show (0 : Int) < 2147483629 by omega), q_mod (show (0 : Int) < 2147483587 by omega), q_mod (show (0 : Int) < 2147483563 by omega), q_mod hk]
      rw [q_mul (by omega) (by omega)]
      simp -implicitDefEqProofs [q_ixL hg]
      rw [q_mul (by omega) (by omega)]
      simp -implicitDefEqProofs [q_mod (show (0 : Int) < 2147483629 by omega)]
      generalize (cell % 2147483647 * 48271 + a * 7919 + 12345) = w
      have b3 : (0 : Int) ≤ w % 2147483629 := Int.emod_nonneg _ (by omega)
      have b4 : w % 2147483629 < 2147483629 := Int.emod_lt_of_pos _ (by omega)
      generalize w % 2147483629 = w2 at *
      rw [q_mul (by omega) (by omega)]
      simp -implicitDefEqProofs [q_mod (show (0 : Int) < 2147483587 by omega)]
      generalize (w2 * (w2 + 40692)) = w3
      have b5 : (0 : Int) ≤ w3 % 2147483587 := Int.emod_nonneg _ (by omega)
      have b6 : w3 % 2147483587 < 2147483587 := Int.emod_lt_of_pos _ (by omega)
      generalize w3 % 2147483587 = w4 at *
      rw [q_mul (by omega) (by omega)]
      simp -implicitDefEqProofs [q_mod (show (0 : Int) < 2147483563 by omega), q_mod hk]
      exact fin _ (Int.emod_nonneg _ (by omega)) (Int.emod_lt_of_pos _ hk)
    by_cases h2 : 0 < ns.length
    · have hl : (0 : Int) < ns.length := by omega
      have b1 : (0 : Int) ≤ a % ns.length := Int.emod_nonneg _ (by omega)
      have b2 : a % ns.length < ns.length := Int.emod_lt_of_pos _ hl
      have e1 : ns[(a % ns.length).toNat]? = some ns[(a % ns.length).toNat] := List.getElem?_eq_getElem (by omega)
      have e2 : atI ns (a % ns.length) = some ns[(a % ns.length).toNat] := by
        have := atI_nat e1
        rwa [Int.toNat_of_nonneg b1] at this
      have := tail ns[(a % ns.length).toNat]
      generalize ns[(a % ns.length).toNat] = v at e2 this
      rw [q_seq, wp_bind]
      have s1 : ∀ {Q' : Out → Mu → Prop}, Q' (.nx [some (.ref t), some (.int k), some (.scr ns), x, y, z]) m → Wp ((dIf (dTr (dBin fGt (dBin fIx (dVar 0) (dC (.int 2))) (dC (.int 0)))) (dSeq (dAsg (bName 5) (dBin fMod (dBin fIx (dVar 0) (dC (.int 2))) (dVar 1)))
          (dSeq (dPut fPutL (dVar 0) (dC (.int 2)) (dBin fDiv (dBin fIx (dVar 0) (dC (.int 2))) (dVar 1)))
          (dRet (dVar 5)))) dNext) [some (.ref t), some (.int k), some (.scr ns), x, y, z] m) Q' := fun q' => by
        simp -implicitDefEqProofs [q_ixL hg, h1]
        exact q'
      refine s1 ?_
      simp only
      rw [q_seq, q_asg]
      simp only [q_c, Option.bind_some, q_bName]
      rw [q_seq, wp_bind]
      have s2 : ∀ {Q' : Out → Mu → Prop}, Q' (.nx [some (.ref t), some (.int k), some (.scr ns), some (.int v), y, z]) m → Wp ((dIf (dTr (dBin fGt (dApp fLen (dCons (dVar 2) dNil)) (dC (.int 0)))) (dAsg (bName 3) (dBin fIx (dVar 2) (dBin fMod (dBin fIx (dVar 0) (dC (.int 1))) (dApp fLen (dCons (dVar 2) dNil))))) dNext) [some (.ref t), some (.int k), some (.scr ns), some (.int 0), y, z] m) Q' := fun q' => by
        simp -implicitDefEqProofs [q_ixL hg, h2, q_mod hl, e2]
        exact q'
      exact s2 this
    · have := tail 0
      rw [q_seq, wp_bind]
      have s1 : ∀ {Q' : Out → Mu → Prop}, Q' (.nx [some (.ref t), some (.int k), some (.scr ns), x, y, z]) m → Wp ((dIf (dTr (dBin fGt (dBin fIx (dVar 0) (dC (.int 2))) (dC (.int 0)))) (dSeq (dAsg (bName 5) (dBin fMod (dBin fIx (dVar 0) (dC (.int 2))) (dVar 1)))
          (dSeq (dPut fPutL (dVar 0) (dC (.int 2)) (dBin fDiv (dBin fIx (dVar 0) (dC (.int 2))) (dVar 1)))
          (dRet (dVar 5)))) dNext) [some (.ref t), some (.int k), some (.scr ns), x, y, z] m) Q' := fun q' => by
        simp -implicitDefEqProofs [q_ixL hg, h1]
        exact q'
      refine s1 ?_
      simp only
      rw [q_seq, q_asg]
      simp only [q_c, Option.bind_some, q_bName]
      rw [q_seq, wp_bind]
      have s2 : ∀ {Q' : Out → Mu → Prop}, Q' (.nx [some (.ref t), some (.int k), some (.scr ns), some (.int 0), y, z]) m → Wp ((dIf (dTr (dBin fGt (dApp fLen (dCons (dVar 2) dNil)) (dC (.int 0)))) (dAsg (bName 3) (dBin fIx (dVar 2) (dBin fMod (dBin fIx (dVar 0) (dC (.int 1))) (dApp fLen (dCons (dVar 2) dNil))))) dNext) [some (.ref t), some (.int k), some (.scr ns), some (.int 0), y, z] m) Q' := fun q' => by
        simp -implicitDefEqProofs [h2]
        exact q'
      exact s2 this
end
theorem w_draw {ns : List Int} {N k : Int} {t : Nat} {m : Mu} {Q : SV → Mu → Prop} (hT : Tape ns N t m) (hN : N ≤ 50000) (hk : 0 < k) (hk2 : k ≤ 1000) (q : ∀ (v : Nat) (m' : Mu), (v : Int) < k → Tape ns (N + 1) t m' → Fr [t] m m' → m'.length = m.length → Q (.int v) m') : Wp (F_law_draw [.ref t, .int k] m) Q := by
  obtain ⟨a, b, c, hg, h1, h2, h3, h4⟩ := hT
  have hs : ∀ o, (m.set t o)[t]? = some o := fun o => set_get hg
  have hw : fPutL (.ref t) (.int 1) (.int (a + 1)) m = some (m.set t (.lst [.scr ns, .int (a + 1), .int b, .int c])) := q_putL (n := 1) hg (show ixN 4 1 = some 1 by decide)
  simp -implicitDefEqProofs [F_law_draw, draw_eq, q_ixL hg]
  rw [hw]
  simp -implicitDefEqProofs only [Option.bind_some, wp_some]
  simp -implicitDefEqProofs
  refine wp_mono (w_d1 (hs _) h3 h4) fun o m1 ⟨e1, b', c', e2, h5, h6⟩ => ?_
  rw [set_set'] at e2
  subst e1 e2
  refine w_d2 (hs _) (by omega) (by omega) h5 hk hk2 fun v b'' h7 h8 h9 => ?_
  rw [set_set']
  simp -implicitDefEqProofs
  have := q v.toNat (m.set t (.lst [.scr ns, .int (a + 1), .int b'', .int c'])) (by omega) ⟨_, _, _, hs _, by omega, by omega, h9, h6⟩ (.set (by simp)) (by simp)
  rwa [Int.toNat_of_nonneg h7] at this
end VW

/-! viewwood k93, the plain law: the labels, the rows. -/
namespace VW
open PySem PySem.Spec PyProof.Rows L2
theorem Tape.mono {ns : List Int} {N N' : Int} {t : Nat} {m : Mu} (h : Tape ns N t m) (k : N ≤ N') : Tape ns N' t m := by
  obtain ⟨a, b, c, h1, h2, h3, h4, h5⟩ := h
  exact ⟨a, b, c, h1, h2, by omega, h4, h5⟩
theorem Tape.pre {ns : List Int} {N : Int} {t : Nat} {m m' : Mu} (h : Tape ns N t m) (k : Pre m m') : Tape ns N t m' := by
  obtain ⟨a, b, c, h1, h2⟩ := h
  exact ⟨a, b, c, k.get h1, h2⟩
theorem Tape.set {ns : List Int} {N : Int} {t i : Nat} {m : Mu} {o : MO} (h : Tape ns N t m) (k : i ≠ t) : Tape ns N t (m.set i o) := by
  obtain ⟨a, b, c, h1, h2⟩ := h
  exact ⟨a, b, c, by rw [List.getElem?_set_ne k]; exact h1, h2⟩
theorem Tape.lt {ns : List Int} {N : Int} {t : Nat} {m : Mu} (h : Tape ns N t m) : t < m.length := by
  obtain ⟨a, b, c, h1, h2⟩ := h
  exact lt_of_get h1
def KeyOk (x : SV) : Prop := x = .non ∨ ∃ a : Int, x = .int a ∧ -1000000000 ≤ a ∧ a ≤ 1000000000
def LabAt (i : Nat) (l : SV) : Prop := ∃ key, KeyOk key ∧ (l = .tup [.tup [key, .int i]] ∨ l = .tup [.tup [.int 3, .int 0], .tup [key, .int i]])
theorem LabAt.lab {i : Nat} {l : SV} (h : LabAt i l) : Lab l := by
  obtain ⟨key, hk, rfl | rfl⟩ := h
  · exact ⟨_, rfl, by simp, by simp, fun y hy => by
      simp at hy
      subst hy
      exact ⟨key, i, rfl, by omega, hk⟩⟩
  · exact ⟨_, rfl, by simp, by simp, fun y hy => by
      simp at hy
      rcases hy with rfl | rfl
      · exact ⟨.int 3, 0, rfl, by omega, .inr ⟨3, rfl, by omega, by omega⟩⟩
      · exact ⟨key, i, rfl, by omega, hk⟩⟩
theorem LabAt.inj {i j : Nat} {l : SV} (h : LabAt i l) (k : LabAt j l) : i = j := by
  obtain ⟨key, _, rfl | rfl⟩ := h <;> obtain ⟨key', _, e | e⟩ := k <;> simp at e <;> omega
structure LabsOk (L : List SV) : Prop where
  at_ : ∀ i l, L[i]? = some l → LabAt i l
theorem LabsOk.labs {L : List SV} (h : LabsOk L) : Labs L := fun x hx => by
  obtain ⟨i, hi, rfl⟩ := List.getElem_of_mem hx
  exact (h.at_ i _ (List.getElem?_eq_getElem hi)).lab
theorem LabsOk.nodup {L : List SV} (h : LabsOk L) : L.Nodup := by
  rw [List.Nodup, List.pairwise_iff_getElem]
  intro i j hi hj hij e
  have h1 := h.at_ i _ (List.getElem?_eq_getElem hi)
  have h2 := h.at_ j _ (List.getElem?_eq_getElem hj)
  rw [← e] at h2
  have := h1.inj h2
  omega
def LI (ns : List Int) (N : Int) (t : Nat) (m0 : Mu) (k : Nat) (e : En) (m' : Mu) : Prop := ∃ L, Fr [t] m0 m' ∧ Tape ns (N + 2 * k) t m' ∧ m'[m0.length]? = some (.lst L) ∧ L.length = k ∧ LabsOk L ∧ ∃ x y z, e = [some (.ref t), some (.ref m0.length), x, y, z]
theorem atI_5 {a b c d e : SV} {v : Nat} (h : (v : Int) < 5) : ∃ x, atI [a, b, c, d, e] (v : Int) = some x ∧ (x = a ∨ x = b ∨ x = c ∨ x = d ∨ x = e) := by
  have h1 : v < [a, b, c, d, e].length := by simp; omega
  refine ⟨_, atI_nat (List.getElem?_eq_getElem h1), ?_⟩
  have := List.getElem_mem h1
  generalize [a, b, c, d, e][v] = x at this ⊢
  simpa using this
theorem w_labels {ns : List Int} {N : Int} {t : Nat} {m : Mu} {Q : SV → Mu → Prop} (hT : Tape ns N t m) (hN : N ≤ 1000) (hN0 : 0 ≤ N) (q : ∀ m' L, Fr [t] m m' → Tape ns (N + 14) t m' → m'[m.length]? = some (.lst L) → L.length = 7 → LabsOk L → Q (.ref m.length) m') : Wp (F_law_labels [.ref t] m) Q := by
  have htm := hT.lt
  have hp1 : ∀ {m : Mu}, fPow (.int 10) (.int 9) m = some (.int 1000000000, m) := fun {m} => q_pow (by omega) (by omega) (by omega) (by omega)
  have hr7 : rOk 7 := rOk_nat (n := 7) (by omega)
  simp -implicitDefEqProofs [F_law_labels, S_law_labels]
  rw [if_pos hr7]
  refine wp_for (LI ns N t m) ⟨[], Fr.app, (hT.pre .app).mono (by omega), by simp, rfl, ⟨fun i l h => (by cases h)⟩, _, _, _, rfl⟩ (fun k z e m' hz I => ?_) fun e m' I => ?_
  · obtain ⟨L, hF, hT1, hg, hl, hL, x, y, z', rfl⟩ := I
    have hlt : k < 7 := by
      have := (List.getElem?_eq_some_iff.mp hz).1
      rw [intsV_len] at this
      simpa using this
    rw [intsV_get (by simpa using hlt)] at hz
    cases hz
    refine ⟨_, rfl, ?_⟩
    have htm' := hT1.lt
    simp -implicitDefEqProofs [hp1]
    rw [q_mul (by omega) (by omega)]
    simp -implicitDefEqProofs [hp1]
    refine w_draw (hT1.pre .app) (by omega) (by omega) (by omega) fun v m2 hv hT2 hF2 hl2 => ?_
    have hgl : m2[m'.length]? = some (.lst [.non, .int k, .int (-7 * k), .int (1000000000 - k), .int 3]) := hF2.get (by simp) (by simp; omega)
    obtain ⟨key, hk1, hk2⟩ := atI_5 (a := .non) (b := .int k) (c := .int (-7 * k)) (d := .int (1000000000 - k)) (e := .int 3) hv
    have hkey : KeyOk key := by
      rcases hk2 with rfl | rfl | rfl | rfl | rfl
      · exact .inl rfl
      · exact .inr ⟨_, rfl, by omega, by omega⟩
      · exact .inr ⟨_, rfl, by omega, by omega⟩
      · exact .inr ⟨_, rfl, by omega, by omega⟩
      · exact .inr ⟨_, rfl, by omega, by omega⟩
    simp -implicitDefEqProofs [q_ixL hgl, hk1]
    refine w_draw hT2 (by omega) (by omega) (by omega) fun v2 m3 hv2 hT3 hF3 hl3 => ?_
    have hF13 : Fr [t] m' m3 := (Fr.app.tr hF2).tr hF3
    have hg3 := hF13.get hg (by simp; omega)
    have done : ∀ l, LabAt k l → LI ns N t m (k + 1) [some (.ref t), some (.ref m.length), some (.int k), some key, some l] (m3.set m.length (.lst (L ++ [l]))) := fun l hll => by
      refine ⟨L ++ [l], ?_, ?_, set_get hg3, by simp [hl], ⟨fun i l' h => ?_⟩, _, _, _, rfl⟩
      · have := hF.tr hF13
        exact ⟨by simp; exact this.1, fun j h1 h2 => by rw [List.getElem?_set_ne (by omega)]; exact this.2 j h1 h2⟩
      · exact (hT3.set (by omega)).mono (by omega)
      · rcases Nat.lt_or_ge i L.length with h1 | h1
        · rw [List.getElem?_append_left h1] at h
          exact hL.at_ i l' h
        · have h2 : i = L.length := by
            have := (List.getElem?_eq_some_iff.mp h).1
            simp at this
            omega
          subst h2
          simp at h
          subst h
          rw [hl]
          exact hll
    by_cases h0 : v2 = 0
    · subst h0
      simp -implicitDefEqProofs [q_isLst hg3]
      rw [q_app1 hg3 (by omega)]
      simp -implicitDefEqProofs only [wp_some]
      exact done _ ⟨key, hkey, .inr rfl⟩
    · simp -implicitDefEqProofs [h0, q_isLst hg3]
      rw [q_app1 hg3 (by omega)]
      simp -implicitDefEqProofs only [wp_some]
      exact done _ ⟨key, hkey, .inl rfl⟩
  · obtain ⟨L, hF, hT1, hg, hl, hL, x, y, z', rfl⟩ := I
    rw [intsV_len] at hT1 hl
    simp -implicitDefEqProofs
    exact q m' L hF (hT1.mono (by simp)) hg (by simpa using hl) hL
end VW

/-! viewwood k93, the plain law: a drawn row. -/
namespace VW
open PySem PySem.Spec PyProof.Rows L2
def SI (ns : List Int) (N : Int) (t li : Nat) (m0 : Mu) (c : Nat) (k : Nat) (e : En) (m' : Mu) : Prop := ∃ (R : Row) (Lf : List SV), Fr [t] m0 m' ∧ Tape ns (N + 1 + 5 * k) t m' ∧ m'[m0.length]? = some (.lst Lf) ∧ m'[m0.length + 1]? = some (.lst (R.map cellV)) ∧ R.length = k ∧ Lf.length + k = 7 ∧ (R.map (·.1) ++ Lf).Nodup ∧ Labs (R.map (·.1) ++ Lf) ∧ SetOk R ∧
  ∃ x4 x5 x6 x7, e = [some (.ref t), some (.ref li), some (.ref m0.length), some (.ref (m0.length + 1)), x4, x5, x6, x7]
theorem q_popL {m : Mu} {i n : Nat} {xs : List SV} {x : SV} (h : m[i]? = some (.lst xs)) (hx : xs[n]? = some x) (hn : n ≤ 1000) : fPopAt (.ref i) [.int n] m = some (x, m.set i (.lst (xs.eraseIdx n))) := by
  unfold fPopAt
  simp only [lstAt_of h, Option.bind_some]
  rw [if_pos (by omega)]
  simp [hx]
theorem fr_set {t i : Nat} {m0 m' : Mu} {o : MO} (h : Fr [t] m0 m') (hi : m0.length ≤ i) : Fr [t] m0 (m'.set i o) := ⟨by simp; exact h.1, fun j h1 h2 => by rw [List.getElem?_set_ne (by omega)]; exact h.2 j h1 h2⟩
def S_rest : DS := (dSeq (dAsg (bName 6) (dTup dNil))
    (dSeq (dIf (dTr (dBin fEq (dApp F_law_draw (dCons (dVar 0) (dCons (dC (.int 2)) dNil))) (dC (.int 0)))) (dAsg (bName 6) (dTup (dCons (dTup (dCons (dC (.str "ab")) (dCons (dApp F_law_draw (dCons (dVar 0) (dCons (dC (.int 3)) dNil))) dNil))) dNil))) dNext)
    (dSeq (dAsg (bName 7) (dTup dNil))
    (dSeq (dIf (dTr (dBin fEq (dApp F_law_draw (dCons (dVar 0) (dCons (dC (.int 3)) dNil))) (dC (.int 0)))) (dAsg (bName 7) (dTup (dCons (dTup (dCons (dTup (dCons (dTup (dCons (dC .non) (dCons (dC (.int 0)) dNil))) dNil)) (dCons (dTup (dCons (dC (.str "b")) (dCons (dTup dNil) (dCons (dTup dNil) (dCons (dTup dNil) dNil))))) dNil))) dNil))) dNext)
    (dExp (dMeth fAppend (dVar 3) (dCons (dTup (dCons (dVar 5) (dCons (dTup (dCons (dBin fIx (dLst (dCons (dC (.str "a")) (dCons (dC (.str "a")) (dCons (dC (.str "a")) (dCons (dC (.str "b")) dNil))))) (dApp F_law_draw (dCons (dVar 0) (dCons (dC (.int 4)) dNil)))) (dCons (dVar 6) (dCons (dTup dNil) (dCons (dVar 7) dNil))))) dNil))) dNil)))))))
theorem some_row_eq : S_law_some_row = (dSeq (dAsg (bName 2) (dApp fList (dCons (dVar 1) dNil)))
    (dSeq (dAsg (bName 3) (dLst dNil))
    (dSeq (dForR1 (dCons (dApp F_law_draw (dCons (dVar 0) (dCons (dC (.int 6)) dNil))) dNil) (bName 4) (dSeq (dAsg (bName 5) (dMeth fPopAt (dVar 2) (dCons (dApp F_law_draw (dCons (dVar 0) (dCons (dApp fLen (dCons (dVar 2) dNil)) dNil))) dNil))) S_rest))
    (dRet (dApp fTuple (dCons (dVar 3) dNil)))))) := rfl
section
variable {ns : List Int} {N : Int} {t li : Nat} {m0 m : Mu} {R : Row} {Lf : List SV} {l : SV} {k : Nat} {x4 x6 x7 : Option SV}
theorem atI_4' {v : Nat} (h : (v : Int) < 4) : ∃ b : Bool, atI [SV.str "a", .str "a", .str "a", .str "b"] (v : Int) = some (.str (tagS b)) := by
  match v, h with
  | 0, _ => exact ⟨true, rfl⟩
  | 1, _ => exact ⟨true, by simp [tagS]⟩
  | 2, _ => exact ⟨true, by simp [tagS]⟩
  | 3, _ => exact ⟨false, by simp [tagS]⟩
  | v + 4, h => exact absurd h (by omega)
/-- the last step: the box is told, the row grows -/
theorem w_rest5 {s i : SV} {so : Option Int} {io : Bool} (hs : s = setsV so) (hi : i = inV io) (hso : ∀ x, so = some x → NumOk x) (ht : t < m0.length) (hF : Fr [t] m0 m) (hT : Tape ns N t m) (hN : N ≤ 40000) (hL : m[m0.length]? = some (.lst Lf)) (hR : m[m0.length + 1]? = some (.lst (R.map cellV))) (hRl : R.length ≤ 10) (hSR : SetOk R) {Q : Out → Mu → Prop}
    (q : ∀ m' b, Fr [t] m0 m' → Tape ns (N + 1) t m' → m'[m0.length]? = some (.lst Lf) → m'[m0.length + 1]? = some (.lst ((R ++ [(l, b)]).map cellV)) → SetOk (R ++ [(l, b)]) → Q (.nx [some (.ref t), some (.ref li), some (.ref m0.length), some (.ref (m0.length + 1)), x4, some l, some s, some i]) m') :
    Wp (dExp (dMeth fAppend (dVar 3) (dCons (dTup (dCons (dVar 5) (dCons (dTup (dCons (dBin fIx (dLst (dCons (dC (.str "a")) (dCons (dC (.str "a")) (dCons (dC (.str "a")) (dCons (dC (.str "b")) dNil))))) (dApp F_law_draw (dCons (dVar 0) (dCons (dC (.int 4)) dNil)))) (dCons (dVar 6) (dCons (dTup dNil) (dCons (dVar 7) dNil))))) dNil))) dNil))
      [some (.ref t), some (.ref li), some (.ref m0.length), some (.ref (m0.length + 1)), x4, some l, some s, some i] m) Q := by
  have hlm := lt_of_get hR
  simp -implicitDefEqProofs [q_isLst hR]
  refine w_draw (hT.pre .app) (by omega) (by omega) (by omega) fun v m2 hv hT2 hF2 hl2 => ?_
  have hgl : m2[m.length]? = some (.lst [.str "a", .str "a", .str "a", .str "b"]) := hF2.get (by simp) (by simp; omega)
  obtain ⟨b, hb⟩ := atI_4' hv
  have hF02 : Fr [t] m m2 := Fr.app.tr hF2
  have hR2 := hF02.get hR (by simp; omega)
  have hL2 := hF02.get hL (by simp; omega)
  simp -implicitDefEqProofs [q_ixL hgl, hb]
  rw [q_app1 hR2 (by rw [List.length_map]; omega)]
  simp -implicitDefEqProofs only [wp_some]
  refine q _ ⟨b, so, io⟩ (fr_set (hF.tr hF02) (by omega)) (hT2.set (by omega)) ?_ ?_ ?_
  · rw [List.getElem?_set_ne (by omega)]
    exact hL2
  · rw [set_get hR2]
    simp [cellV, boxV, hs, hi]
  · intro p hp
    rcases List.mem_append.mp hp with hp | hp
    · exact hSR p hp
    · simp at hp
      subst hp
      exact hso
theorem w_rest (ht : t < m0.length) (hF : Fr [t] m0 m) (hT : Tape ns N t m) (hN : N ≤ 30000) (hL : m[m0.length]? = some (.lst Lf)) (hR : m[m0.length + 1]? = some (.lst (R.map cellV))) (hRl : R.length ≤ 10) (hSR : SetOk R) {Q : Out → Mu → Prop}
    (q : ∀ m' b s i, Fr [t] m0 m' → Tape ns (N + 4) t m' → m'[m0.length]? = some (.lst Lf) → m'[m0.length + 1]? = some (.lst ((R ++ [(l, b)]).map cellV)) → SetOk (R ++ [(l, b)]) → Q (.nx [some (.ref t), some (.ref li), some (.ref m0.length), some (.ref (m0.length + 1)), x4, some l, s, i]) m') :
    Wp (S_rest [some (.ref t), some (.ref li), some (.ref m0.length), some (.ref (m0.length + 1)), x4, some l, x6, x7] m) Q := by
  -- the inner box and the end
  have fin : ∀ (N1 : Int) (m1 : Mu) (s : SV) (so : Option Int) (y : Option SV), s = setsV so → (∀ x, so = some x → NumOk x) → N1 ≤ N + 2 → Fr [t] m0 m1 → Tape ns N1 t m1 → m1[m0.length]? = some (.lst Lf) → m1[m0.length + 1]? = some (.lst (R.map cellV)) →
      Wp ((dSeq (dAsg (bName 7) (dTup dNil))
    (dSeq (dIf (dTr (dBin fEq (dApp F_law_draw (dCons (dVar 0) (dCons (dC (.int 3)) dNil))) (dC (.int 0)))) (dAsg (bName 7) (dTup (dCons (dTup (dCons (dTup (dCons (dTup (dCons (dC .non) (dCons (dC (.int 0)) dNil))) dNil)) (dCons (dTup (dCons (dC (.str "b")) (dCons (dTup dNil) (dCons (dTup dNil) (dCons (dTup dNil) dNil))))) dNil))) dNil))) dNext)
    (dExp (dMeth fAppend (dVar 3) (dCons (dTup (dCons (dVar 5) (dCons (dTup (dCons (dBin fIx (dLst (dCons (dC (.str "a")) (dCons (dC (.str "a")) (dCons (dC (.str "a")) (dCons (dC (.str "b")) dNil))))) (dApp F_law_draw (dCons (dVar 0) (dCons (dC (.int 4)) dNil)))) (dCons (dVar 6) (dCons (dTup dNil) (dCons (dVar 7) dNil))))) dNil))) dNil))))) [some (.ref t), some (.ref li), some (.ref m0.length), some (.ref (m0.length + 1)), x4, some l, some s, y] m1) Q := by
    intro N1 m1 s so y hs hso hN1 hF1 hT1 hL1 hR1
    have st1 : ∀ {Q' : Out → Mu → Prop}, (∀ m2 i io, i = inV io → Fr [t] m1 m2 → Tape ns (N1 + 1) t m2 → Q' (.nx [some (.ref t), some (.ref li), some (.ref m0.length), some (.ref (m0.length + 1)), x4, some l, some s, some i]) m2) →
        Wp (dIf (dTr (dBin fEq (dApp F_law_draw (dCons (dVar 0) (dCons (dC (.int 3)) dNil))) (dC (.int 0)))) (dAsg (bName 7) (dTup (dCons (dTup (dCons (dTup (dCons (dTup (dCons (dC .non) (dCons (dC (.int 0)) dNil))) dNil)) (dCons (dTup (dCons (dC (.str "b")) (dCons (dTup dNil) (dCons (dTup dNil) (dCons (dTup dNil) dNil))))) dNil))) dNil))) dNext [some (.ref t), some (.ref li), some (.ref m0.length), some (.ref (m0.length + 1)), x4, some l, some s, some (.tup [])] m1) Q' := fun q' => by
      simp -implicitDefEqProofs
      refine w_draw hT1 (by omega) (by omega) (by omega) fun v m2 hv hT2 hF2 hl2 => ?_
      by_cases h0 : v = 0
      · subst h0
        simp -implicitDefEqProofs
        exact q' m2 _ true rfl hF2 hT2
      · simp -implicitDefEqProofs [h0]
        exact q' m2 _ false rfl hF2 hT2
    rw [q_seq, q_asg]
    simp only [q_tup, q_nil, Option.bind_some, List.length_nil, Nat.zero_le, if_true, q_bName]
    rw [q_seq, wp_bind]
    refine st1 fun m2 i io hi hF2 hT2 => ?_
    have h2 := hF2.get hL1 (by simp; omega)
    have h3 := hF2.get hR1 (by simp; omega)
    exact w_rest5 hs hi hso ht (hF1.tr hF2) hT2 (by omega) h2 h3 hRl hSR fun m' b a1 a2 a3 a4 a5 => q m' b _ _ a1 (a2.mono (by omega)) a3 a4 a5
  unfold S_rest
  rw [q_seq, q_asg]
  simp only [q_tup, q_nil, Option.bind_some, List.length_nil, Nat.zero_le, if_true, q_bName]
  rw [q_seq, wp_bind]
  have st2 : ∀ {Q' : Out → Mu → Prop}, (∀ (N1 : Int) m1 s so, s = setsV so → (∀ x, so = some x → NumOk x) → N1 ≤ N + 2 → Fr [t] m m1 → Tape ns N1 t m1 → Q' (.nx [some (.ref t), some (.ref li), some (.ref m0.length), some (.ref (m0.length + 1)), x4, some l, some s, x7]) m1) →
      Wp (dIf (dTr (dBin fEq (dApp F_law_draw (dCons (dVar 0) (dCons (dC (.int 2)) dNil))) (dC (.int 0)))) (dAsg (bName 6) (dTup (dCons (dTup (dCons (dC (.str "ab")) (dCons (dApp F_law_draw (dCons (dVar 0) (dCons (dC (.int 3)) dNil))) dNil))) dNil))) dNext [some (.ref t), some (.ref li), some (.ref m0.length), some (.ref (m0.length + 1)), x4, some l, some (.tup []), x7] m) Q' := fun q' => by
    simp -implicitDefEqProofs
    refine w_draw hT (by omega) (by omega) (by omega) fun v m2 hv hT2 hF2 hl2 => ?_
    by_cases h0 : v = 0
    · subst h0
      simp -implicitDefEqProofs
      refine w_draw hT2 (by omega) (by omega) (by omega) fun v3 m3 hv3 hT3 hF3 hl3 => ?_
      exact q' (N + 1 + 1) m3 _ (some v3) rfl (fun x hx => by cases hx; exact ⟨by omega, by omega⟩) (by omega) (hF2.tr hF3) hT3
    · simp -implicitDefEqProofs [h0]
      exact q' (N + 1) m2 _ none rfl (fun x hx => by cases hx) (by omega) hF2 hT2
  refine st2 fun N1 m1 s so hs hso hN1 hF1 hT1 => ?_
  exact fin N1 m1 s so x7 hs hso hN1 (hF.tr hF1) hT1 (hF1.get hL (by simp; omega)) (hF1.get hR (by simp; omega))
end
theorem w_some_row {ns : List Int} {N : Int} {t li : Nat} {L : List SV} {m : Mu} {Q : SV → Mu → Prop} (hT : Tape ns N t m) (hN : N ≤ 1000) (hN0 : 0 ≤ N) (hg : m[li]? = some (.lst L)) (hL : LabsOk L) (h7 : L.length = 7) (q : ∀ m' r, Fr [t] m m' → Tape ns (N + 40) t m' → RowOk r → SetOk r → Q (rowV r) m') : Wp (F_law_some_row [.ref t, .ref li] m) Q := by
  have htm := hT.lt
  simp -implicitDefEqProofs [F_law_some_row, some_row_eq, fList, itemsM, hg]
  refine w_draw (hT.pre .app) (by omega) (by omega) (by omega) fun c m1 hc hT1 hF1 hl1 => ?_
  have hr : rOk (c : Int) := rOk_nat (by omega)
  simp -implicitDefEqProofs [hr]
  have hg0 : m1[m.length]? = some (.lst L) := hF1.get (by simp) (by simp; omega)
  have hg1 : m1[m.length + 1]? = some (.lst []) := hF1.get (by simp) (by simp; omega)
  have hF0 : Fr [t] m m1 := Fr.app.tr hF1
  refine wp_for (SI ns N t li m c) ⟨[], L, hF0, hT1.mono (by omega), hg0, hg1, rfl, by omega, by simpa using hL.nodup, by simpa using hL.labs, (fun p hp => (by cases hp)), _, _, _, _, rfl⟩ (fun k z e m' hz I => ?_) fun e m' I => ?_
  · obtain ⟨R, Lf, hF, hTk, g1, g2, hRl, hLl, hnd, hlab, hSR, x4, x5, x6, x7, rfl⟩ := I
    have hlt : k < c := by
      have := (List.getElem?_eq_some_iff.mp hz).1
      rwa [intsV_len] at this
    rw [intsV_get hlt] at hz
    cases hz
    refine ⟨_, rfl, ?_⟩
    simp -implicitDefEqProofs [q_isLst g1, q_lenL g1]
    refine w_draw hTk (by omega) (by omega) (by omega) fun v m2 hv hT2 hF2 hl2 => ?_
    have g12 := hF2.get g1 (by simp; omega)
    have g22 := hF2.get g2 (by simp; omega)
    have hvl : v < Lf.length := by omega
    have ev : Lf[v]? = some Lf[v] := List.getElem?_eq_getElem hvl
    rw [q_popL g12 ev (by omega)]
    simp -implicitDefEqProofs only [wp_some]
    have hperm : List.Perm (Lf[v] :: Lf.eraseIdx v) Lf := by
      have e5 : Lf = Lf.take v ++ Lf[v] :: Lf.drop (v + 1) := by
        rw [← drop_cons ev, List.take_append_drop]
      rw [List.eraseIdx_eq_take_drop_succ]
      conv => rhs; rw [e5]
      exact List.perm_middle.symm
    refine w_rest (N := N + 1 + 5 * k + 1) (Lf := Lf.eraseIdx v) (R := R) htm (fr_set (hF.tr hF2) (Nat.le_refl _)) (hT2.set (by omega)) (by omega) (set_get g12) (by rw [List.getElem?_set_ne (by omega)]; exact g22) (by omega) hSR fun m' b s i a1 a2 a3 a4 a5 => ?_
    have hnd' : ((R ++ [(Lf[v], b)]).map (·.1) ++ Lf.eraseIdx v).Nodup := by
      have : List.Perm (R.map (·.1) ++ Lf) ((R ++ [(Lf[v], b)]).map (·.1) ++ Lf.eraseIdx v) := by
        rw [List.map_append, List.append_assoc]
        exact List.Perm.append_left _ hperm.symm
      exact this.nodup_iff.mp hnd
    refine ⟨R ++ [(Lf[v], b)], Lf.eraseIdx v, a1, a2.mono (by omega), a3, a4, by simp [hRl], ?_, hnd', ?_, a5, _, _, _, _, rfl⟩
    · rw [List.length_eraseIdx, if_pos hvl]
      omega
    · intro x hx
      rw [List.map_append, List.append_assoc] at hx
      refine hlab x ?_
      rcases List.mem_append.mp hx with hx | hx
      · exact List.mem_append.mpr (.inl hx)
      · exact List.mem_append.mpr (.inr (hperm.subset hx))
  · obtain ⟨R, Lf, hF, hTk, g1, g2, hRl, hLl, hnd, hlab, hSR, x4, x5, x6, x7, rfl⟩ := I
    rw [intsV_len] at hRl hTk
    simp -implicitDefEqProofs [q_tupleL g2]
    refine q m' R hF (hTk.mono (by omega)) ⟨fun p hp => hlab p.1 (List.mem_append.mpr (.inl (List.mem_map.mpr ⟨p, hp, rfl⟩))), by omega, ?_⟩ hSR
    rw [List.nodup_append] at hnd
    exact hnd.1
end VW

/-! viewwood k93, the plain law: the law's own kept. -/
namespace VW
open PySem PySem.Spec PyProof.Rows L2
def hP' (K : Bx → Bx → List (List SV)) (p p' : SV × Bx) : List (List SV) := if p'.1 = p.1 ∧ p'.2.tag = p.2.tag then (K p.2 p'.2).map (p.1 :: ·) else []
def kpL : Nat → Row → Row → List (List SV)
  | 0, _, _ => [[]]
  | d + 1, o, n => [] :: o.flatMap fun p => n.flatMap (hP' (fun a b => kpL d (innR a.inn) (innR b.inn)) p)
def KD (F : DF) (o n : Row) (L : List (List SV)) : Prop := ∀ (m : Mu) (Q : SV → Mu → Prop), (∀ m' i, Pre m m' → m'[i]? = some (.lst (L.map SV.tup)) → Q (.ref i) m') → Wp (F [rowV o, rowV n] m) Q
def KO (o n : Row) (m0 : Mu) (g : (SV × Bx) → List (List SV)) (k : Nat) (e : En) (m' : Mu) : Prop := ∃ r, Pre m0 m' ∧ m'[r]? = some (.lst (([] :: (o.take k).flatMap g).map SV.tup)) ∧ ∃ x3 x4 x5 x6 x7, e = [some (rowV o), some (rowV n), some (.ref r), x3, x4, x5, x6, x7]
def KI (o n : Row) (m0 : Mu) (acc : List (List SV)) (h : (SV × Bx) → List (List SV)) (l bx : SV) (k : Nat) (e : En) (m' : Mu) : Prop := ∃ r, Pre m0 m' ∧ m'[r]? = some (.lst ((acc ++ (n.take k).flatMap h).map SV.tup)) ∧ ∃ x5 x6 x7, e = [some (rowV o), some (rowV n), some (.ref r), some l, some bx, x5, x6, x7]
def preL (l : SV) : SV → SV
  | .tup ad => .tup ([l] ++ ad)
  | _ => .non
theorem w_kept_step {self : DF} {o n : Row} {K : Bx → Bx → List (List SV)} (ho : LabR o) (hn : LabR n) (ho9 : o.length ≤ 400) (hn9 : n.length ≤ 400) (hK : ∀ a b, ∀ ad ∈ K a b, ad.length ≤ 100) (hKl : ∀ a b, (K a b).length ≤ 100)
    (hself : ∀ p ∈ o, ∀ p' ∈ n, KD self (innR p.2.inn) (innR p'.2.inn) (K p.2 p'.2)) (hlen : (o.flatMap fun p => n.flatMap (hP' K p)).length ≤ 800) : KD (dFn 2 8 (S_law_kept self)) o n ([] :: o.flatMap fun p => n.flatMap (hP' K p)) := by
  intro m Q q
  simp -implicitDefEqProofs [S_law_kept]
  have eo : rowV o = .tup (o.map cellV) := rfl
  have en : rowV n = .tup (n.map cellV) := rfl
  rw [eo]
  simp -implicitDefEqProofs
  rw [← eo]
  refine wp_for (KO o n m fun p => n.flatMap (hP' K p)) ⟨m.length, .app, by simp, _, _, _, _, _, rfl⟩ (fun k z e m' hz I => ?_) fun e m' I => ?_
  · obtain ⟨r, p0, hg, x3, x4, x5, x6, x7, rfl⟩ := I
    rw [List.getElem?_map] at hz
    obtain ⟨p, hp, rfl⟩ := Option.map_eq_some_iff.mp hz
    have hpo := List.mem_of_getElem? hp
    have hlab : Lab p.1 := ho p hpo
    have hfl1 := flat_len (fun p => n.flatMap (hP' K p)) hp
    refine ⟨[some (rowV o), some (rowV n), some (.ref r), some p.1, some (boxV p.2), x5, x6, x7], by simp [cellV], ?_⟩
    rw [en]
    simp -implicitDefEqProofs
    rw [← en]
    refine wp_for (KI o n m ([] :: (o.take k).flatMap fun p => n.flatMap (hP' K p)) (hP' K p) p.1 (boxV p.2)) ⟨r, p0, by simpa using hg, _, _, _, rfl⟩ (fun j z e m1 hz I => ?_) fun e m1 I => ?_
    · obtain ⟨r1, p1, g1, y5, y6, y7, rfl⟩ := I
      rw [List.getElem?_map] at hz
      obtain ⟨p', hp', rfl⟩ := Option.map_eq_some_iff.mp hz
      have hpn := List.mem_of_getElem? hp'
      have hlab' : Lab p'.1 := hn p' hpn
      have hfl2 := flat_len (hP' K p) hp'
      refine ⟨[some (rowV o), some (rowV n), some (.ref r1), some p.1, some (boxV p.2), some p'.1, some (boxV p'.2), y7], by simp [cellV], ?_⟩
      have ta : fIx (boxV p'.2) (.int 0) m1 = some (.str (tagS p'.2.tag), m1) := by simp [boxV]
      have tb : fIx (boxV p.2) (.int 0) m1 = some (.str (tagS p.2.tag), m1) := by simp [boxV]
      have tc : ∀ m, fIx (boxV p.2) (.int 3) m = some (rowV (innR p.2.inn), m) := fun m => by simp [boxV, inV_row]
      have td : ∀ m, fIx (boxV p'.2) (.int 3) m = some (rowV (innR p'.2.inn), m) := fun m => by simp [boxV, inV_row]
      have stay : hP' K p p' = [] → KI o n m ([] :: (o.take k).flatMap fun p => n.flatMap (hP' K p)) (hP' K p) p.1 (boxV p.2) (j + 1) [some (rowV o), some (rowV n), some (.ref r1), some p.1, some (boxV p.2), some p'.1, some (boxV p'.2), y7] m1 := fun e => ⟨r1, p1, by rw [g1, flat_take (hP' K p) hp', e, List.append_nil], _, _, _, rfl⟩
      simp -implicitDefEqProofs [q_eqL hlab' hlab]
      by_cases h1 : p'.1 = p.1
      · simp -implicitDefEqProofs [h1, ta, tb, q_tag]
        by_cases h2 : p'.2.tag = p.2.tag
        · have hcond : hP' K p p' = (K p.2 p'.2).map (p.1 :: ·) := by
            unfold hP'
            rw [if_pos ⟨h1, h2⟩]
          simp -implicitDefEqProofs [h2, tc, td]
          refine hself p hpo p' hpn m1 _ fun m2 i p2 g2 => ?_
          simp -implicitDefEqProofs [lstAt_of g2]
          refine wp_lcL (fun _ => true) (preL p.1) g2 (by rw [List.length_map]; have := hKl p.2 p'.2; omega) (fun x hx m3 p3 => ?_) fun m3 p3 g3 => ?_
          · obtain ⟨ad, had, rfl⟩ := List.mem_map.mp hx
            have := hK p.2 p'.2 ad had
            refine ⟨_, rfl, ?_⟩
            simp -implicitDefEqProofs [wipeE]
            rw [if_pos (by omega)]
            simp -implicitDefEqProofs [preL]
          · have g4 : m3[r1]? = _ := p3.get (p2.get g1)
            have eL : ((K p.2 p'.2).map SV.tup |>.filter fun _ => true).map (preL p.1) = (hP' K p p').map SV.tup := by
              rw [filt_true, hcond, List.map_map, List.map_map]
              rfl
            rw [eL] at g3
            have hlen3 : (([] :: (o.take k).flatMap fun p => n.flatMap (hP' K p)) ++ (n.take j).flatMap (hP' K p)).length + (hP' K p p').length ≤ 900 := by
              simp only [List.length_append, List.length_cons]
              omega
            rw [q_addL g4 g3 (by rw [List.length_map, List.length_map]; omega)]
            simp -implicitDefEqProofs only [Option.bind_some, wp_some]
            refine ⟨m3.length, ((p1.tr p2).tr p3).tr .app, ?_, some p'.1, some (boxV p'.2), y7, ?_⟩
            · rw [flat_take (hP' K p) hp']
              simp
            · simp [h1]
        · have hne : hP' K p p' = [] := by
            unfold hP'
            rw [if_neg fun h => h2 h.2]
          simp -implicitDefEqProofs [h2]
          have := stay hne
          rw [h1] at this
          exact this
      · have hne : hP' K p p' = [] := by
          unfold hP'
          rw [if_neg fun h => h1 h.1]
        simp -implicitDefEqProofs [h1]
        exact stay hne
    · obtain ⟨r1, p1, g1, y5, y6, y7, rfl⟩ := I
      rw [List.length_map, List.take_of_length_le (Nat.le_refl _)] at g1
      refine ⟨r1, p1, ?_, _, _, _, _, _, rfl⟩
      rw [g1, flat_take (fun p => n.flatMap (hP' K p)) hp]
      simp
  · obtain ⟨r, p0, hg, x3, x4, x5, x6, x7, rfl⟩ := I
    rw [List.length_map, List.take_of_length_le (Nat.le_refl _)] at hg
    simp -implicitDefEqProofs
    exact q m' r p0 hg
theorem kp0 (d : Nat) (n : Row) : kpL d [] n = [[]] := by
  cases d <;> rfl
theorem w_law_kept0 {k : Nat} {n : Row} (hn : LabR n) (hn9 : n.length ≤ 400) : KD (F_law_kept (k + 1)) [] n [[]] := by
  have := w_kept_step (self := F_law_kept k) (o := []) (n := n) (K := fun _ _ => []) (fun p hp => (by cases hp)) hn (by simp) hn9 (fun a b ad h => (by cases h)) (fun a b => by simp) (fun p hp => (by cases hp)) (by simp)
  exact this
theorem w_law_kept1 {k : Nat} (i j : Bool) : KD (F_law_kept (k + 2)) (innR i) (innR j) (kpL 1 (innR i) (innR j)) := by
  have hi := innR_len i
  have hj := innR_len j
  refine w_kept_step (self := F_law_kept (k + 1)) (K := fun a b => kpL 0 (innR a.inn) (innR b.inn)) (labR_inn i) (labR_inn j) (by omega) (by omega) (fun a b ad h => ?_) (fun a b => by simp [kpL]) (fun p hp p' hp' => ?_) ?_
  · simp [kpL] at h
    subst h
    simp
  · have := dp_inn i p hp
    rw [show innR p.2.inn = [] from this]
    exact w_law_kept0 (labR_inn _) (by have := innR_len p'.2.inn; omega)
  · cases i <;> cases j <;> simp [innR, hP', kpL]
theorem kp1_mem {i j : Bool} : ∀ ad ∈ kpL 1 (innR i) (innR j), Labs ad ∧ ad.length ≤ 1 := by
  intro ad h
  cases i <;> cases j <;> simp [kpL, innR, hP'] at h <;> first | (subst h; exact ⟨fun x hx => (by cases hx), by simp⟩) | skip
  rcases h with rfl | rfl
  · exact ⟨fun x hx => (by cases hx), by simp⟩
  · exact ⟨fun x hx => (by simp at hx; subst hx; exact lab0_lab), by simp⟩
theorem kp1_len {i j : Bool} : (kpL 1 (innR i) (innR j)).length ≤ 2 := by
  cases i <;> cases j <;> simp [kpL, innR, hP']
theorem kp1_nil {i j : Bool} : [] ∈ kpL 1 (innR i) (innR j) := by simp [kpL]
theorem w_law_kept {o n : Row} (ho : RowOk o) (hn : RowOk n) : KD (F_law_kept 4) o n (kpL 2 o n) := by
  have hol := ho.len
  have hnl := hn.len
  refine w_kept_step (self := F_law_kept 3) (K := fun a b => kpL 1 (innR a.inn) (innR b.inn)) ho.lab hn.lab (by omega) (by omega) (fun a b ad h => by have := (kp1_mem ad h).2; omega) (fun a b => by have := kp1_len (i := a.inn) (j := b.inn); omega) (fun p hp p' hp' => w_law_kept1 _ _) ?_
  have h1 : ∀ p, (n.flatMap (hP' (fun a b => kpL 1 (innR a.inn) (innR b.inn)) p)).length ≤ 10 := fun p => by
    have := fm_len (g := hP' (fun a b => kpL 1 (innR a.inn) (innR b.inn)) p) (c := 2) (fun p' => by
      unfold hP'
      split
      · rw [List.length_map]
        exact kp1_len
      · simp) n
    omega
  have := fm_len h1 o
  omega
/-- what the law's kept tells of a label -/
theorem kp_mem {o n : Row} (ho : RowOk o) (hn : RowOk n) {l : SV} : [l] ∈ kpL 2 o n ↔ isK o n l = true := by
  simp only [kpL, List.mem_cons, List.mem_flatMap]
  constructor
  · rintro (h | ⟨p, hp, p', hp', h⟩)
    · cases h
    · unfold hP' at h
      split at h
      · rename_i hc
        obtain ⟨ad, _, e⟩ := List.mem_map.mp h
        injection e with e1 e2
        have a1 := bAt_of_mem ho (show (p.1, p.2) ∈ o from hp)
        have a2 := bAt_of_mem hn (show (p'.1, p'.2) ∈ n from hp')
        rw [hc.1, e1] at a2
        rw [e1] at a1
        simp [isK, a1, a2, hc.2]
      · cases h
  · intro h
    obtain ⟨a, b, e1, e2, e3⟩ := isK_some h
    obtain ⟨ka, _, e4⟩ := plc_of_bAt e1
    obtain ⟨kb, _, e5⟩ := plc_of_bAt e2
    refine .inr ⟨(l, a), List.mem_of_getElem? e4, (l, b), List.mem_of_getElem? e5, ?_⟩
    unfold hP'
    rw [if_pos ⟨rfl, e3.symm⟩]
    exact List.mem_map.mpr ⟨[], kp1_nil, rfl⟩
theorem kp_pl {o n : Row} (ho : RowOk o) : ∀ ad ∈ kpL 2 o n, Labs ad := by
  intro ad h
  simp only [kpL, List.mem_cons, List.mem_flatMap] at h
  rcases h with rfl | ⟨p, hp, p', hp', h⟩
  · exact fun x hx => (by cases hx)
  · unfold hP' at h
    split at h
    · obtain ⟨ad', h1, rfl⟩ := List.mem_map.mp h
      intro x hx
      rcases List.mem_cons.mp hx with rfl | hx
      · exact ho.lab p hp
      · exact (kp1_mem ad' h1).1 x hx
    · cases h
end VW

/-! viewwood k93, the plain law: the deeds of the top row, counted. -/
namespace VW
open PySem PySem.Spec PyProof.Rows L2
def isM : Dd → Bool
  | .move _ _ _ => true
  | _ => false
def isT : Dd → Bool
  | .take _ _ => true
  | _ => false
def isP : Dd → Bool
  | .put _ _ _ _ => true
  | _ => false
def atTop (d : Dd) : Bool := decide (adD d = [])
theorem len_split {α : Type} (p : α → Bool) : ∀ xs : List α, (xs.filter p).length + (xs.filter fun x => !p x).length = xs.length
  | [] => rfl
  | x :: xs => by
    have := len_split p xs
    cases e : p x <;> simp [List.filter_cons, e] <;> omega
def cnt (k : Dd → Bool) (ds : List Dd) : Nat := ((ds.filter atTop).filter k).length
theorem cnt_app (k : Dd → Bool) (a b : List Dd) : cnt k (a ++ b) = cnt k a + cnt k b := by simp [cnt]
theorem cnt_zero {k : Dd → Bool} {ds : List Dd} (h : ∀ d ∈ ds, adD d ≠ []) : cnt k ds = 0 := by
  have : ds.filter atTop = [] := List.filter_eq_nil_iff.mpr fun d hd => by simp [atTop, h d hd]
  simp [cnt, this]
theorem cnt_cons (k : Dd → Bool) (d : Dd) (ds : List Dd) (h : adD d = []) : cnt k (d :: ds) = (if k d = true then 1 else 0) + cnt k ds := by
  unfold cnt
  rw [List.filter_cons_of_pos (by simp [atTop, h]), List.filter_cons]
  split <;> simp <;> omega
theorem fill_ad {ad : List SV} {b : Bx} : ∀ d ∈ fillD ad b, adD d = ad := fun d hd => by
  rcases fill_mem hd with ⟨x, _, rfl⟩ | ⟨_, rfl⟩ <;> rfl
theorem cnt_take {k : Dd → Bool} {mine : List SV} {o : Row} {c : Bool} (h : ∀ l, k (.take [] l) = c) : cnt k (takeD [] mine o) = if c = true then ((o.map (·.1)).filter fun l => !decide (l ∈ mine)).length else 0 := by
  unfold takeD
  generalize (o.map (·.1)).filter (fun l => !decide (l ∈ mine)) = xs
  induction xs with
  | nil => cases c <;> rfl
  | cons x xs ih =>
    rw [List.map_cons, cnt_cons _ _ _ rfl, ih, h]
    cases c <;> simp
    omega
theorem cnt_ord {mine st : List SV} {k : Dd → Bool} {cm cp : Bool} (hm : ∀ l i, k (.move [] l i) = cm) (hp : ∀ i l t, k (.put [] i l t) = cp) : ∀ (rest : Row) (pv : Option SV) (now : List SV), cnt k (ordL mine st [] pv rest now) = (if cm = true then ((rest.map (·.1)).filter fun l => decide (l ∈ mine) && !decide (l ∈ st)).length else 0) + (if cp = true then ((rest.map (·.1)).filter fun l => !decide (l ∈ mine)).length else 0)
  | [], _, _ => by cases cm <;> cases cp <;> rfl
  | (l, b) :: rest, pv, now => by
    simp only [ordL]
    split
    · rename_i h1
      split
      · rename_i h2
        rw [cnt_ord hm hp rest]
        simp [h1, h2]
      · rename_i h2
        rw [cnt_cons _ _ _ rfl, cnt_ord hm hp rest, hm]
        cases cm <;> simp [h1, h2]
        omega
    · rename_i h1
      rw [cnt_cons _ _ _ rfl, cnt_app, cnt_zero (ds := fillD ([] ++ [l]) b) (fun d hd => by rw [fill_ad d hd]; simp), cnt_ord hm hp rest, hp]
      cases cp <;> simp [h1]
      omega
noncomputable section
theorem cnt_all {o n : Row} {k : Dd → Bool} {ct cm cp : Bool} (ht : ∀ l, k (.take [] l) = ct) (hm : ∀ l i, k (.move [] l i) = cm) (hp : ∀ i l t, k (.put [] i l t) = cp) : cnt k (rdD 3 [] o n) = (if ct = true then ((o.map (·.1)).filter fun l => !decide (l ∈ keptL o o n)).length else 0) + ((if cm = true then ((n.map (·.1)).filter fun l => decide (l ∈ keptL o o n) && !decide (l ∈ stO o n)).length else 0) + (if cp = true then ((n.map (·.1)).filter fun l => !decide (l ∈ keptL o o n)).length else 0)) := by
  rw [rdD_eq, cnt_app, oD, cnt_app, cnt_take ht, cnt_ord hm hp, cnt_zero]
  · rfl
  · intro d hd
    obtain ⟨l, _, hd⟩ := List.mem_flatMap.mp hd
    rcases List.mem_append.mp hd with hd | hd
    · rcases box_mem hd with ⟨_, rfl⟩ | ⟨x, _, _, rfl⟩ <;> simp [adD]
    · rcases inn_mem hd with ⟨_, _, rfl⟩ | ⟨_, _, rfl⟩ <;> simp [adD]
theorem filt_mine {o n : Row} (hsub : ∀ x, isK o n x = true → x ∈ o.map (·.1)) (xs : List SV) : xs.filter (fun l => decide (l ∈ keptL o o n)) = xs.filter (isK o n) := by
  refine List.filter_congr fun x _ => ?_
  simp only [mem_keptL']
  cases e : isK o n x with
  | false => simp
  | true => simp [hsub x e]
theorem kept_same {o n : Row} (ho : RowOk o) (hn : RowOk n) : (keptL o o n).length = (keptL n o n).length := by
  have n1 : (keptL o o n).Nodup := List.Pairwise.filter _ ho.nd
  have n2 : (keptL n o n).Nodup := List.Pairwise.filter _ hn.nd
  refine Nat.le_antisymm (nodup_len n1 fun x hx => ?_) (nodup_len n2 fun x hx => ?_)
  · have h := (mem_keptL'.mp hx).2
    exact mem_keptL'.mpr ⟨(isK_in h).2, h⟩
  · have h := (mem_keptL'.mp hx).2
    exact mem_keptL'.mpr ⟨(isK_in h).1, h⟩
theorem cnt_T {o n : Row} (ho : RowOk o) : cnt isT (rdD 3 [] o n) = o.length - (keptL o o n).length ∧ (keptL o o n).length ≤ o.length := by
  rw [cnt_all (ct := true) (cm := false) (cp := false) (fun _ => rfl) (fun _ _ => rfl) (fun _ _ _ => rfl)]
  have h1 := len_split (fun l => decide (l ∈ keptL o o n)) (o.map (·.1))
  have e : (o.map (·.1)).filter (fun l => decide (l ∈ keptL o o n)) = keptL o o n := filt_mine (fun x h => (isK_in h).1) _
  rw [e, List.length_map] at h1
  simp
  omega
theorem cnt_P {o n : Row} (hn : RowOk n) : cnt isP (rdD 3 [] o n) = n.length - (keptL n o n).length ∧ (keptL n o n).length ≤ n.length := by
  rw [cnt_all (ct := false) (cm := false) (cp := true) (fun _ => rfl) (fun _ _ => rfl) (fun _ _ _ => rfl)]
  have h1 := len_split (fun l => decide (l ∈ keptL o o n)) (n.map (·.1))
  have e : (n.map (·.1)).filter (fun l => decide (l ∈ keptL o o n)) = keptL n o n := filt_mine (fun x h => (isK_in h).1) _
  rw [e, List.length_map] at h1
  simp
  omega
theorem cnt_M {o n : Row} (ho : RowOk o) (hn : RowOk n) : cnt isM (rdD 3 [] o n) = (keptL o o n).length - (stO o n).length := by
  have hP := kept_pap ho hn
  have hB := hP.fB
  rw [cnt_all (ct := false) (cm := true) (cp := false) (fun _ => rfl) (fun _ _ => rfl) (fun _ _ _ => rfl)]
  have h1 := len_split (fun l => decide (l ∈ stO o n)) (keptL n o n)
  have e1 : (keptL n o n).filter (fun l => decide (l ∈ stO o n)) = stO o n := hB
  rw [e1, ← kept_same ho hn] at h1
  have e2 : (n.map (·.1)).filter (fun l => decide (l ∈ keptL o o n) && !decide (l ∈ stO o n)) = (keptL n o n).filter (fun l => !decide (l ∈ stO o n)) := by
    have e3 : keptL n o n = (n.map (·.1)).filter (fun l => decide (l ∈ keptL o o n)) := (filt_mine (fun x h => (isK_in h).1) _).symm
    rw [e3, List.filter_filter]
    refine List.filter_congr fun x _ => ?_
    rw [Bool.and_comm]
  rw [e2]
  simp
  omega
end
end VW

set_option maxHeartbeats 1000000
/-! viewwood k93, the plain law. -/
namespace VW
open PySem PySem.Spec PyProof.Rows L2
noncomputable section
theorem wp_lcL2 {b : DG} {T : DT} {F : DE} {vs : List Nat} {r : En} {m M : Mu} {i0 : Nat} {xs : List SV} {j : Nat} {Q : SV → Mu → Prop} (hi : m.length = i0) (hM : M = m ++ [.lst []]) (p : SV → Bool) (f : SV → SV) (hj : m[j]? = some (.lst xs)) (hl : xs.length ≤ 900)
    (h : ∀ x ∈ xs, ∀ m1, Pre m m1 → ∃ r1, b x (wipeE r vs) = some r1 ∧ Wp (T r1 m1) fun t m2 => t = p x ∧ Pre m1 m2 ∧ (t = true → Wp (F r1 m2) fun v m3 => v = f x ∧ Pre m2 m3))
    (k : ∀ m', Pre m m' → m'[m.length]? = some (.lst ((xs.filter p).map f)) → Q (.ref i0) m') : Wp ((dLcGo (fun m' => decide (lstAt m' j = some xs)) b T F vs i0 xs r M).map fun m' => (SV.ref i0, m')) Q := by
  subst hi hM
  exact wp_lcL p f hj hl h k
theorem dec_iff {p : Prop} [Decidable p] {b : Bool} (h : p ↔ b = true) : decide p = b := by
  cases b <;> simp at h <;> simp [h]
/-- [label for label, box in r if (label,) in same] -/
theorem w_keptC {o n r : Row} {same : Nat} {rv : En} {m : Mu} {Q : SV → Mu → Prop} (ho : RowOk o) (hn : RowOk n) (hr : RowOk r) (hs : m[same]? = some (.lst ((kpL 2 o n).map SV.tup))) (hl : rv.length = 17) (h5 : rv[5]? = some (some (.ref same))) (q : ∀ m', Pre m m' → m'[m.length]? = some (.lst (keptL r o n)) → Q (.ref m.length) m') :
    Wp ((dLcGo (fun _ => true) (bTup 2 (bCons (bName 15) (bCons (bName 16) bNil))) (dTr (dBin fInS (dTup (dCons (dVar 15) dNil)) (dVar 5))) (dVar 15) [15, 16] m.length (r.map cellV) rv (m ++ [.lst []])).map fun m' => (SV.ref m.length, m')) Q := by
  have hrl := hr.len
  refine wp_lcT (fun x => isK o n (hdS x)) hdS (by rw [List.length_map]; omega) (fun x hx m1 p1 => ?_) fun m1 p1 g1 => ?_
  · obtain ⟨p, hp, rfl⟩ := List.mem_map.mp hx
    have hlab := hr.lab p hp
    have e15 : (((wipeE rv [15, 16]).set 15 (some p.1)).set 16 (some (boxV p.2)))[15]? = some (some p.1) := by
      rw [List.getElem?_set_ne (by omega), List.getElem?_set_self (by simp [wipeE, hl])]
    have e5 : (((wipeE rv [15, 16]).set 15 (some p.1)).set 16 (some (boxV p.2)))[5]? = some (some (.ref same)) := by
      rw [List.getElem?_set_ne (by omega), List.getElem?_set_ne (by omega)]
      simp only [wipeE]
      rw [List.getElem?_set_ne (by omega), List.getElem?_set_ne (by omega)]
      exact h5
    refine ⟨((wipeE rv [15, 16]).set 15 (some p.1)).set 16 (some (boxV p.2)), by simp [cellV], ?_⟩
    have hp1 : pl 40 (.tup [p.1]) = true := by
      rw [pl_tup]
      simp [pl_labN 39 hlab]
    have hp2 : pls 40 ((kpL 2 o n).map SV.tup) = true := by
      rw [pls, List.all_eq_true]
      intro y hy
      obtain ⟨ad, had, rfl⟩ := List.mem_map.mp hy
      exact pl_le (pl_ad (kp_pl ho ad had)) (by decide)
    have hmem : (SV.tup [p.1] ∈ (kpL 2 o n).map SV.tup) ↔ isK o n p.1 = true := by
      rw [← kp_mem ho hn]
      constructor
      · intro h
        obtain ⟨ad, had, e⟩ := List.mem_map.mp h
        injection e with e
        rw [← e]
        exact had
      · exact fun h => List.mem_map.mpr ⟨_, h, rfl⟩
    have hin : fInS (.tup [p.1]) (.ref same) m1 = some (.bl (isK o n p.1), m1) := by
      rw [fInS_pl (ys := (kpL 2 o n).map SV.tup) (by simp [itemsM, p1.get hs]) hp1 hp2]
      have e6 : decide (SV.tup [p.1] ∈ (kpL 2 o n).map SV.tup) = isK o n p.1 := dec_iff hmem
      rw [e6]
    simp -implicitDefEqProofs only [q_tr, q_bin, q_tup, q_cons, q_nil, q_var, e15, e5, Option.bind_some, List.length_cons, List.length_nil]
    simp -implicitDefEqProofs [hin, cellV, hdS]
  · refine q m1 p1 ?_
    rw [g1]
    congr 2
    rw [keptL]
    clear g1 q
    induction r with
    | nil => rfl
    | cons p r ih =>
      have ih := ih ⟨fun p hp => hr.lab p (by simp [hp]), by simp at hrl; omega, by have := hr.nd; simp at this ⊢; exact this.2⟩ (by simp at hrl; omega)
      simp only [List.map_cons, List.filter_cons]
      rw [show hdS (cellV p) = p.1 from rfl]
      cases isK o n p.1 <;> simp [ih]
      rfl
theorem tagW (d : Dd) (m : Mu) : ∃ w rest, dV d = .tup (.str w :: .tup (adD d) :: rest) ∧ fEq (.str w) (.str "move") m = some (.bl (isM d), m) ∧ fEq (.str w) (.str "take") m = some (.bl (isT d), m) ∧ fEq (.str w) (.str "put") m = some (.bl (isP d), m) := by
  cases d
  · exact ⟨_, _, rfl, e_take_move, e_take_take, e_take_put⟩
  · exact ⟨_, _, rfl, e_put_move, e_put_take, e_put_put⟩
  · exact ⟨_, _, rfl, e_move_move, e_move_take, e_move_put⟩
  · exact ⟨_, _, rfl, e_set_move, e_set_take, e_set_put⟩
  · exact ⟨_, _, rfl, e_unset_move, e_unset_take, e_unset_put⟩
theorem filt_dV (f : Dd → Bool) (g : SV → Bool) (h : ∀ d, g (dV d) = f d) : ∀ ds : List Dd, (ds.map dV).filter g = (ds.filter f).map dV
  | [] => rfl
  | d :: ds => by
    rw [List.map_cons, List.filter_cons, List.filter_cons, filt_dV f g h ds, h]
    split <;> simp
/-- the address of a deed's value is empty -/
def gTop : SV → Bool
  | .tup (_ :: .tup [] :: _) => true
  | _ => false
theorem gTop_dV (d : Dd) : gTop (dV d) = atTop d := by
  obtain ⟨w, rest, e⟩ := dV_1 d
  rw [e]
  unfold atTop
  cases adD d <;> rfl
def gW (w : SV) : SV → Bool
  | .tup (x :: _) => decide (x = w)
  | _ => false
theorem gW_dV (d : Dd) : gW (.str "move") (dV d) = isM d ∧ gW (.str "take") (dV d) = isT d ∧ gW (.str "put") (dV d) = isP d := by
  have h : ∀ (x w : Str) (b : Bool) (m : Mu), PyData.strOk x = true → PyData.strOk w = true → fEq (.str x) (.str w) m = some (.bl b, m) → decide (SV.str x = SV.str w) = b := fun x w b m h1 h2 h3 => by
    rw [q_eqP 0 (by simpa [pl] using h1) (by simpa [pl] using h2)] at h3
    injection h3 with h3
    injection h3 with h3
    injection h3
  have s := so_w
  cases d
  · exact ⟨h _ _ _ [] s.2.1 s.2.2.1 e_take_move, h _ _ _ [] s.2.1 s.2.1 e_take_take, h _ _ _ [] s.2.1 s.1 e_take_put⟩
  · exact ⟨h _ _ _ [] s.1 s.2.2.1 e_put_move, h _ _ _ [] s.1 s.2.1 e_put_take, h _ _ _ [] s.1 s.1 e_put_put⟩
  · exact ⟨h _ _ _ [] s.2.2.1 s.2.2.1 e_move_move, h _ _ _ [] s.2.2.1 s.2.1 e_move_take, h _ _ _ [] s.2.2.1 s.1 e_move_put⟩
  · exact ⟨h _ _ _ [] s.2.2.2.1 s.2.2.1 e_set_move, h _ _ _ [] s.2.2.2.1 s.2.1 e_set_take, h _ _ _ [] s.2.2.2.1 s.1 e_set_put⟩
  · exact ⟨h _ _ _ [] s.2.2.2.2 s.2.2.1 e_unset_move, h _ _ _ [] s.2.2.2.2 s.2.1 e_unset_take, h _ _ _ [] s.2.2.2.2 s.1 e_unset_put⟩
theorem q_eqW {d : Dd} {w : Str} {rest : List SV} (e : dV d = .tup (.str w :: rest)) {x : Str} (hx : x = "move" ∨ x = "take" ∨ x = "put") (m : Mu) : fEq (.str w) (.str x) m = some (.bl (gW (.str x) (dV d)), m) := by
  obtain ⟨w', rest', e', h1, h2, h3⟩ := tagW d m
  rw [e] at e'
  injection e' with e'
  injection e' with e1 e2
  injection e1 with e1
  subst e1
  obtain ⟨k1, k2, k3⟩ := gW_dV d
  rcases hx with rfl | rfl | rfl
  · rw [h1, k1]
  · rw [h2, k2]
  · rw [h3, k3]
theorem ints_ne {i j : Nat} {m : Mu} {a b c a' b' c' : Int} (hi : m[i]? = some (.lst [.int a, .int b, .int c])) (hj : m[j]? = some (.lst [.int a', .int b', .int c'])) (h : a = a' ∧ b = b' ∧ c = c') : fNe (.ref i) (.ref j) m = some (.bl false, m) := by
  rw [fNe_lst hi hj (by simp [pls, pl]) (by simp [pls, pl])]
  simp [h]
theorem law_wp (ns : List Int) : Wp (F_law [.scr ns] []) fun v _ => v = .bl true := by
  simp -implicitDefEqProofs [F_law, S_law, F_law_tape, S_law_tape]
  have hT0 : Tape ns 0 0 [MO.lst [.scr ns, .int 0, .int 0, .int 0]] := ⟨0, 0, 0, rfl, by omega, by omega, by omega, by omega⟩
  refine w_labels hT0 (by omega) (by omega) fun m1 L f1 hT1 g1 hl1 hL => ?_
  simp -implicitDefEqProofs at g1
  refine w_some_row hT1 (by omega) (by omega) g1 hL hl1 fun m2 o f2 hT2 ho hso => ?_
  have g2 := f2.get g1 (by simp)
  refine w_some_row hT2 (by omega) (by omega) g2 hL hl1 fun m3 n f3 hT3 hn hsn => ?_
  refine w_law_kept ho hn m3 _ fun m4 same p4 g4 => ?_
  have hol := ho.len
  have hnl := hn.len
  have hP := kept_pap ho hn
  have eo : rowV o = .tup (o.map cellV) := rfl
  have en : rowV n = .tup (n.map cellV) := rfl
  rw [eo, en]
  simp -implicitDefEqProofs
  refine w_keptC ho hn ho g4 rfl rfl fun m5 p5 g5 => ?_
  rw [q_tupleL g5]
  simp -implicitDefEqProofs
  refine w_keptC ho hn hn (p5.get g4) rfl rfl fun m6 p6 g6 => ?_
  rw [q_tupleL g6]
  simp -implicitDefEqProofs
  refine hP.few m6 _ fun m7 p7 => ?_
  rw [← eo, ← en]
  refine w_paper_of ho hn (rdD_len ho hn) (rdR_len ho) fun m8 p8 => ?_
  refine w_lets ho hn hsn fun m9 p9 => ?_
  have hdl := rdD_len ho hn
  simp -implicitDefEqProofs
  generalize hds : rdD 3 [] o n = ds at *
  refine wp_lcT gTop id (by rw [List.length_map]; exact hdl) (fun x hx m10 p10 => ?_) fun m10 p10 g10 => ?_
  · obtain ⟨d, hd, rfl⟩ := List.mem_map.mp hx
    have hdok : DOk d := dm_ok ho hn hsn (dm_of ho hn (by rw [hds]; exact hd))
    have hlad : Labs (adD d) := by
      cases d <;> first | exact hdok.1.1 | exact hdok.1
    obtain ⟨w, rest, e⟩ := dV_1 d
    have hg := gTop_dV d
    rw [e] at hg ⊢
    refine ⟨_, rfl, ?_⟩
    simp -implicitDefEqProofs [wipeE, q_eqP 3 (pl_ad hlad) (show pl 3 (.tup []) = true by simp [pl_tup])]
    rw [hg]
    rfl
  · have g10 : m10[m9.length]? = some (.lst ((ds.filter atTop).map dV)) := by
      rw [g10, filt_dV atTop gTop gTop_dV, List.map_id]
    have hfl : (ds.filter atTop).length ≤ 900 := Nat.le_trans (List.length_filter_le _ _) hdl
    have hw : lstAt (m10 ++ [MO.lst [.str "move", .str "take", .str "put"]]) m10.length = some [.str "move", .str "take", .str "put"] := by simp [lstAt]
    have hdd : ∀ d ∈ ds, DM o n d := fun d hd => dm_of ho hn (by rw [hds]; exact hd)
    simp -implicitDefEqProofs [hw]
    refine wp_lcL2 (m := m10 ++ [MO.lst [.str "move", .str "take", .str "put"]]) (by simp) (by simp) (fun _ => true) (fun x => .int (((ds.filter atTop).map dV).filter (gW x)).length) (lstAt_some hw) (by simp) (fun x hx m11 p11 => ⟨_, rfl, ?_⟩) fun m11 p11 g11 => ?_
    · have hx' : ∃ y : Str, x = .str y ∧ (y = "move" ∨ y = "take" ∨ y = "put") := by
        simp at hx
        rcases hx with rfl | rfl | rfl
        · exact ⟨_, rfl, .inl rfl⟩
        · exact ⟨_, rfl, .inr (.inl rfl)⟩
        · exact ⟨_, rfl, .inr (.inr rfl)⟩
      obtain ⟨y, rfl, hy⟩ := hx'
      have g12 := p11.get ((Pre.app (g := [MO.lst [.str "move", .str "take", .str "put"]])).get g10)
      simp -implicitDefEqProofs [wipeE, lstAt_of g12]
      refine wp_lcL (gW (.str y)) id g12 (by rw [List.length_map]; exact hfl) (fun z hz m13 p13 => ?_) fun m13 p13 g13 => ?_
      · obtain ⟨d, hd, rfl⟩ := List.mem_map.mp hz
        obtain ⟨w, rest, e⟩ := dV_1 d
        have hq := fun m => q_eqW e hy m
        rw [e] at hq ⊢
        refine ⟨_, rfl, ?_⟩
        simp -implicitDefEqProofs [wipeE, hq]
      · rw [q_lenL g13]
        simp -implicitDefEqProofs
        exact p13
    · have gc : ∀ (k : Dd → Bool) (w : SV), (∀ d, gW w (dV d) = k d) → (((ds.filter atTop).map dV).filter (gW w)).length = cnt k ds := fun k w h => by
        rw [filt_dV k (gW w) h, List.length_map]
        rfl
      have c1 := gc isM (.str "move") fun d => (gW_dV d).1
      have c2 := gc isT (.str "take") fun d => (gW_dV d).2.1
      have c3 := gc isP (.str "put") fun d => (gW_dV d).2.2
      have k1 := cnt_M ho hn
      obtain ⟨k2, k3⟩ := cnt_T (n := n) ho
      obtain ⟨k4, k5⟩ := cnt_P (o := o) hn
      rw [hds] at k1 k2 k4
      have g11 : m11[m10.length + 1]? = some (.lst [.int (cnt isM ds), .int (cnt isT ds), .int (cnt isP ds)]) := by
        have := g11
        simp only [filt_true, List.map_cons, List.map_nil, c1, c2, c3] at this
        simpa using this
      have e1 : ∀ (x y z : Int) , x = cnt isM ds → y = cnt isT ds → z = cnt isP ds → fNe (.ref (m10.length + 1)) (.ref m11.length) (m11 ++ [MO.lst [.int x, .int y, .int z]]) = some (.bl false, m11 ++ [MO.lst [.int x, .int y, .int z]]) := fun x y z h1 h2 h3 => ints_ne (Pre.app.get g11) (by simp) ⟨h1.symm, h2.symm, h3.symm⟩
      rw [e1 _ _ _ (by rw [k1]; rfl) (by omega) (by omega)]
      generalize MO.lst [SV.int (((keptL o o n).length - (papC (keptL o o n) (keptL n o n)).1.length : Nat) : Int), SV.int ((o.length : Int) - ((keptL o o n).length : Int)), SV.int ((n.length : Int) - ((keptL n o n).length : Int))] = I
      have g20 := (Pre.app (g := [I])).get (p11.get ((Pre.app (g := [MO.lst [.str "move", .str "take", .str "put"]])).get g10))
      simp -implicitDefEqProofs [lstAt_of g20]
      refine wp_lcL2 (m := m11 ++ [I]) (by simp) (by simp) (fun _ => false) id g20 (by rw [List.length_map]; exact hfl) (fun x hx m13 p13 => ?_) fun m13 p13 g13 => ?_
      · obtain ⟨d, hd, rfl⟩ := List.mem_map.mp hx
        rw [List.mem_filter] at hd
        have hdm := hdd d hd.1
        have hat : adD d = [] := by simpa [atTop] using hd.2
        obtain ⟨w, rest, e⟩ := dV_1 d
        have hq := fun m => q_eqW e (x := "take") (.inr (.inl rfl)) m
        rw [(gW_dV d).2.1] at hq
        cases hT : isT d with
        | false =>
          rw [hT] at hq
          rw [e]
          refine ⟨_, rfl, ?_⟩
          simp -implicitDefEqProofs [wipeE, hq]
        | true =>
          cases hdm with
          | take l h1 h2 =>
            have hin : ∀ m, fInS l (.tup (keptL o o n)) m = some (.bl false, m) := fun m => by
              rw [fInS_pl (ys := keptL o o n) rfl (pl_labN 40 (labR_mem ho.lab h1)) (pls_labs (labs_keptL ho.lab))]
              simp [h2]
            refine ⟨_, rfl, ?_⟩
            simp -implicitDefEqProofs [wipeE, dV, hin]
          | itake l a b h1 h2 h3 h4 h5 => cases hat
          | put l b k h1 h2 h3 => cases hT
          | fset l b x h1 h2 h3 => cases hT
          | fput l b h1 h2 h3 => cases hT
          | move l k h1 h2 h3 => cases hT
          | unset l a b h1 h2 h3 h4 => cases hT
          | set l a b x h1 h2 h3 h4 h5 => cases hT
          | iput l a b h1 h2 h3 h4 h5 => cases hT
      · have g14 : m13[m11.length + 1]? = some (.lst []) := by
          have := g13
          rw [List.filter_eq_nil_iff.mpr (by simp)] at this
          simpa using this
        have e2 : fNe (.ref (m11.length + 1)) (.ref m13.length) (m13 ++ [MO.lst []]) = some (.bl false, m13 ++ [MO.lst []]) := by
          rw [fNe_lst (xs := []) (ys := []) (Pre.app.get g14) (by simp) (by simp [pls]) (by simp [pls])]
          simp
        rw [e2]
        simp -implicitDefEqProofs
        refine hP.row _ _ fun m15 p15 => ?_
        simp -implicitDefEqProofs
        refine w_lets_row hP.lr fun m16 p16 => ?_
        have hle := hP.le
        simp -implicitDefEqProofs
        omega
theorem law_plain (ns : List Int) : ∃ m', F_law [.scr ns] [] = some (.bl true, m') := by
  obtain ⟨v, m', e, rfl⟩ := law_wp ns
  exact ⟨m', e⟩
end
end VW

set_option maxHeartbeats 0
/-! viewwood k93: the run of the top, the end. -/
namespace VW
open PySem PySem.Spec PyProof.Rows L2
abbrev R93 : PySem.W.OpenRow := PySem.W.OpenLaw.row PySem.Challenge.rw_viewwood_k93_whole_fewest_moves
abbrev q93 : Program := PySem.W.view R93.prog [65]
abbrev hk93 : PySem.W.Hook := hookV 3
def ob93 (s : PySem.W.SharedT) : HkA := obsVG 3 (HandSHeadRun.getT s)
theorem ob93_eq (s : PySem.W.SharedT) : ob93 s = hk93.obs s.abs := obsVG_eq (HandSHeadRun.getT_eq s)
theorem run93f (w : World) : HandSHeadRun.RunEq R93 q93 hk93 ob93 4000 looseN (w.withFollow "special-get-raises" false) := by
  intro os
  kernel_rfl
theorem run93t (w : World) : HandSHeadRun.RunEq R93 q93 hk93 ob93 4000 looseN (w.withFollow "special-get-raises" true) := by
  intro os
  kernel_rfl
theorem run93 (w : World) : HandSHeadRun.RunEq R93 q93 hk93 ob93 4000 looseN w := PySem.W.byRow2 "special-get-raises" run93f run93t w
theorem sp93 {P : Program} {w : World} {K : PySem.W.Frag} {H : Hp} {a : Addr} {ns : List Int} (hl : ns.length ≤ 63) (hS : SqL K H a (ns.map V.int)) : spD ⟨P, w, K, a, ns⟩ F_law [.ref a] H (fun v _ => v = .bl true) fun _ _ _ => False := by
  obtain ⟨m', e⟩ := law_plain ns
  refine ⟨[], [], [.scr ns], .bl true, m', ⟨rfl, List.nodup_nil, fun i a o e => (by cases e), ?_, hl⟩, .cons .scr .nil, e, ?_⟩
  · rcases hS with h | h
    · exact .inl ⟨h, List.not_mem_nil⟩
    · exact .inr h
  · intro c H1 A1 s1 R1 q1
    exact q1.ex_bl
end VW
open PySem PySem.W PySem.Calls PyProof.Rows
theorem PySem.Challenge.cw_viewwood_k93_whole_fewest_moves_holds : PySem.Challenge.rw_viewwood_k93_whole_fewest_moves.Holds := by
  w_on; o_law
  refine HandSHeadRun.head_any (r := OpenLaw.row PySem.Challenge.rw_viewwood_k93_whole_fewest_moves) (q := VW.q93) (H := VW.hk93) (ob := VW.ob93) (M := 4000) (loose := VW.looseN) (d := HandSHeadRun.topDef (OpenLaw.row PySem.Challenge.rw_viewwood_k93_whole_fewest_moves).prog 65) (kwd := []) VW.ob93_eq
    (by kernel_rfl) (fun s => by kernel_rfl) VW.run93 (by kernel_rfl) (by kernel_rfl) (by kernel_rfl) (by rfl) (by first | assumption | decide +kernel) (by decide +kernel) ⟨rfl, rfl, rfl, rfl, rfl, by decide +kernel⟩ ?hw ?hc
  case hw => w_witness2
  case hc =>
    refine L2.walk_ofE (l := PySem.Challenge.rw_viewwood_k93_whole_fewest_moves) (n := 63) (k := 11) (x := "_law_script") (CX := L2.CX0) rfl (by decide) (by kernel_rfl) ⟨rfl, by decide, by decide⟩ ?F (fun _ _ _ _ z => z)
    intro w mg fa h Y G hmg0
    obtain ⟨K, KX, c⟩ := Y
    have hmg : mg ("law" : PySem.Str) = some (.ref fa) := by
      have e : (HandSHeadRun.topDef (OpenLaw.row PySem.Challenge.rw_viewwood_k93_whole_fewest_moves).prog 65).name = ("law" : PySem.Str) := by kernel_rfl
      rw [← e]
      exact hmg0
    obtain ⟨fd, hb, hF⟩ := VW.facts_law (P := (PySem.Challenge.rw_viewwood_k93_whole_fewest_moves).prog) (w := w) KX G hmg c
    exact ⟨K, fd, fun vs H Q E => ∃ (a : Addr) (ns : List Int), VW.spD ⟨(PySem.Challenge.rw_viewwood_k93_whole_fewest_moves).prog, w, K, a, ns⟩ VW.F_law vs H Q E, KX, hb, fun H a ns hl _ hS => ⟨a, ns, VW.sp93 hl hS⟩,
      fun base hK hN => ⟨fun vs H Q E ⟨a, ns, q⟩ => (hF base ⟨a, ns⟩).len vs H Q E q, fun A outer s H args us vs Q E hr h0 hb hv ⟨a, ns, q⟩ => (hF base ⟨a, ns⟩).run A outer s H args us vs Q E hr h0 hb hv q⟩⟩

